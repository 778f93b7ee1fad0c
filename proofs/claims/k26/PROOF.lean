import PyProof.Rows.All
import Wide.All
import OpenK.AllK
import Wide.FinOn
import HandS.ForMost
import HandS.ForExc
import HandS.Flow
import HandS.Wide
import HandS.IsInst
import HandS.ExcCtx
import HandS.HotCalls
import HandS.ExcInit
import HandS.ExcField
import HandS.ExcIs
import HandS.WrittenGet
import HandS.HeadHook4
import HandS.HeadEnd
import HandS.HeadWalk
import HandS.Head2
import HandS.Codes
import HandS.Steps
import HandS.SortInts
import HandS.ExcInitHot
import HandS.Conv
import HandS.Iter
import HandS.Style
import PySem.Challenge.RW_toldoutside_k26_built_layouts
set_option Elab.async false
set_option linter.all false
set_option maxRecDepth 100000
set_option maxHeartbeats 4000000
/-! CmA: operators that take any kind of value, own errors with an __init__, what a suite's callee sees of the error. -/
namespace L3
open PySem PySem.Spec PyProof.Rows L2

/-! ### operators by any values: one rule a sign, the value tells which way -/
section
variable {X : Cx}
/-- a + b: ints, new lists, texts, tuples -/
def rPlus (K : PySem.W.Frag) : R2 := fun x y H Q => rI0 (fun i j => .int (i + j)) x y H Q ∨ rCat x y H Q ∨ (∃ i j, x = .str i ∧ y = .str j ∧ i.length + j.length ≤ sizeLine ∧ Q (.str (i ++ j)) H)
theorem op_plus : OpR X (binaryOp .Add) (rPlus X.K) := OpR.or op_add (OpR.or op_cat op_add_str)
/-- a * b: wide ints, a list so many times -/
def rTimes : R2 := fun x y H Q => rI CMulW (fun i j => .int (i * j)) x y H Q ∨ rRep x y H Q
theorem op_times : OpR X (binaryOp .Mult) rTimes := OpR.or op_mulW op_rep
/-- a == b, a != b: scalars, data of any depth -/
def rSame (K : PySem.W.Frag) : R2 := fun x y H Q => rEq x y H Q ∨ rEqD K x y H Q
theorem op_same (hu : X.A.units + 64 < cLine) : OpR X (compareOp .Eq) (rSame X.K) := OpR.or op_eq (op_eqD hu)
def rOther (K : PySem.W.Frag) : R2 := fun x y H Q => rNe x y H Q ∨ rNeD K x y H Q
theorem op_other (hu : X.A.units + 64 < cLine) : OpR X (compareOp .NotEq) (rOther X.K) := OpR.or op_ne (op_neD hu)
/-- x[i] of a list, a tuple -/
def rAt (K : PySem.W.Frag) : R2 := fun x y H Q => rIxL K x y H Q ∨ rIxT K x y H Q
theorem ix_at : IxR X (rAt X.K) := IxR.or ix_list ix_tup
end
theorem hu64 {A : Around} {k : Nat} (hr : Room k A) : A.units + 64 < cLine := by have := hr.un; omega
theorem hu1 {A : Around} {k : Nat} (hr : Room k A) : A.units + 1 < cLine := by have := hr.un; omega
end L3
set_option maxRecDepth 100000
set_option maxHeartbeats 4000000
namespace L3
open PySem PySem.Spec PyProof.Rows L2

/-! ### C(e, ..) for an own error class with its own __init__, where the maker's context is None (nothing is handled) -/
theorem pmk_err {X : Cx} {CX : CXT} {x : Str} {e : Expr} {es : List Expr} {ta : TA} {p pos : Pos} {C fI : Addr} {k : Nat} {fd : FuncData} {ps : List Str} {sp : Sp} (T : OexC X.K C)
    (iC : PySem.W.findIn X.K (.ref C) "__init__" = some (some (.ref fI))) (tI : PySem.W.typeIn X.K (.ref fI) = some (.type "function"))
    (F1 : FnOk X.prog X.w X.K X.mg X.base CX k fI fd ps sp) (hr : Room (k + 1) X.A) (hb : Binds X.K fd ps []) (hx : Passes CX X (fun _ _ _ => False)) (hg : Gl X x) (hm : X.mg x = some (.ref C)) (ha : PA X (e :: es) ta)
    (hdb : (x == ("__debug__" : Str)) = false := by decide) (he : starEach (e :: es) X.env = (false, eval e X.env) :: starEach es X.env := by rfl) (hpl : (backTo pos (starEach es X.env)).any (·.1) = false := by rfl) :
    L2N.PMk X (.Call (.Name x p) (e :: es) [] pos) (tMkO C sp [] ta) := by
  intro pins s σ H Q I h
  have TC := T.cls
  obtain ⟨nm, q, N, bs, bm, sn, sub, ab, col, dd, k0, k1, k2, k3, k5, hC, hbm⟩ := TC
  refine wpAny_Call_Name_kw (ld_glob I hg hm ?_ hdb)
  have arg := ha.run pos pins s σ H _ I h
  refine PySem.W.callWith_K (h₀ := X.base) I.ok.mod.kin T.kC (thn arg fun us s1 hh => ?_) he hpl
  obtain ⟨vs, H1, I1, r1, hz, q1⟩ := hh
  refine ⟨I1.kIn, ?_⟩
  show wpAny _ _ (call (.ref C) us) _ _ _
  obtain ⟨hp, g, dr, tk, os⟩ := s1
  have below : hp.objs.size ≤ hp.objs.size + 1 := Nat.le_succ _
  have fresh : H1 (hp.objs.size + 1) = none := I1.hok.fresh below
  have wish := q1 (hp.objs.size + 1) fresh
  have old : ∀ b o, hp.get? b = some o → ((hp.push (PySem.W.kdv_tup us)).push (PySem.HandSPX.excO C hp.objs.size)).get? b = some o := fun b o e => Heap.get?_push_of_some _ (Heap.get?_push_of_some _ e)
  have there : ((hp.push (PySem.W.kdv_tup us)).push (PySem.HandSPX.excO C hp.objs.size)).get? (hp.objs.size + 1) = some (PySem.HandSPX.excO C hp.objs.size) := by heap_get
  have I2 : Inv X pins σ (upd H1 (hp.objs.size + 1) (exo (hp.objs.size + 1) C none)) ⟨(hp.push (PySem.W.kdv_tup us)).push (PySem.HandSPX.excO C hp.objs.size), g, dr, tk, os⟩ :=
    I1.laid (t' := tk) (a := hp.objs.size + 1) (o := exo (hp.objs.size + 1) C none) old below (exo_ok there)
  have r2 : Vals (V.ref (hp.objs.size + 1) :: (vs ++ [])) (Value.ref (hp.objs.size + 1) :: (us ++ [])) := .cons rfl (r1.append .nil)
  have len : (Value.ref (hp.objs.size + 1) :: us ++ []).length = ps.length := ((F1.len _ _ _ _ wish).symm.trans r2.length).symm
  have few : us.length ≤ sizeLine := by
    rw [← Paired.length r1, sizeLine_eq]
    omega
  have init := F1.run _ X.stack _ _ ⟨Value.ref (hp.objs.size + 1) :: us, []⟩ (Value.ref (hp.objs.size + 1) :: (us ++ [])) _ _ (fun _ _ _ => False) (hr.make C us []) (I2.env0.make C us [])
    (by have z := hb _ (Value.ref (hp.objs.size + 1) :: us) I2.kIn len; rw [List.cons_append] at z; exact z) r2 wish
  refine wpAny_call (PySem.HandSPX.call_own F.excBase_ValueError (fun Y => PySem.HandSPX.refsVE_contains Y bm hbm) (I1.kIn _ _ hC) (PySem.W.looks_findIn I1.kIn iC) (fun self => PySem.W.bind_fn I1.kIn self tI) few
    (codeAny_mono init fun r s' z => ?_))
  cases r with
  | error er => exact hx pins σ _ _ er s' I2 z
  | ok fl =>
    cases fl with
    | ret u =>
      obtain ⟨v, H2, os2, bare2, un2, hok2, rv, ev, d, fs, ea, ed, hd1, q2⟩ := z
      subst ev
      obtain ⟨h2, g2, d2, t2, os'⟩ := s'
      obtain ⟨t0, G, J, kG, ge, hoe, na⟩ := mk_end0 (d2 := d2) (t2 := t2) I1 below old un2 hok2 os2 bare2 ea ed hd1
      refine ⟨rv, ⟨hp.objs.size + 1, _, _, ⟨G, g2, d2, t2, os'⟩, _, .ref C, some d, rfl, J, kG, ge, hoe, ⟨rfl, rfl, fun vs hv => ?_⟩, rfl, rfl, na, rfl, bare2, raises_own T.exC T.tyC, q2⟩⟩
      cases hv
      rfl
    | next => exact z.elim
    | brk => exact z.elim
    | cont => exact z.elim

/-! ### a def called in a suite, the handled error p among its arguments: the promise may speak of p -/
abbrev SpP := Addr × Obj → Sp
structure FnP (P : Program) (w : World) (K : PySem.W.Frag) (mg : Str → Option Value) (base : Heap) (CX : CXT) (k : Nat) (f : Addr) (fd : FuncData) (ps : List Str) (sp : SpP) : Prop where
  len : ∀ p vs H Q E, sp p vs H Q E → vs.length = ps.length
  run : ∀ (p : Addr × Obj) (A : Around) (outer : List Env) (s : Shared) (H : Hp) (args : Args) (us : List Value) (vs : List V) (Q : VK) (E : XK), L2H.RoomH k A → L2H.Hot1 A p → L2H.PinOk outer H s p → Env0 P w K mg base A outer s H →
    BindsTo s fd args (ps.zip us) → Vals vs us → sp p vs H Q E → codeAny (model P w) A (.call (.ref f) args) (CR CX outer P w H s Q E) s
/-- a body by its reading, p at hand -/
theorem fnP_of {CX : CXT} {P : Program} {w : World} {K : PySem.W.Frag} {mg : Str → Option Value} {base : Heap} {k : Nat} {f : Addr} {name qual : Str} {params : Arguments} {body : List Stmt} {scope : Scope} {fd : FuncData} {N ps : List Str} {sp : SpP}
    (FD : FunD K name qual params body scope [] [] f fd) (S : FnScope N ps scope) (len : ∀ p vs H Q E, sp p vs H Q E → vs.length = ps.length)
    (hbody : ∀ (p : Addr × Obj) (cdv : Value) (A : Around) (outer : List Env) (s : Shared) (H : Hp) (vs : List V) (Q : VK) (E : XK), L2H.Hot1 A p → L2H.RoomH k (A.deeper (envOfC qual scope s.heap.objs.size f cdv)) → sp p vs H Q E →
      ∃ t, PSs (L2H.cxH CX P w K mg base N qual scope f cdv A outer s H E p) body t ∧ t { nx := fun _ H' => Q .non H', rt := Q } (L2.start N vs) H) :
    FnP P w K mg base CX (k + 1) f fd ps sp := by
  obtain ⟨oc, od, dV, kV, doc, pm, an, cdv, ct, osl, rfl, lk, hcd, _, _⟩ := FD.ex
  refine ⟨len, fun p A outer s H args us vs Q E hr hot hpin e0 hb r hsp => ?_⟩
  -- for this p alone the library's hot promise
  let sq : Sp := fun vs' H' Q' E' => vs' = vs ∧ H' = H ∧ Q' = Q ∧ E' = E
  have hl := len _ _ _ _ _ hsp
  have KX : K.In s.heap := e0.mod.kin.keeps fun b o e => (e0.bs b o e).1
  have lim : s.heap.NoLimit := e0.mod.nolimit.keeps fun b o e => (e0.bs b o e).1
  have kinds : ∀ y ∈ ps.zip us, scope.names.lookup y.1 = some .local ∨ (scope.names.lookup y.1 = some .cell ∧ ((cellsFrom (s.heap.objs.size + 1) scope.names []).lookup y.1).isSome = true) := fun ⟨n, v⟩ hy =>
    (S.par n (List.of_mem_zip hy).1).elim Or.inl fun q => Or.inr ⟨q, PySem.W.cellsFrom_some _ _ _ (Or.inl q)⟩
  refine codeAny_call_function hr.depth (KX _ _ lk) rfl S.co S.gen rfl (PySem.W.codeRec_of KX hcd) (hb _ _ _ _ ?_)
  refine wpAny_newFunctionEnv_cells S.kind kinds fun env he s1 x => ?_
  subst he
  refine ⟨lim.keeps x.toInCall.keep, codeAny_func ?_⟩
  obtain ⟨t, ht, hq⟩ := hbody p cdv A outer s H vs Q E hot (hr.deeper _) hsp
  have I := L2H.inv_startH (CX := CX) (E := E) S hpin e0 hl r x
  refine wpAny_mono (ht.run [] s1 (L2.start N vs) H _ I hq) (fun fl s' hs => ?_) fun e s' hs => hs
  cases fl with
  | ret u =>
    obtain ⟨v, σ', H', J, rv, q⟩ := hs
    exact ⟨v, H', J.os, J.bare, J.base, J.hok, rv, q⟩
  | next =>
    obtain ⟨σ', H', J, q⟩ := hs
    exact ⟨V.non, H', J.os, J.bare, J.base, J.hok, rfl, q⟩
  | brk =>
    obtain ⟨_, _, _, q⟩ := hs
    exact q.elim
  | cont =>
    obtain ⟨_, _, _, q⟩ := hs
    exact q.elim
/-- the call in the suite: f(e, ..), the error's object known -/
theorem pe_callP {X : Cx} {CX : CXT} {k : Nat} {f : Addr} {fd : FuncData} {ps : List Str} {sp : SpP} {E : L2.St → XK} {x : Str} {q pos : Pos} {e : Expr} {es : List Expr} {t : TA} {p : Addr × Obj}
    (FP : FnP X.prog X.w X.K X.mg X.base CX k f fd ps sp) (hr : L2H.RoomH k X.A) (hot : L2H.Hot1 X.A p) (hp : p ∈ X.pn) (hg : Gl X x) (hm : X.mg x = some (.ref f)) (hk : PySem.W.keepIn X.K (.ref f) = true) (hb : Binds X.K fd ps [])
    (hx : ∀ σ, PassesAt CX X σ (E σ)) (ha : PA X (e :: es) t) (hdb : (x == ("__debug__" : Str)) = false := by decide) (he : starEach (e :: es) X.env = (false, eval e X.env) :: starEach es X.env := by rfl)
    (hpl : (backTo pos (starEach es X.env)).any (·.1) = false := by rfl) : PE X (.Call (.Name x q) (e :: es) [] pos) (tCallS (sp p) E t) := by
  refine ⟨fun pins s σ H Q I h => ?_⟩
  refine wpAny_Call_Name_kw (ld_glob I hg hm ?_ hdb)
  refine PySem.W.callWith_K (h₀ := X.base) I.ok.mod.kin hk (thn (ha.run pos pins s σ H _ I h) fun us s1 hh => ?_) he hpl
  obtain ⟨vs, H1, I1, r, w⟩ := hh
  refine ⟨I1.kIn, ?_⟩
  have hl : us.length = ps.length := r.length.symm.trans (FP.len _ _ _ _ _ w)
  have b := hb s1 us I1.kIn (by rw [List.append_nil]; exact hl)
  rw [List.append_nil] at b
  have P1 := I1.pin p (List.mem_append_left _ hp)
  have hpin : L2H.PinOk X.stack H1 s1 p := ⟨P1.1, P1.2.1, fun hm => (List.mem_cons.mp (I1.stkSub p.1 hm)).elim P1.2.2.1 P1.2.2.2.1, P1.2.2.2.2⟩
  refine wpAny_call (codeAny_mono (FP.run p X.A X.stack s1 H1 ⟨us, []⟩ us vs Q (E σ) hr hot hpin I1.env0 b r w) fun r s' hq => ?_)
  cases r with
  | error e => exact hx σ pins H1 s1 e s' I1 hq
  | ok fl =>
    cases fl with
    | ret u => exact I1.after hq
    | next => exact hq.elim
    | brk => exact hq.elim
    | cont => exact hq.elim
end L3
namespace PySem.W
open PySem PySem.Spec PySem.Calls PyProof.Rows
section
variable {prog : Program} {w : World} {A : Around} {E : Value → Shared → Prop} {s : Shared} {K : Frag} {x D : Addr} {ox od : Obj}
/-- e.__class__ of an error of an own class that has a dict -/
theorem errClass {Q : Option Value → Shared → Prop} (C : L2.ExcC K D) (X : K.In s.heap) (I : InstAt s.heap x ox D (some od)) (h : Q (some (.ref D)) { s with toks := s.toks + 1 }) :
    wpAny (model prog w) A (getAttr? (.ref x) "__class__") Q E s := by
  have some_cls : (clsIn K D).isSome = true := by
    obtain ⟨cd, hc, _⟩ := any_some C.hd
    rw [hc]
    rfl
  have fnd : findObj K D (some od) "__class__" = some (.bind (.builtin "getset_descriptor.__get__") (.builtin "object.__class__")) := findObj_data some_cls C.ha C.hn C.ht
  obtain ⟨hp, g, d, t, os⟩ := s
  have T0 := I.type (M := model prog w)
  have T1 := looks_findIn (M := model prog w) X C.hg
  have T2 := looks_findIn (M := model prog w) X C.hk
  have T3 := looks_find (M := model prog w) X I fnd
  have isB : Looks (model prog w) hp (isInstance (.ref x) (.type "BaseException")) true := T0.andThen (looks_subIn X C.hs)
  have n0 : (false && onTheHeap (Value.builtin "BaseException.__getattribute__")) = false := rfl
  have n2 : (Value.builtin "BaseException.__getattribute__" == Value.builtin "object.__getattribute__") = false := by decide +kernel
  have n1 : (onTheHeap (Value.ref D) && Value.builtin "BaseException.__getattribute__" == Value.builtin "object.__getattribute__") = false := by rw [n2]; rfl
  unfold getAttr? getAttrBy? getAttrBy
  refine wpAny_bind (wpAny_mkText (wpAny_bind (wpAny_attempt (wpAny_holding (wpAny_bind (T0.at (wpAny_bind (T1.at ?_))))))))
  show wpAny _ _ (if (onTheHeap (Value.ref D) && Value.builtin "BaseException.__getattribute__" == Value.builtin "object.__getattribute__") = true then _ else _) _ _ _
  rw [n1, if_neg Bool.false_ne_true]
  unfold getAttrByItsOwn hookBefore
  refine wpAny_bind ?_
  rw [if_pos (show onTheHeap (Value.ref D) = true from rfl)]
  refine T2.at (wpAny_bind (wpAny_attempt (wpAny_holding ?_)))
  unfold callGetattribute
  rw [n0, if_neg Bool.false_ne_true]
  unfold boundAndCalled
  rw [PySem.F.excAttr_ValueError.ga.bind (.ref x)]
  refine wpAny_bind (wpAny_pure ?_)
  show wpAny _ _ (call (.builtin "BaseException.__getattribute__") [.ref x, .str "__class__" t]) _ _ _
  refine wpAny_call (codeAny_call_builtin PySem.F.excAttr_ValueError.ga.plain PySem.F.entry_bexc_ga (@check_slot (model prog w) _ _ ⟨hp, g, d, t + 1, os⟩ "BaseException.__getattribute__" "BaseException" "__getattribute__" (.ref x) [.str "__class__" t] [] _
    (by decide +kernel) (by decide +kernel) isB (PySem.F.args_bexc_ga (.ref x) (.str "__class__" t)) ?_))
  unfold Builtin.«object.__getattribute__»
  refine wpAny_bind (wpAny_of_eq (a := ((Value.ref x : Value), [Value.str "__class__" t])) (by first | rfl | (simp only [slotArgs]; rfl)) (wpAny_bind (wpAny_pure (wpAny_bind (T0.at (wpAny_bind (T3.at ?_)))))))
  show wpAny _ _ (holding [Value.builtin "object.__class__"] (call (.builtin "getset_descriptor.__get__") [.builtin "object.__class__", .ref x, .ref D]) >>= ret) _ _ _
  refine wpAny_bind (wpAny_holding (wpAny_call (class_get (s := ⟨hp, g, d, t + 1, os⟩) (ox := ox) (od := some od) X I C.hm (wpAny_pure ?_))))
  show wpAny _ _ (handedOut (.ref D)) _ _ _
  rw [handedOut_of (v := .ref D) rfl]
  first
    | exact wpAny_pure (wpAny_pure h)
    | exact wpAny_pure h
    | exact wpAny_pure (wpAny_bind (wpAny_pure (wpAny_pure h)))
theorem errKit (C : L2.ExcC K D) : KitX K (.ref x) (.ref D) (fun h => ∃ ox od, InstAt h x ox D (some od)) where
  ty := fun _ _ _ ⟨_, _, I⟩ => I.type
  it := fun _ _ X _ => by
    obtain ⟨cd, hc, _⟩ := any_some C.hd
    unfold clsIn at hc
    split at hc
    · rename_i c' d' cd' sl' ho
      intro A' Q' E' s' k q
      unfold isType loadHead
      exact wpAny_bind (wpAny_loadPart (k _ _ (X _ _ ho)) (wpAny_pure q))
    · cases hc
  ne := fun h tp dd its n sl X htp => by
    obtain ⟨cd, hc, _⟩ := any_some C.hd
    refine Bool.eq_false_iff.mpr fun q => ?_
    have e : D = tp := Value.ref.inj (beq_iff_eq.mp q)
    subst e
    unfold clsIn at hc
    split at hc
    · rename_i c' d' cd' sl' ho
      cases (X _ _ ho).symm.trans htp
    · cases hc
  ca := fun X ⟨_, _, I⟩ k => errClass C X I k
end
end PySem.W
namespace L3
open PySem PySem.Spec PyProof.Rows L2
/-- isinstance(e, c), e the pinned error with its dict at dd -/
def rIsP (K : PySem.W.Frag) (D a dd : Addr) : List V → Hp → VK → Prop := fun xs H Q => ∃ (c : V) (cv : Value) (b : Bool) (fs : List (Str × V)), xs = [.ref a, c] ∧ H dd = some (.xd fs) ∧ (∀ u, RelV c u → u = cv) ∧ PySem.W.kitOne K (.ref D) cv = some b ∧ Q (.bl b) H
theorem call_isP {X : Cx} {a D dd : Addr} {oe : Obj} (C : ExcC X.K D) (hz : oe.cls = .ref D ∧ oe.dict = some dd) (hf : ∃ vs, oe.data = .fields vs) (hp : (a, oe) ∈ X.pn) : CallR X (.builtin "isinstance") (rIsP X.K D a dd) := by
  intro pins s σ H xs us Q I r h
  obtain ⟨c, cv, b, fs, rfl, ed, hcv, e, q⟩ := h
  cases r with
  | cons rx rr =>
    cases rr with
    | cons rt rr =>
      cases rr
      cases rx
      have ec := hcv _ rt
      subst ec
      obtain ⟨hget, _⟩ := I.pin (a, oe) (List.mem_append.mpr (.inl hp))
      have hx : ObjOk X.prog X.w H s.heap dd (.xd fs) := I.hok dd _ ed
      obtain ⟨mA, hns, hr⟩ := hx
      obtain ⟨od, ho, _⟩ := lookIn_ns hns
      obtain ⟨vs, hv⟩ := hf
      have J : PySem.W.InstAt s.heap a oe D (some od) := by
        obtain ⟨oc, odd, oda, osl⟩ := oe
        obtain ⟨h1, h2⟩ := hz
        dsimp only at h1 h2 hv
        subst h1 h2 hv
        exact ⟨hget, rfl, rfl, ho⟩
      refine PySem.W.kia_one (H := fun h => ∃ ox od, PySem.W.InstAt h a ox D (some od)) (PySem.W.errKit C) I.kIn ⟨_, _, J⟩ e (fun z => nomatch z) fun tk => ⟨.bl b, H, I.kept (t' := tk) fun _ _ z => z, rfl, q⟩
/-- e.f of the pinned error -/
def tXp (D a dd : Addr) (f : Str) (te : TE) : TE := fun σ H Q => te σ H fun x H1 => x = .ref a ∧ ∃ (fs : List (Str × V)) (v : V), H1 dd = some (.xd fs) ∧ fs.lookup f = some v ∧ Q v H1
theorem pe_xp {X : Cx} {a D dd : Addr} {oe : Obj} {e : Expr} {te : TE} {pos : Pos} {n : Str} (T : XfC X.K D) (hno : PySem.W.findIn X.K (.ref D) n = some none) (hz : oe.cls = .ref D ∧ oe.dict = some dd) (hf : ∃ vs, oe.data = .fields vs) (hp : (a, oe) ∈ X.pn)
    (he : PE X e te) (hb : attributeBase e n X.env (eval e X.env) = eval e X.env := by rfl) : PE X (.Attribute e n pos) (tXp D a dd n te) := by
  refine ⟨fun pins s σ H Q I h => attr_of hb (thn (he.run pins s σ H _ I h) fun u s1 hh => ?_)⟩
  obtain ⟨x, H1, I1, rx, ex, fs, v, ea, l, q⟩ := hh
  subst ex
  obtain rfl : u = Value.ref a := rx
  obtain ⟨ha, _⟩ := I1.pin (a, oe) (List.mem_append_left _ hp)
  obtain ⟨vs, hd⟩ := hf
  have hx : ObjOk X.prog X.w H1 s1.heap dd (.xd fs) := I1.hok dd _ ea
  obtain ⟨mA, hns, hr⟩ := hx
  obtain ⟨od, ho, hl⟩ := lookIn_ns hns
  obtain ⟨u, hu, ru⟩ := RelO.some_of (v := v) (o := mA n) (by rw [← l]; exact hr n)
  have J : PySem.W.InstAt s1.heap a oe D (some od) := ⟨ha, hz.1, by unfold PySem.W.notCls; rw [hd] <;> rfl, by rw [hz.2]; exact ho⟩
  exact HandSPX.exc_get I1.kIn J T.ga T.gg T.exC (PySem.W.findObj_own T.hdC hno rfl (by rw [hl, hu])) (handed_of ru) ⟨v, H1, I1.tok _, ru, q⟩
end L3
set_option maxRecDepth 100000
set_option maxHeartbeats 4000000
/-! CmC: what the head tells of the error classes and of the table of bounds. -/
namespace L3
open PySem PySem.Spec PyProof.Rows L2 He

def oexB (K : PySem.W.Frag) (C : Addr) : Bool := (match K.lookup C with
  | some ⟨.type t, _, .cls cd, sl⟩ => (match cd.mro, sl.toList with
    | .ref C' :: bm, [_, _, _, _, some (.builtin n), _] => decide (t = "type") && (decide (C' = C) && (decide (n = "ValueError.__new__") && (!cd.hasDel && (cd.hasDict && PySem.HandSPX.refsVE bm))))
    | _, _ => false)
  | _ => false) && (eqO (PySem.W.findIn K (.ref C) "__setattr__") (some (some (.builtin "object.__setattr__"))) && (decide (PySem.W.subIn K (.ref C) (.type "BaseException") = some true) &&
    (decide (PySem.W.typeIn K (.ref C) = some (.type "type")) && PySem.W.keepIn K (.ref C))))
theorem oexB_ok {K : PySem.W.Frag} {C : Addr} (h : oexB K C = true) : OexC K C := by
  obtain ⟨h0, h⟩ := ba h
  obtain ⟨h1, h⟩ := ba h
  obtain ⟨h2, h⟩ := ba h
  obtain ⟨h3, h4⟩ := ba h
  refine ⟨?_, eqO_ok h1, of_decide_eq_true h2, of_decide_eq_true h3, h4⟩
  split at h0
  · rename_i t dd cd sl ho
    split at h0
    · rename_i C' bm k0 k1 k2 k3 n k5 hm hs
      obtain ⟨e1, h0⟩ := ba h0
      obtain ⟨e2, h0⟩ := ba h0
      obtain ⟨e3, h0⟩ := ba h0
      obtain ⟨e4, h0⟩ := ba h0
      obtain ⟨e5, e6⟩ := ba h0
      have e1 := of_decide_eq_true e1
      have e2 := of_decide_eq_true e2
      have e3 := of_decide_eq_true e3
      subst e1 e2 e3
      obtain ⟨nm, bs, mro, ns, qn, hd, sn, sub, ab, col, del⟩ := cd
      dsimp only at hm e4 e5
      subst hm e5
      have hdel : del = false := by cases del <;> first | rfl | cases e4
      subst hdel
      have hsl : sl = #[k0, k1, k2, k3, some (.builtin "ValueError.__new__"), k5] := by
        have : sl.toList.toArray = [k0, k1, k2, k3, some (.builtin "ValueError.__new__"), k5].toArray := congrArg List.toArray hs
        simpa using this
      subst hsl
      exact ⟨nm, qn, ns, bs, bm, sn, sub, ab, col, dd, k0, k1, k2, k3, k5, ho, e6⟩
    · cases h0
  · cases h0
def excB (K : PySem.W.Frag) (D : Addr) : Bool := xfB K D && (eqO (PySem.W.findIn K (.ref D) "__class__") (some (some (.builtin "object.__class__"))) &&
  (eqO (PySem.W.specialIn K (.builtin "object.__class__") "__get__") (some (some (.builtin "getset_descriptor.__get__"))) && (decide (PySem.W.takesIn K (.builtin "object.__class__") = some true) && decide (PySem.W.mroIn K D (.type "object") = some true))))
theorem excB_ok {K : PySem.W.Frag} {D : Addr} (h : excB K D = true) : ExcC K D ∧ XfC K D := by
  obtain ⟨h0, h⟩ := ba h
  obtain ⟨h1, h⟩ := ba h
  obtain ⟨h2, h⟩ := ba h
  obtain ⟨h3, h4⟩ := ba h
  have X := xfB_ok h0
  exact ⟨⟨X.ga, X.gg, X.exC, X.hdC, eqO_ok h1, eqO_ok h2, of_decide_eq_true h3, of_decide_eq_true h4⟩, X⟩
/-- an error class x of the text, its __init__ stores the names fs -/
structure ErrC (K : PySem.W.Frag) (x : Str) (fs : List Str) : Prop where
  o : OexC K (ga K x)
  e : ExcC K (ga K x)
  f : XfC K (ga K x)
  no : ∀ y ∈ fs, PySem.W.findIn K (.ref (ga K x)) y = some none
  iC : PySem.W.findIn K (.ref (ga K x)) "__init__" = some (some (.ref (ma K (ga K x) "__init__")))
  tI : PySem.W.typeIn K (.ref (ma K (ga K x) "__init__")) = some (.type "function")
def errB (K : PySem.W.Frag) (x : Str) (fs : List Str) : Bool := oexB K (ga K x) && (excB K (ga K x) && ((fs.all fun y => eqO (PySem.W.findIn K (.ref (ga K x)) y) (some none)) &&
  (eqO (PySem.W.findIn K (.ref (ga K x)) "__init__") (some (some (.ref (ma K (ga K x) "__init__")))) && decide (PySem.W.typeIn K (.ref (ma K (ga K x) "__init__")) = some (.type "function")))))
theorem errB_ok {K : PySem.W.Frag} {x : Str} {fs : List Str} (h : errB K x fs = true) : ErrC K x fs := by
  obtain ⟨h1, h⟩ := ba h
  obtain ⟨h2, h⟩ := ba h
  obtain ⟨h3, h⟩ := ba h
  obtain ⟨h4, h5⟩ := ba h
  obtain ⟨a, b⟩ := excB_ok h2
  exact ⟨oexB_ok h1, a, b, fun y hy => eqO_ok (List.all_eq_true.mp h3 y hy), eqO_ok h4, of_decide_eq_true h5⟩
/-- which error is of which class -/
def kitXB (K : PySem.W.Frag) (x y : Str) (b : Bool) : Bool := decide (PySem.W.kitOne K (.ref (ga K x)) (.ref (ga K y)) = some b)
def kitsB (K : PySem.W.Frag) (base : Str) (xs : List Str) : Bool := xs.all fun x => (xs.all fun y => kitXB K x y (decide (x = y))) && (kitXB K x base true && (decide (PySem.W.kitOne K (.ref (ga K x)) (.type "ValueError") = some true) &&
  decide (PySem.W.exmOne K (.ref (ga K x)) (.ref (ga K base)) = some true)))
structure Kits (K : PySem.W.Frag) (base : Str) (xs : List Str) : Prop where
  kit : ∀ x ∈ xs, ∀ y ∈ xs, PySem.W.kitOne K (.ref (ga K x)) (.ref (ga K y)) = some (decide (x = y))
  kitO : ∀ x ∈ xs, PySem.W.kitOne K (.ref (ga K x)) (.ref (ga K base)) = some true
  kitV : ∀ x ∈ xs, PySem.W.kitOne K (.ref (ga K x)) (.type "ValueError") = some true
  exm : ∀ x ∈ xs, PySem.W.exmOne K (.ref (ga K x)) (.ref (ga K base)) = some true
theorem kitsB_ok {K : PySem.W.Frag} {base : Str} {xs : List Str} (h : kitsB K base xs = true) : Kits K base xs := by
  have key := fun x hx => ba (List.all_eq_true.mp h x hx)
  refine ⟨fun x hx y hy => of_decide_eq_true (List.all_eq_true.mp (key x hx).1 y hy), fun x hx => of_decide_eq_true (ba (key x hx).2).1, fun x hx => of_decide_eq_true (ba (ba (key x hx).2).2).1, fun x hx => of_decide_eq_true (ba (ba (key x hx).2).2).2⟩
/-- a table of the top with text keys and ints -/
def tabB (K : PySem.W.Frag) (x : Str) (kvs : List (Str × Int)) : Bool := valsB K (ga K x) (kvs.map fun q => (q.1, Dv.int q.2))
theorem tabB_ok {K : PySem.W.Frag} {w : World} {x : Str} {kvs : List (Str × Int)} {es : Array DictEntry} {n : Nat} (h : tabB K x kvs = true) (D : KDict K w (ga K x) es n) {k : Str} {i : Int} (hq : (k, i) ∈ kvs) : KDct K w (ga K x) k (.int i) := by
  obtain ⟨u, hu, ru⟩ := valsB_ok h (q := (k, Dv.int i)) (List.mem_map.mpr ⟨(k, i), hq, rfl⟩)
  exact ⟨es, n, u, D.at_, D.lit, hu, ru⟩
end L3
namespace L3
open PySem PySem.Spec PyProof.Rows L2
/-- a law's promise: a list of at most 63 ints in, True out -/
def spLaw (K : PySem.W.Frag) : Sp := fun vs H Q _ => ∃ (a : Addr) (ns : List Int), vs = [.ref a] ∧ SqL K H a (ns.map V.int) ∧ ns.length ≤ 63 ∧ ∀ H', Q (.bl true) H'
theorem walk_law {l : PySem.W.OpenLaw} {k : Nat} {q : Program} {loose : List Str} {XP : (Str → Option Value) → Heap → Prop} {YP : World → Heap → Prop} {d : DefRec} (hn : l.most = some 63) (hdf : d.params.defaults = []) (hr : Room k callerA)
    (F : ∀ (w : World) (mg : Str → Option Value) (fa : Addr) (h : Heap), YP w h → h.Ns mainGlobals mg → mg d.name = some (.ref fa) →
      ∃ (K : PySem.W.Frag) (fd : FuncData), K.In h ∧ (∀ (s : Shared) (u : Value), BindsTo s fd ⟨[u], []⟩ [("script", u)]) ∧
        ∀ base : Heap, K.In base → base.Ns mainGlobals mg → FnOk l.prog w K mg base (L2N.CX l.prog w) k fa fd ["script"] (spLaw K)) :
    PySem.W.WalkO q loose XP YP l.row.toRowW d [] (fun f vs => PySem.call f vs) := by
  refine Att.attach_call hn hdf fun w s₀ s₁ mg mb fa o pm cd doc a vs ns G Y ho hd hcd hmg hobj hints hlen hg => ?_
  obtain ⟨K, fd, KX, hb, hF⟩ := F w mg fa _ Y G.T.g hmg
  refine law_call KX G.T.g G.T.b G.T.builtins G.T.nolimit hg hobj hints (Nat.le_trans hlen (by decide)) hr hF hb (fun H hO hS => ⟨a, ns, rfl, hS, hlen, fun _ => rfl⟩) fun H e s' z => ?_
  obtain ⟨_, _, _, _, _, _, _, _, _, _, _, _, z⟩ := z
  exact z
theorem cx_none {P : Program} {w : World} {l : List Env} {H : Hp} {s : Shared} {e : Value} {s' : Shared} (z : L2N.CX P w l H s (fun _ _ _ => False) e s') : False := by
  obtain ⟨_, _, _, _, _, _, _, _, _, _, _, _, z⟩ := z
  exact z
end L3
set_option maxRecDepth 100000
set_option maxHeartbeats 4000000
/-! CmD: defs as callees, readings step by step. -/
namespace L3
open PySem PySem.Spec PyProof.Rows L2 He

/-! ### a def of the module that keeps a promise -/
structure CalG (P : Program) (w : World) (K : PySem.W.Frag) (mg : Str → Option Value) (base : Heap) (k : Nat) (x : Str) (ps : List Str) (sp : Sp) : Prop where
  g : mg x = some (.ref (ga K x))
  ok : ∃ fd, FnOk P w K mg base (L2N.CX P w) k (ga K x) fd ps sp ∧ Binds K fd ps []
  kp : PySem.W.keepIn K (.ref (ga K x)) = true
theorem CalG.imp {P : Program} {w : World} {K : PySem.W.Frag} {mg : Str → Option Value} {base : Heap} {k : Nat} {x : Str} {ps : List Str} {sp sp' : Sp} (c : CalG P w K mg base k x ps sp) (h : ∀ vs H Q E, sp' vs H Q E → sp vs H Q E) : CalG P w K mg base k x ps sp' := by
  obtain ⟨fd, F, b⟩ := c.ok
  exact ⟨c.g, ⟨fd, F.imp h, b⟩, c.kp⟩
theorem CalG.mono {P : Program} {w : World} {K : PySem.W.Frag} {mg : Str → Option Value} {base : Heap} {j k : Nat} {x : Str} {ps : List Str} {sp : Sp} (c : CalG P w K mg base j x ps sp) (h : j ≤ k) : CalG P w K mg base k x ps sp := by
  obtain ⟨fd, F, b⟩ := c.ok
  exact ⟨c.g, ⟨fd, F.mono h, b⟩, c.kp⟩
section
variable {P : Program} {w : World} {K : PySem.W.Frag} {mg : Str → Option Value} {base : Heap}
/-- a def keeps its promise: its body's rules and their reading -/
theorem calG_of {x : Str} {st : Stmt} {N ps : List Str} {k : Nat} {sp : Sp} (hg : mg x = some (.ref (ga K x))) (D : ∃ fd, FunD K x x (defArgs st) (defBody st) (defScope st) [] [] (ga K x) fd) (S : FnScope N ps (defScope st))
    (hb : ∀ (dV kV doc pm : Value) (an : Option Addr) (cdv ct : Value) (us : List Value), us.length = ps.length → bindArgs (PySem.W.fnOf x x (defArgs st) (defBody st) (defScope st) .none kV doc pm an cdv ct) ⟨us, []⟩ = pure (ps.zip us))
    (len : ∀ vs H Q E, sp vs H Q E → vs.length = ps.length)
    (hbody : ∀ (cdv : Value) (A : Around) (outer : List Env) (s : Shared) (H : Hp) (vs : List V) (Q : VK) (E : XK), Room k (A.deeper (envOfC x (defScope st) s.heap.objs.size (ga K x) cdv)) → sp vs H Q E →
      ∃ t, PSs (cxOf (L2N.CX P w) P w K mg base N x (defScope st) (ga K x) cdv A outer s H E) (defBody st) t ∧ t { nx := fun _ H' => Q .non H', rt := Q } (start N vs) H) : CalG P w K mg base (k + 1) x ps sp := by
  obtain ⟨fd, F⟩ := D
  exact ⟨hg, ⟨fd, F.ok S len hbody, F.bindsN fun kV doc pm an cdv ct us hl => hb .none kV doc pm an cdv ct us hl⟩, F.kp⟩
end
section
variable {X : Cx} {W : L2.WX}
/-- x(e, ..) of such a def; what it raises is wished by W -/
theorem pe_cal {k j : Nat} {x : Str} {ps : List Str} {sp : Sp} {q pos : Pos} {e : Expr} {es : List Expr} {t : TA} (c : CalG X.prog X.w X.K X.mg X.base j x ps sp) (hr : Room k X.A) (hj : j ≤ k) (hx : ∀ σ, PassesAt (L2N.CX X.prog X.w) X σ (WE W σ)) (ha : PA X (e :: es) t) (hg : Gl X x := by rfl)
    (hdb : (x == ("__debug__" : Str)) = false := by decide) (he : starEach (e :: es) X.env = (false, eval e X.env) :: starEach es X.env := by rfl) (hpl : (backTo pos (starEach es X.env)).any (·.1) = false := by rfl) :
    PE X (.Call (.Name x q) (e :: es) [] pos) (tCallS sp (WE W) t) := by
  have z : ∃ fd, FnOk X.prog X.w X.K X.mg X.base (L2N.CX X.prog X.w) j (ga X.K x) fd ps sp ∧ Binds X.K fd ps [] := c.ok
  have key := Classical.choose_spec z
  exact pe_callS key.1 (hr.mono hj) hg c.g c.kp key.2 hx ha hdb he hpl
/-- nothing is let out -/
theorem passN (σ : L2.St) : PassesAt (L2N.CX X.prog X.w) X σ (WE (fun _ _ _ _ => False) σ) := fun _ _ _ e s' I c => by
  obtain ⟨_, _, _, _, _, _, _, _, _, _, _, _, z⟩ := c
  exact z.elim
theorem pe_gl {x : Str} {pos : Pos} {a : Addr} (hm : X.mg x = some (.ref a)) (hg : Gl X x := by rfl) (hdb : (x == ("__debug__" : Str)) = false := by decide) : PE X (.Name x pos) (tC (.ref a)) :=
  pe_glob hg hm rfl hdb
end

/-! ### readings, step by step: each from what is asked next -/
section
variable {σ σ' : L2.St} {H : Hp} {Q : VK} {D : Ends} {t u : TS} {te ta tb : TE} {g : TG} {v x y : V} {K : PySem.W.Frag}
variable {nx bk ct : L2.St → Hp → Prop} {rt : VK}
theorem r_seq (k : t ⟨u ⟨nx, rt, bk, ct⟩, rt, bk, ct⟩ σ H) : tSeq t u ⟨nx, rt, bk, ct⟩ σ H := k
theorem r_asgN {i : Nat} (k : te σ H fun x H1 => nx (σ.set i (some x)) H1) : tAsg te (gName i) ⟨nx, rt, bk, ct⟩ σ H := k
theorem r_asg (k : te σ H fun x H1 => g x σ H1 nx) : tAsg te g ⟨nx, rt, bk, ct⟩ σ H := k
theorem r_ret (k : te σ H rt) : tRet te ⟨nx, rt, bk, ct⟩ σ H := k
theorem r_retN (k : rt .non H) : tRetN ⟨nx, rt, bk, ct⟩ σ H := k
theorem r_next (k : nx σ H) : tNext ⟨nx, rt, bk, ct⟩ σ H := k
theorem r_brk (k : bk σ H) : tBreak ⟨nx, rt, bk, ct⟩ σ H := k
theorem r_cont (k : ct σ H) : tCont ⟨nx, rt, bk, ct⟩ σ H := k
theorem r_drop (k : te σ H fun _ H1 => nx σ H1) : tDrop te ⟨nx, rt, bk, ct⟩ σ H := k
theorem r_aug {i : Nat} {ti : TIp} (e : σ[i]? = some (some x)) (k : te σ H fun y H1 => ti x y H1 fun z H2 => nx (σ.set i (some z)) H2) : tAug i te ti ⟨nx, rt, bk, ct⟩ σ H := ⟨x, e, k⟩
theorem r_augS {to ti : TE} {tget : V → V → Hp → VK → Prop} {tip : TIp} {tset : TSet} (k : to σ H fun o H1 => ti σ H1 fun i H2 => tget o i H2 fun x H3 => te σ H3 fun y H4 => tip x y H4 fun z H5 => tset o i z H5 fun H6 => nx σ H6) :
    tAugS to ti te tget tip tset ⟨nx, rt, bk, ct⟩ σ H := k
theorem r_sub {to ti : TE} {ts : TSet} {P : L2.St → Hp → Prop} (k : to σ H fun o H1 => ti σ H1 fun i H2 => ts o i v H2 fun H3 => P σ H3) : gSub to ti ts v σ H P := k
theorem r_ifS {c : TT} (k : c σ H fun b H1 => if b = true then t D σ H1 else u D σ H1) : tIfS c t u D σ H := k
theorem r_if {c : TT} (k : c σ H fun b H1 => if b = true then ta σ H1 Q else tb σ H1 Q) : tIf c ta tb σ H Q := k
theorem r_var {i : Nat} (e : σ[i]? = some (some v)) (k : Q v H) : tVar i σ H Q := ⟨v, e, k⟩
theorem r_c (k : Q v H) : tC v σ H Q := k
theorem r_op {r : R2} (k : ta σ H fun x H1 => tb σ H1 fun y H2 => r x y H2 Q) : tOp r ta tb σ H Q := k
theorem r_un {r : V → Hp → VK → Prop} (k : ta σ H fun x H1 => r x H1 Q) : tUn r ta σ H Q := k
theorem r_test {P : Bool → Hp → Prop} (k : te σ H fun x H' => ∃ k, x = .bl k ∧ P k H') : tTest te σ H P := k
theorem r_B {P : Bool → Hp → Prop} (k : te σ H fun x H1 => ∃ c, x = .bl c ∧ P c H1) : tB te σ H P := k
theorem r_bl {b : Bool} {P : Bool → Prop} (k : P b) : ∃ c, V.bl b = .bl c ∧ P c := ⟨b, rfl, k⟩
theorem r_and {c d : TT} {P : Bool → Hp → Prop} (k : c σ H fun b H1 => if b = true then d σ H1 P else P false H1) : tAnd c d σ H P := k
theorem r_or {c d : TT} {P : Bool → Hp → Prop} (k : c σ H fun b H1 => if b = true then P true H1 else d σ H1 P) : tOr c d σ H P := k
theorem r_not {c : TT} {P : Bool → Hp → Prop} (k : c σ H fun b H1 => P (!b) H1) : tNot c σ H P := k
theorem r_andV (k : ta σ H fun x H1 => ∃ c, x = .bl c ∧ if c = true then tb σ H1 Q else Q (.bl false) H1) : tAndV ta tb σ H Q := k
theorem r_orV (k : ta σ H fun x H1 => ∃ c, x = .bl c ∧ if c = true then Q (.bl true) H1 else tb σ H1 Q) : tOrV ta tb σ H Q := k
theorem r_notV (k : ta σ H fun x H1 => ∃ c, x = .bl c ∧ Q (.bl (!c)) H1) : tNotV ta σ H Q := k
theorem r_nil {P : List V → Hp → Prop} (k : P [] H) : tNil σ H P := k
theorem r_cons {ta : TE} {tr : TA} {P : List V → Hp → Prop} (k : ta σ H fun x H1 => tr σ H1 fun xs H2 => P (x :: xs) H2) : tCons ta tr σ H P := k
theorem r_cb {r : List V → Hp → VK → Prop} {ta : TA} (k : ta σ H fun vs H1 => r vs H1 Q) : tCB r ta σ H Q := k
theorem r_callS {sp : Sp} {E : L2.St → XK} {ta : TA} (k : ta σ H fun vs H1 => sp vs H1 Q (E σ)) : tCallS sp E ta σ H Q := k
def NewL (xs : List V) (H1 : Hp) (Q : VK) : Prop := xs.length ≤ sizeLine ∧ ∀ p, H1 p = none → Q (.ref p) (upd H1 p (.lst xs))
def NewT (xs : List V) (H1 : Hp) (Q : VK) : Prop := xs.length ≤ sizeLine ∧ ∀ p, H1 p = none → Q (.ref p) (upd H1 p (.tup xs))
theorem r_tup {ta : TA} (k : ta σ H fun xs H1 => NewT xs H1 Q) : tTup ta σ H Q := k
theorem r_lst {ta : TA} (k : ta σ H fun xs H1 => NewL xs H1 Q) : tLst ta σ H Q := k
theorem r_bm {T : String} {r : V → List V → Hp → VK → Prop} {t : TA} (k : ta σ H fun x H1 => tyV K T x H1 ∧ t σ H1 fun xs H2 => r x xs H2 Q) : tBM K T r ta t σ H Q := k
theorem r_bm0 {T : String} {r : V → List V → Hp → VK → Prop} (k : ta σ H fun x H1 => tyV K T x H1 ∧ r x [] H1 Q) : tBM0 K T r ta σ H Q := k
theorem r_sl {r : V → Option Int → Option Int → Hp → VK → Prop} {tl th : TO} (k : te σ H fun x H1 => tl σ H1 fun l H2 => th σ H2 fun u H3 => r x l u H3 Q) : tSl r te tl th σ H Q := k
theorem r_noPart {P : Option Int → Hp → Prop} (k : P none H) : tNoPart σ H P := k
theorem r_part {P : Option Int → Hp → Prop} (k : te σ H fun x H1 => ∃ i, x = .int i ∧ P (some i) H1) : tPart te σ H P := k
theorem r_int {i : Int} {P : Int → Prop} (k : P i) : ∃ j, V.int i = .int j ∧ P j := ⟨i, rfl, k⟩
/-! leaves: ints -/
theorem r_I0 {g : Int → Int → V} {i j : Int} (k : Q (g i j) H) : rI0 g (.int i) (.int j) H Q := ⟨i, j, rfl, rfl, k⟩
theorem r_I {C : Int → Int → Prop} {g : Int → Int → V} {i j : Int} (c : C i j) (k : Q (g i j) H) : rI C g (.int i) (.int j) H Q := ⟨i, j, rfl, rfl, c, k⟩
theorem r_plusI {i j : Int} (k : Q (.int (i + j)) H) : rPlus K (.int i) (.int j) H Q := .inl ⟨i, j, rfl, rfl, k⟩
theorem r_timesI {i j : Int} (c : CMulW i j) (k : Q (.int (i * j)) H) : rTimes (.int i) (.int j) H Q := .inl ⟨i, j, rfl, rfl, c, k⟩
theorem r_neg {i : Int} (k : Q (.int (-i)) H) : rU (fun i => .int (-i)) (.int i) H Q := ⟨i, rfl, k⟩
theorem r_sameS (h : scal x y = true) (k : Q (.bl (decide (x = y))) H) : rSame K x y H Q := .inl ⟨h, k⟩
theorem r_otherS (h : scal x y = true) (k : Q (.bl (!decide (x = y))) H) : rOther K x y H Q := .inl ⟨h, k⟩
theorem r_isN (k : Q (.bl (decide (x = .non))) H) : (fun x y H Q => y = .non ∧ Q (.bl (decide (x = .non))) H : R2) x .non H Q := ⟨rfl, k⟩
/-! leaves: lists -/
theorem r_atL {p : Addr} {xs : List V} {i : Int} (h : SqL K H p xs) (e : atI xs i = some v) (k : Q v H) : rAt K (.ref p) (.int i) H Q := .inl ⟨p, xs, i, v, rfl, rfl, h, e, k⟩
theorem r_atT {p : Addr} {xs : List V} {i : Int} (h : SqT K H p xs) (e : atI xs i = some v) (k : Q v H) : rAt K (.ref p) (.int i) H Q := .inr ⟨p, xs, i, v, rfl, rfl, h, e, k⟩
/-- what is known of the heap behind a new object -/
def Ext (H H' : Hp) : Prop := ∀ a o, H a = some o → H' a = some o
theorem Ext.rfl {H : Hp} : Ext H H := fun _ _ h => h
theorem Ext.trans {H H1 H2 : Hp} (a : Ext H H1) (b : Ext H1 H2) : Ext H H2 := fun x o h => b x o (a x o h)
theorem Ext.new {H : Hp} {p : Addr} {o : HO} (h : H p = none) : Ext H (upd H p o) := fun a u e => by rw [upd_ne (ne_of_none e h)]; exact e
theorem Ext.mut {H H' : Hp} {p : Addr} {o : HO} (e : Ext H H') (h : H p = none) : Ext H (upd H' p o) := fun a u ha => by rw [upd_ne (ne_of_none ha h)]; exact e a u ha
theorem Ext.none {H H' : Hp} {p : Addr} (e : Ext H H') (h : H' p = none) : H p = none := by
  cases q : H p with
  | none => exact Eq.refl _
  | some o => rw [e p o q] at h; cases h
theorem Ext.l {H H' : Hp} {a : Addr} {xs : List V} (e : Ext H H') (h : SqL K H a xs) : SqL K H' a xs := by
  rcases h with (h | ⟨o, h⟩) | h
  · exact .inl (.inl (e _ _ h))
  · exact .inl (.inr ⟨o, e _ _ h⟩)
  · exact .inr h
theorem Ext.tu {H H' : Hp} {a : Addr} {xs : List V} (e : Ext H H') (h : SqT K H a xs) : SqT K H' a xs := by
  rcases h with (h | ⟨o, h⟩) | h
  · exact .inl (.inl (e _ _ h))
  · exact .inl (.inr ⟨o, e _ _ h⟩)
  · exact .inr h
theorem sqL {a : Addr} {xs : List V} (h : H a = some (.lst xs)) : SqL K H a xs := .inl (.inl h)
theorem sqT {a : Addr} {xs : List V} (h : H a = some (.tup xs)) : SqT K H a xs := .inl (.inl h)
theorem r_newL {xs : List V} (h : xs.length ≤ 100000) (k : ∀ p H', H p = none → Ext H H' → H' p = some (.lst xs) → Q (.ref p) H') : NewL xs H Q :=
  ⟨Nat.le_trans h (by decide), fun p hp => k p _ hp (Ext.new hp) upd_same⟩
theorem r_newT {xs : List V} (h : xs.length ≤ 100000) (k : ∀ p H', H p = none → Ext H H' → H' p = some (.tup xs) → Q (.ref p) H') : NewT xs H Q :=
  ⟨Nat.le_trans h (by decide), fun p hp => k p _ hp (Ext.new hp) upd_same⟩
/-- xs.append(v), the list at l the call's own (new since H0) -/
theorem r_app {l : Addr} {xs : List V} (h : H l = some (.lst xs)) (hz : xs.length < 100000) (k : ∀ H', H' l = some (.lst (xs ++ [v])) → (∀ b, b ≠ l → H' b = H b) → Q .non H') : rAppend (.ref l) [v] H Q :=
  ⟨l, xs, v, rfl, rfl, h, Nat.lt_of_lt_of_le hz (by decide), k _ upd_same fun b hb => upd_ne hb⟩
theorem r_popL {l : Addr} {xs : List V} (h : H l = some (.lst (xs ++ [v]))) (k : ∀ H', H' l = some (.lst xs) → (∀ b, b ≠ l → H' b = H b) → Q v H') : rPop (.ref l) [] H Q :=
  ⟨l, xs ++ [v], v, rfl, rfl, h, by simp, k _ (by rw [List.dropLast_concat]; exact upd_same) fun b hb => upd_ne hb⟩
theorem tyL {a : Addr} {xs : List V} (h : SqL K H a xs) : tyV K "list" (.ref a) H := .inl ⟨rfl, xs, h⟩
theorem mut_ext {H0 H H' : Hp} {l : Addr} (e : Ext H0 H) (h0 : H0 l = none) (m : ∀ b, b ≠ l → H' b = H b) : Ext H0 H' := fun a o ha => (m a (ne_of_none ha h0)).trans (e a o ha)
theorem mut_at {H H' : Hp} {l b : Addr} {o : HO} (m : ∀ b, b ≠ l → H' b = H b) (hb : b ≠ l) (h : H b = some o) : H' b = some o := (m b hb).trans h
/-! tests -/
theorem ite_d {p A B : Prop} [Decidable p] (h1 : p → A) (h2 : ¬ p → B) : if decide p = true then A else B := by
  by_cases h : p
  · rw [if_pos (decide_eq_true h)]; exact h1 h
  · rw [if_neg (by simpa using h)]; exact h2 h
theorem ite_n {p A B : Prop} [Decidable p] (h1 : ¬ p → A) (h2 : p → B) : if (!decide p) = true then A else B := by
  by_cases h : p
  · rw [if_neg (by simpa using h)]; exact h2 h
  · rw [if_pos (by simpa using h)]; exact h1 h
theorem ite_b {b : Bool} {A B : Prop} (h1 : b = true → A) (h2 : b = false → B) : if b = true then A else B := by
  cases b
  · exact h2 rfl
  · exact h1 rfl
theorem ite_t {A B : Prop} (h : A) : if true = true then A else B := h
theorem ite_f {A B : Prop} (h : B) : if false = true then A else B := h
end
end L3
namespace L3
open PySem PySem.Spec PyProof.Rows L2
/-- xs[i] ahead of xs[i] op= e, i from the front -/
def rGetL (K : PySem.W.Frag) : R2 := fun x y H Q => ∃ p xs i v, x = .ref p ∧ y = .int i ∧ SqL K H p xs ∧ 0 ≤ i ∧ xs[i.toNat]? = some v ∧ Q v H
theorem get_list {X : Cx} : PGet X (rGetL X.K) := by
  intro pins s σ H o i ov iv Q I ro ri h
  obtain ⟨p, xs, j, z, rfl, rfl, hq, h0, e, q⟩ := h
  cases ro
  obtain ⟨t, rfl⟩ := ri
  obtain ⟨its, r, pl, hz⟩ := I.list hq
  obtain ⟨w, ew, rw'⟩ := r.get e
  have hl := r.length
  have hn := line63
  have h5 : j.toNat < xs.length := (List.getElem?_eq_some_iff.mp e).1
  exact wpAny_getItem_list pl.isList h0 (by omega) (by simpa using ew) ⟨z, H, I, rw', q⟩
theorem r_getL {K : PySem.W.Frag} {H : Hp} {Q : VK} {p : Addr} {xs : List V} {i : Int} {v : V} (h : SqL K H p xs) (h0 : 0 ≤ i) (e : xs[i.toNat]? = some v) (k : Q v H) : rGetL K (.ref p) (.int i) H Q := ⟨p, xs, i, v, rfl, rfl, h, h0, e, k⟩
theorem r_ipI {f : Int → Int → Int} {H : Hp} {Q : VK} {i j : Int} (k : Q (.int (f i j)) H) : ipI f (.int i) (.int j) H Q := ⟨i, j, rfl, rfl, k⟩
theorem ixN_of {n j : Nat} (hj : j < n) : ixN n (j : Int) = some j := by
  unfold ixN
  rw [if_pos (by omega), if_pos (by omega)]
  simp
theorem r_setL {H : Hp} {P : Hp → Prop} {p : Addr} {xs : List V} {i : Int} {j : Nat} {v : V} (h : H p = some (.lst xs)) (hi : i = (j : Int)) (hj : j < xs.length) (k : ∀ H', H' p = some (.lst (xs.set j v)) → (∀ b, b ≠ p → H' b = H b) → P H') : rSetL (.ref p) (.int i) v H P :=
  ⟨p, xs, i, j, rfl, rfl, h, by rw [hi]; exact ixN_of hj, k _ upd_same fun b hb => upd_ne hb⟩
end L3
set_option maxRecDepth 100000
set_option maxHeartbeats 4000000
/-! CmE: own errors raised; the bounds; a source of draws. -/
namespace L3
open PySem PySem.Spec PyProof.Rows L2 He
/-! ### an error's __init__ that stores one name, two names -/
def spI1 (C : Addr) (f : Str) : Sp := fun vs H Q _ => ∃ (a : Addr) (v : V), vs = [.ref a, v] ∧ H a = some (exo a C none) ∧ ∀ dx, H dx = none → dx ≠ a → Q .non (upd (upd H dx (exd dx [(f, v)])) a (exo a C (some dx)))
def spI2 (C : Addr) (f g : Str) : Sp := fun vs H Q _ => ∃ (a : Addr) (u v : V), vs = [.ref a, u, v] ∧ H a = some (exo a C none) ∧ ∀ dx, H dx = none → dx ≠ a → Q .non (upd (upd (upd H dx (exd dx [(f, u)])) a (exo a C (some dx))) dx (exd dx [(g, v), (f, u)]))
abbrev ErrI (P : Program) (w : World) (K : PySem.W.Frag) (mg : Str → Option Value) (base : Heap) (x : Str) (ps : List Str) (sp : Sp) : Prop :=
  ∃ fd, FnOk P w K mg base (L2N.CX P w) 1 (ma K (ga K x) "__init__") fd ps sp ∧ Binds K fd ps []
section
variable {P : Program} {w : World} {K : PySem.W.Frag} {mg : Str → Option Value} {base : Heap}
theorem errI_of {x q : Str} {st : Stmt} {N ps : List Str} {sp : Sp} (D : ∃ fd, FunD K "__init__" q (defArgs st) (defBody st) (defScope st) [] [] (ma K (ga K x) "__init__") fd) (S : FnScope N ps (defScope st))
    (hb : ∀ (dV kV doc pm : Value) (an : Option Addr) (cdv ct : Value) (us : List Value), us.length = ps.length → bindArgs (PySem.W.fnOf "__init__" q (defArgs st) (defBody st) (defScope st) .none kV doc pm an cdv ct) ⟨us, []⟩ = pure (ps.zip us))
    (len : ∀ vs H Q E, sp vs H Q E → vs.length = ps.length)
    (hbody : ∀ (cdv : Value) (A : Around) (outer : List Env) (s : Shared) (H : Hp) (vs : List V) (Q : VK) (E : XK), Room 0 (A.deeper (envOfC q (defScope st) s.heap.objs.size (ma K (ga K x) "__init__") cdv)) → sp vs H Q E →
      ∃ t, PSs (cxOf (L2N.CX P w) P w K mg base N q (defScope st) (ma K (ga K x) "__init__") cdv A outer s H E) (defBody st) t ∧ t { nx := fun _ H' => Q .non H', rt := Q } (start N vs) H) : ErrI P w K mg base x ps sp := by
  obtain ⟨fd, F⟩ := D
  exact ⟨fd, F.ok S len hbody, F.bindsN fun kV doc pm an cdv ct us hl => hb .none kV doc pm an cdv ct us hl⟩
theorem pmk_errI {X : Cx} {x : Str} {fs ps : List Str} {sp : Sp} {e : Expr} {es : List Expr} {ta : TA} {p pos : Pos} {k : Nat} (EC : ErrC X.K x fs) (I : ErrI X.prog X.w X.K X.mg X.base x ps sp) (hr : Room k X.A) (hk : 2 ≤ k) (hm : X.mg x = some (.ref (ga X.K x))) (ha : PA X (e :: es) ta)
    (hg : Gl X x := by rfl) (hdb : (x == ("__debug__" : Str)) = false := by decide) (he : starEach (e :: es) X.env = (false, eval e X.env) :: starEach es X.env := by rfl) (hpl : (backTo pos (starEach es X.env)).any (·.1) = false := by rfl) :
    L2N.PMk X (.Call (.Name x p) (e :: es) [] pos) (tMkO (ga X.K x) sp [] ta) := by
  have key := Classical.choose_spec I
  exact pmk_err EC.o EC.iC EC.tI key.1 (hr.mono hk) key.2 (fun _ _ _ _ _ _ _ z => by
    obtain ⟨_, _, _, _, _, _, _, _, _, _, _, _, z⟩ := z
    exact z.elim) hg hm ha hdb he hpl
/-- the reading of self.f = v in such an __init__ -/
theorem r_ost1 {σ : L2.St} {H : Hp} {f : Str} {v : V} {a C : Addr} {nx bk ct : L2.St → Hp → Prop} {rt : VK} (ho : OexC K C) (hno : PySem.W.findIn K (.ref C) f = some none) (ea : H a = some (exo a C none)) {i j : Nat} (hi : σ[i]? = some (some (.ref a))) (hj : σ[j]? = some (some v))
    (k : ∀ dx, H dx = none → dx ≠ a → nx σ (upd (upd H dx (exd dx [(f, v)])) a (exo a C (some dx)))) : tOst K f (tVar i) (tVar j) ⟨nx, rt, bk, ct⟩ σ H :=
  ⟨v, hj, .ref a, hi, a, C, rfl, ho, hno, .inl ⟨ea, k⟩⟩
theorem r_ost2 {σ : L2.St} {H : Hp} {f : Str} {v : V} {a C dx : Addr} {fs : List (Str × V)} {nx bk ct : L2.St → Hp → Prop} {rt : VK} (ho : OexC K C) (hno : PySem.W.findIn K (.ref C) f = some none) (ea : H a = some (exo a C (some dx))) (ed : H dx = some (exd dx fs)) (hf : fs.length ≤ 900)
    {i j : Nat} (hi : σ[i]? = some (some (.ref a))) (hj : σ[j]? = some (some v)) (k : nx σ (upd H dx (exd dx ((f, v) :: fs)))) : tOst K f (tVar i) (tVar j) ⟨nx, rt, bk, ct⟩ σ H :=
  ⟨v, hj, .ref a, hi, a, C, rfl, ho, hno, .inr ⟨dx, fs, ea, ed, hf, k⟩⟩
theorem exo_ne_exd {a C dx : Addr} {d : Option Addr} {fs : List (Str × V)} {H : Hp} (ha : H a = none) (hd : upd H a (exo a C d) dx = none) : dx ≠ a := fun e => by
  rw [e, upd_same] at hd; cases hd
theorem err_heap {H : Hp} {a dx C : Addr} {u o : HO} (ha : H a = none) (hd : H dx = none) (hne : dx ≠ a) : Ext H (upd (del (upd (upd (upd H a u) dx o) a u) a) dx o) ∧ (upd (del (upd (upd (upd H a u) dx o) a u) a) dx o) dx = some o :=
  ⟨fun b q e => by rw [upd_ne (ne_of_none e hd), del_ne (ne_of_none e ha), upd_ne (ne_of_none e ha), upd_ne (ne_of_none e hd), upd_ne (ne_of_none e ha)]; exact e, upd_same⟩
/-- C(v): an error with its own dict, new -/
theorem r_mk1 {H : Hp} {C : Addr} {f : Str} {v : V} {E : XK} (k : ∀ d H', H d = none → Ext H H' → H' d = some (.xd [(f, v)]) → E (.ref C) (some d) H') :
    [v].length ≤ 1000 ∧ ∀ a, H a = none → spI1 C f (.ref a :: ([v] ++ [])) (upd H a (exo a C none)) (fun v' H2 => v' = .non ∧ ∃ (d : Addr) (fs : List (Str × V)), H2 a = some (exo a C (some d)) ∧ H2 d = some (exd d fs) ∧ H d = none ∧ E (.ref C) (some d) (upd (del H2 a) d (.xd fs))) (fun _ _ _ => False) := by
  refine ⟨by show 1 ≤ 1000; decide, fun a ha => ⟨a, v, rfl, upd_same, fun dx hd hne => ⟨rfl, dx, [(f, v)], upd_same, by rw [upd_ne hne, upd_same], ?_, ?_⟩⟩⟩
  · rw [upd_ne hne] at hd; exact hd
  · rw [upd_ne hne] at hd
    refine k dx _ hd (fun b q e => ?_) upd_same
    rw [upd_ne (ne_of_none e hd), del_ne (ne_of_none e ha), upd_ne (ne_of_none e ha), upd_ne (ne_of_none e hd), upd_ne (ne_of_none e ha)]
    exact e
theorem r_mk2 {H : Hp} {C : Addr} {f g : Str} {u v : V} {E : XK} (k : ∀ d H', H d = none → Ext H H' → H' d = some (.xd [(g, v), (f, u)]) → E (.ref C) (some d) H') :
    [u, v].length ≤ 1000 ∧ ∀ a, H a = none → spI2 C f g (.ref a :: ([u, v] ++ [])) (upd H a (exo a C none)) (fun v' H2 => v' = .non ∧ ∃ (d : Addr) (fs : List (Str × V)), H2 a = some (exo a C (some d)) ∧ H2 d = some (exd d fs) ∧ H d = none ∧ E (.ref C) (some d) (upd (del H2 a) d (.xd fs))) (fun _ _ _ => False) := by
  refine ⟨by show 2 ≤ 1000; decide, fun a ha => ⟨a, u, v, rfl, upd_same, fun dx hd hne => ⟨rfl, dx, [(g, v), (f, u)], by rw [upd_ne hne.symm, upd_same], upd_same, ?_, ?_⟩⟩⟩
  · rw [upd_ne hne] at hd; exact hd
  · rw [upd_ne hne] at hd
    refine k dx _ hd (fun b q e => ?_) upd_same
    rw [upd_ne (ne_of_none e hd), del_ne (ne_of_none e ha), upd_ne (ne_of_none e hd), upd_ne (ne_of_none e ha), upd_ne (ne_of_none e hd), upd_ne (ne_of_none e ha)]
    exact e
end
/-- raise C(e, ..) -/
theorem r_mkO {sp : Sp} {ta : TA} {C : Addr} {E : XK} {σ : L2.St} {H : Hp} (k : ta σ H fun vs H1 => vs.length ≤ 1000 ∧ ∀ a, H1 a = none → sp (.ref a :: (vs ++ [])) (upd H1 a (exo a C none))
    (fun v H2 => v = .non ∧ ∃ (d : Addr) (fs : List (Str × V)), H2 a = some (exo a C (some d)) ∧ H2 d = some (exd d fs) ∧ H1 d = none ∧ E (.ref C) (some d) (upd (del H2 a) d (.xd fs))) (fun _ _ _ => False)) :
    tMkO C sp [] ta σ H E := k
/-! ### wide products: one factor small, or both below a million bits -/
def CMulB (i j : Int) : Prop := CMulW i j ∨ CMul i j
def rTimesB : R2 := fun x y H Q => rI CMulB (fun i j => .int (i * j)) x y H Q ∨ rRep x y H Q
theorem op_timesB {X : Cx} : OpR X (binaryOp .Mult) rTimesB := by
  intro pins s σ H x y u v Q I rx ry h
  rcases h with ⟨i, j, ex, ey, c, q⟩ | h
  · rcases c with c | c
    · exact op_mulW pins s σ H x y u v Q I rx ry ⟨i, j, ex, ey, c, q⟩
    · exact op_mul pins s σ H x y u v Q I rx ry ⟨i, j, ex, ey, c, q⟩
  · exact op_rep pins s σ H x y u v Q I rx ry h
theorem r_timesB {H : Hp} {Q : VK} {i j : Int} (c : CMulB i j) (k : Q (.int (i * j)) H) : rTimesB (.int i) (.int j) H Q := .inl ⟨i, j, rfl, rfl, c, k⟩
theorem cmR {i j : Int} (h1 : -(2 ^ 64) < j) (h2 : j < 2 ^ 64) : CMulB i j := .inr (.inr ⟨h1, h2⟩)
theorem cmL {i j : Int} (h1 : -(2 ^ 64) < i) (h2 : i < 2 ^ 64) : CMulB i j := .inr (.inl ⟨h1, h2⟩)
theorem cdW {i j : Int} (h : 0 < j) (h2 : j < 2 ^ 250) : CDivW i j := wide_div h (b := 250) (by omega) (by decide) (by decide)
theorem r_repL {l : Addr} {xs : List V} {H : Hp} {Q : VK} {k : Int} (h : H l = some (.lst xs)) (h1 : -(2 ^ 63) ≤ k) (h2 : k < 2 ^ 63) (h3 : xs.length * k.toNat ≤ 100000) (q : ∀ p H', H p = none → Ext H H' → H' p = some (.lst (List.replicate k.toNat xs).flatten) → Q (.ref p) H') : rTimesB (.ref l) (.int k) H Q :=
  .inr ⟨l, k, xs, rfl, rfl, h, h1, h2, Nat.le_trans h3 (by decide), fun p hp => q p _ hp (Ext.new hp) upd_same⟩
end L3
namespace L3
open PySem PySem.Spec PyProof.Rows L2 He
section
variable {K : PySem.W.Frag} {H : Hp} {Q : VK} {σ : L2.St}
/-! leaves of built-ins -/
def LenS (K : PySem.W.Frag) : List V → Hp → VK → Prop := fun xs H Q => ∃ p ys, xs = [.ref p] ∧ (SqL K H p ys ∨ SqT K H p ys) ∧ Q (.int ys.length) H
theorem cr_len {X : Cx} : CallR X (.builtin "len") (LenS X.K) := call_len_seq
theorem r_lenL {p : Addr} {ys : List V} {n : Int} (h : SqL K H p ys) (e : (ys.length : Int) = n) (k : Q (.int n) H) : LenS K [.ref p] H Q := ⟨p, ys, rfl, .inl h, by rw [e]; exact k⟩
theorem r_lenT {p : Addr} {ys : List V} {n : Int} (h : SqT K H p ys) (e : (ys.length : Int) = n) (k : Q (.int n) H) : LenS K [.ref p] H Q := ⟨p, ys, rfl, .inr h, by rw [e]; exact k⟩
def IntS : List V → Hp → VK → Prop := fun xs H Q => (∃ i, xs = [.int i] ∧ Q (.int i) H) ∨ ∃ k, xs = [.bl k] ∧ Q (.int (if k then 1 else 0)) H
theorem cr_int {X : Cx} : CallR X (.type "int") IntS := call_int1
theorem r_intI {i : Int} (k : Q (.int i) H) : IntS [.int i] H Q := .inl ⟨i, rfl, k⟩
def AbsS : List V → Hp → VK → Prop := fun xs H Q => ∃ i, xs = [.int i] ∧ Q (.int (if i < 0 then -i else i)) H
theorem cr_abs {X : Cx} : CallR X (.builtin "abs") AbsS := call_abs
theorem r_abs {i : Int} (k : Q (.int (if i < 0 then -i else i)) H) : AbsS [.int i] H Q := ⟨i, rfl, k⟩
def MinS : List V → Hp → VK → Prop := fun xs H Q => ∃ i j, xs = [.int i, .int j] ∧ Q (.int (if j < i then j else i)) H
def MaxS : List V → Hp → VK → Prop := fun xs H Q => ∃ i j, xs = [.int i, .int j] ∧ Q (.int (if j > i then j else i)) H
theorem cr_min2 {X : Cx} (hc : X.calm = true) : CallR X (.builtin "min") MinS := call_min2 hc
theorem cr_max2 {X : Cx} (hc : X.calm = true) : CallR X (.builtin "max") MaxS := call_max2 hc
theorem r_min {i j : Int} (k : Q (.int (min i j)) H) : MinS [.int i, .int j] H Q := ⟨i, j, rfl, by
  have e : (if j < i then j else i) = min i j := by split <;> omega
  rw [e]; exact k⟩
theorem r_max {i j : Int} (k : Q (.int (max i j)) H) : MaxS [.int i, .int j] H Q := ⟨i, j, rfl, by
  have e : (if j > i then j else i) = max i j := by split <;> omega
  rw [e]; exact k⟩
def ListS (K : PySem.W.Frag) : List V → Hp → VK → Prop := fun xs H Q => ∃ p ys, xs = [.ref p] ∧ (SqL K H p ys ∨ SqT K H p ys) ∧ ∀ l, H l = none → Q (.ref l) (upd H l (.lst ys))
theorem cr_list {X : Cx} : CallR X (.type "list") (ListS X.K) := call_list_of
theorem r_listL {p : Addr} {ys : List V} (h : SqL K H p ys) (k : ∀ l H', H l = none → Ext H H' → H' l = some (.lst ys) → Q (.ref l) H') : ListS K [.ref p] H Q := ⟨p, ys, rfl, .inl h, fun l hl => k l _ hl (Ext.new hl) upd_same⟩
theorem r_listT {p : Addr} {ys : List V} (h : SqT K H p ys) (k : ∀ l H', H l = none → Ext H H' → H' l = some (.lst ys) → Q (.ref l) H') : ListS K [.ref p] H Q := ⟨p, ys, rfl, .inr h, fun l hl => k l _ hl (Ext.new hl) upd_same⟩
theorem r_sum {p : Addr} {ns : List Int} (h : SqL K H p (ns.map V.int)) (k : Q (.int ns.sum) H) : rSum K [.ref p] H Q := ⟨p, ns, rfl, h, k⟩
theorem r_slL {p : Addr} {xs : List V} {lo hi : Option Int} (h : SqL K H p xs) (k : ∀ l H', H l = none → Ext H H' → H' l = some (.lst (cutV xs lo hi)) → Q (.ref l) H') : rSlL K (.ref p) lo hi H Q := ⟨p, xs, rfl, h, fun l hl => k l _ hl (Ext.new hl) upd_same⟩
theorem r_catL {l b : Addr} {xs zs : List V} (h1 : H l = some (.lst xs)) (h2 : H b = some (.lst zs)) (hz : xs.length + zs.length ≤ 100000) (k : ∀ p H', H p = none → Ext H H' → H' p = some (.lst (xs ++ zs)) → Q (.ref p) H') : rPlus K (.ref l) (.ref b) H Q :=
  .inr (.inl ⟨l, b, xs, zs, rfl, rfl, h1, h2, Nat.le_trans hz (by decide), fun p hp => k p _ hp (Ext.new hp) upd_same⟩)
theorem r_popAt {l : Addr} {xs : List V} {i : Int} {j : Nat} {v : V} (h : H l = some (.lst xs)) (ei : i = (j : Int)) (hj : j < 100000) (e : xs[j]? = some v) (k : ∀ H', H' l = some (.lst (xs.eraseIdx j)) → (∀ b, b ≠ l → H' b = H b) → Q v H') : rPopAt (.ref l) [.int i] H Q := by
  subst ei
  have hl : j < xs.length := (List.getElem?_eq_some_iff.mp e).1
  exact ⟨l, xs, (j : Int), j, v, rfl, rfl, h, by omega, by omega, seqIndex_of (by omega) (by omega), e, k _ upd_same fun b hb => upd_ne hb⟩
theorem r_pow {i j : Int} (h : 0 ≤ j ∧ j ≤ 1000000 ∧ i.natAbs < 2 ^ 64) (k : Q (.int (i ^ j.toNat)) H) : rI CPow (fun i j => .int (i ^ j.toNat)) (.int i) (.int j) H Q := ⟨i, j, rfl, rfl, h, k⟩
theorem r_mod {i j : Int} (h : 0 < j) (k : Q (.int (i % j)) H) : rI (fun _ j => 0 < j) (fun i j => .int (i % j)) (.int i) (.int j) H Q := ⟨i, j, rfl, rfl, h, k⟩
theorem r_div {i j : Int} (h : CDivW i j) (k : Q (.int (i / j)) H) : rI CDivW (fun i j => .int (i / j)) (.int i) (.int j) H Q := ⟨i, j, rfl, rfl, h, k⟩
end
end L3
set_option maxRecDepth 100000
set_option maxHeartbeats 4000000
/-! CmF: loops and comprehensions, read by an invariant. -/
namespace L3
open PySem PySem.Spec PyProof.Rows L2 He
def ForW (J : It) (g : TG) (tb : TS) (D : Ends) (σ : L2.St) (H1 : Hp) : Prop := ∃ W : Nat → Nat → L2.St → Hp → Prop, (∃ m, W 0 m σ H1) ∧ ∀ i m σ H, W i m σ H →
  (J.stop i H ∧ D.nx σ H) ∨ (J.go i H ∧ ∃ N : L2.St → Hp → Prop, (∀ σ' H', N σ' H' → ∃ m', m' < m ∧ W (i + 1) m' σ' H') ∧ ∀ x H', J.yld i H x H' → g x σ H' fun σ2 H2 => tb { D with nx := N, ct := N, bk := D.nx } σ2 H2)
def LcW (J : It) (g : TG) (tt : TT) (te : TE) (vs : List Nat) (σ : L2.St) (D : Addr) (Qd : Hp → Prop) (H1 : Hp) : Prop := ∃ W : Nat → Nat → Hp → Prop, (∃ m, W 0 m (upd H1 D (.lst []))) ∧ ∀ i m H, W i m H →
  (J.stop i H ∧ Qd H) ∨ (J.go i H ∧ ∃ Nx : Hp → Prop, (∀ H', Nx H' → ∃ m', m' < m ∧ W (i + 1) m' H') ∧ ∀ x H', J.yld i H x H' → g x (wipe σ vs) H' fun σ2 H2 => wipe σ2 vs = wipe σ vs ∧ tt σ2 H2 fun b H3 =>
    if b = true then te σ2 H3 fun y H4 => ∃ acc, H4 D = some (.lst acc) ∧ acc.length < sizeLine ∧ Nx (upd H4 D (.lst (acc ++ [y]))) else Nx H3)
section
variable {σ : L2.St} {H : Hp} {D : Ends} {K : PySem.W.Frag} {g : TG} {tb : TS} {wi : TI} {ta : TA} {tl te : TE} {tt : TT} {R : It → Hp → Prop} {nx bk ct : L2.St → Hp → Prop} {rt : VK} {Q : VK}
theorem r_for (k : wi σ H fun J H1 => ForW J g tb D σ H1) : tFor wi g tb D σ H := k
theorem r_lc {vs : List Nat} (k : wi σ H fun J H1 => ∀ D, H1 D = none → LcW J g tt te vs σ D (fun H => Q (.ref D) H) H1) : tLc wi g tt te vs σ H Q := k
def Rg1 (vs : List V) (H1 : Hp) (R : It → Hp → Prop) : Prop := ∃ j : Int, vs = [.int j] ∧ -(2 ^ 62) ≤ j ∧ j < 2 ^ 62 ∧ R (Itr 0 j.toNat) H1
def Rg2 (vs : List V) (H1 : Hp) (R : It → Hp → Prop) : Prop := ∃ i j : Int, vs = [.int i, .int j] ∧ (-(2 ^ 62) ≤ i ∧ i < 2 ^ 62 ∧ -(2 ^ 62) ≤ j ∧ j < 2 ^ 62) ∧ R (Itr i (j - i).toNat) H1
def LiI (K : PySem.W.Frag) (x : V) (H1 : Hp) (R : It → Hp → Prop) : Prop := ∃ a, x = .ref a ∧ (∃ xs, SqL K H1 a xs) ∧ R (Itl K a) H1
def TiI (K : PySem.W.Frag) (x : V) (H1 : Hp) (R : It → Hp → Prop) : Prop := ∃ a, x = .ref a ∧ (∃ xs, SqT K H1 a xs) ∧ R (Itt K a) H1
theorem r_iR1 (k : ta σ H fun vs H1 => Rg1 vs H1 R) : iRng1 ta σ H R := k
theorem r_rg1 {j : Int} (h : -(2 ^ 62) ≤ j ∧ j < 2 ^ 62) (k : R (Itr 0 j.toNat) H) : Rg1 [V.int j] H R := ⟨j, rfl, h.1, h.2, k⟩
theorem r_iR2 (k : ta σ H fun vs H1 => Rg2 vs H1 R) : iRng2 ta σ H R := k
theorem r_rg2 {i j : Int} (h : -(2 ^ 62) ≤ i ∧ i < 2 ^ 62 ∧ -(2 ^ 62) ≤ j ∧ j < 2 ^ 62) (k : R (Itr i (j - i).toNat) H) : Rg2 [V.int i, V.int j] H R := ⟨i, j, rfl, h, k⟩
theorem r_iL (k : tl σ H fun x H1 => LiI K x H1 R) : iList K tl σ H R := k
theorem r_iT (k : tl σ H fun x H1 => TiI K x H1 R) : iTup K tl σ H R := k
theorem r_li {a : Addr} {xs : List V} (h : SqL K H a xs) (k : R (Itl K a) H) : LiI K (.ref a) H R := ⟨a, rfl, ⟨xs, h⟩, k⟩
theorem r_ti {a : Addr} {xs : List V} (h : SqT K H a xs) (k : R (Itt K a) H) : TiI K (.ref a) H R := ⟨a, rfl, ⟨xs, h⟩, k⟩
/-- for over a range: Pv of the turn, the slots, the heap -/
theorem forW_range {lo : Int} {n : Nat} (Pv : Nat → L2.St → Hp → Prop) (h0 : Pv 0 σ H) (hs : ∀ i σ H, i < n → Pv i σ H → g (.int (lo + i)) σ H fun σ2 H2 => tb ⟨Pv (i + 1), rt, nx, Pv (i + 1)⟩ σ2 H2) (hd : ∀ σ H, Pv n σ H → nx σ H) : ForW (Itr lo n) g tb ⟨nx, rt, bk, ct⟩ σ H :=
  for_range (D := ⟨nx, rt, bk, ct⟩) Pv h0 hs hd
theorem forW_list {a : Addr} {xs : List V} (Pv : Nat → L2.St → Hp → Prop) (h0 : Pv 0 σ H) (hl : ∀ i σ H, i ≤ xs.length → Pv i σ H → SqL K H a xs) (hs : ∀ i x σ H, xs[i]? = some x → Pv i σ H → g x σ H fun σ2 H2 => tb ⟨Pv (i + 1), rt, nx, Pv (i + 1)⟩ σ2 H2)
    (hd : ∀ σ H, Pv xs.length σ H → nx σ H) : ForW (Itl K a) g tb ⟨nx, rt, bk, ct⟩ σ H := for_list (D := ⟨nx, rt, bk, ct⟩) Pv h0 hl hs hd
theorem forW_tup {a : Addr} {xs : List V} (Pv : Nat → L2.St → Hp → Prop) (h0 : Pv 0 σ H) (hl : ∀ i σ H, i ≤ xs.length → Pv i σ H → SqT K H a xs) (hs : ∀ i x σ H, xs[i]? = some x → Pv i σ H → g x σ H fun σ2 H2 => tb ⟨Pv (i + 1), rt, nx, Pv (i + 1)⟩ σ2 H2)
    (hd : ∀ σ H, Pv xs.length σ H → nx σ H) : ForW (Itt K a) g tb ⟨nx, rt, bk, ct⟩ σ H := for_tup (D := ⟨nx, rt, bk, ct⟩) Pv h0 hl hs hd
/-- while, by a word that falls -/
theorem whileW {c : TT} (W : Nat → L2.St → Hp → Prop) (m0 : Nat) (h0 : W m0 σ H)
    (hs : ∀ m σ H, W m σ H → c σ H fun b H1 => if b = true then ∃ N : L2.St → Hp → Prop, (∀ σ' H', N σ' H' → ∃ m', m' < m ∧ W m' σ' H') ∧ tb ⟨N, rt, nx, N⟩ σ H1 else nx σ H1) : tWhile c tb ⟨nx, rt, bk, ct⟩ σ H := ⟨W, ⟨m0, h0⟩, hs⟩
theorem r_N {W : Nat → L2.St → Hp → Prop} {m : Nat} (k : tb ⟨fun σ' H' => ∃ m', m' < m ∧ W m' σ' H', rt, nx, fun σ' H' => ∃ m', m' < m ∧ W m' σ' H'⟩ σ H) :
    ∃ N : L2.St → Hp → Prop, (∀ σ' H', N σ' H' → ∃ m', m' < m ∧ W m' σ' H') ∧ tb ⟨N, rt, nx, N⟩ σ H := ⟨_, fun _ _ h => h, k⟩
theorem r_gname {i : Nat} {v : V} {P : L2.St → Hp → Prop} (k : P (σ.set i (some v)) H) : gName i v σ H P := k
theorem r_gtup {n : Nat} {t : TGs} {a : Addr} {xs : List V} {P : L2.St → Hp → Prop} (h : SqT K H a xs) (hn : xs.length = n) (k : t xs σ H P) : gTup K n t (.ref a) σ H P := ⟨a, xs, rfl, h, hn, k⟩
theorem r_glst {n : Nat} {t : TGs} {a : Addr} {xs : List V} {P : L2.St → Hp → Prop} (h : SqL K H a xs) (hn : xs.length = n) (k : t xs σ H P) : gLst K n t (.ref a) σ H P := ⟨a, xs, rfl, h, hn, k⟩
theorem r_gcons {t : TG} {u : TGs} {v : V} {r : List V} {P : L2.St → Hp → Prop} (k : t v σ H fun σ' H' => u r σ' H' P) : gCons t u (v :: r) σ H P := ⟨v, r, rfl, k⟩
theorem r_gnil {P : L2.St → Hp → Prop} (k : P σ H) : gNil [] σ H P := ⟨rfl, k⟩
/-! comprehensions -/
theorem lcW_range {lo : Int} {n : Nat} {vs : List Nat} {Dl : Addr} {Qd : Hp → Prop} (Pv : Nat → Hp → Prop) (h0 : Pv 0 (upd H Dl (.lst []))) (hs : ∀ i H, i < n → Pv i H → g (.int (lo + i)) (wipe σ vs) H fun σ2 H2 => wipe σ2 vs = wipe σ vs ∧ tt σ2 H2 fun b H3 =>
      if b = true then te σ2 H3 fun y H4 => ∃ acc, H4 Dl = some (.lst acc) ∧ acc.length < sizeLine ∧ Pv (i + 1) (upd H4 Dl (.lst (acc ++ [y]))) else Pv (i + 1) H3) (hd : ∀ H, Pv n H → Qd H) : LcW (Itr lo n) g tt te vs σ Dl Qd H := lc_range Pv h0 hs hd
theorem lcW_list {a : Addr} {xs : List V} {vs : List Nat} {Dl : Addr} {Qd : Hp → Prop} (Pv : Nat → Hp → Prop) (h0 : Pv 0 (upd H Dl (.lst []))) (hl : ∀ i H, i ≤ xs.length → Pv i H → SqL K H a xs)
    (hs : ∀ i x H, xs[i]? = some x → Pv i H → g x (wipe σ vs) H fun σ2 H2 => wipe σ2 vs = wipe σ vs ∧ tt σ2 H2 fun b H3 =>
      if b = true then te σ2 H3 fun y H4 => ∃ acc, H4 Dl = some (.lst acc) ∧ acc.length < sizeLine ∧ Pv (i + 1) (upd H4 Dl (.lst (acc ++ [y]))) else Pv (i + 1) H3) (hd : ∀ H, Pv xs.length H → Qd H) : LcW (Itl K a) g tt te vs σ Dl Qd H := lc_list Pv h0 hl hs hd
/-- what has been made so far: one value a turn -/
structure LcP (H1 : Hp) (Dl : Addr) (f : Nat → V) (i : Nat) (H' : Hp) : Prop where
  e : Ext H1 H'
  d : H' Dl = some (.lst ((List.range i).map f))
theorem LcP.start {H1 : Hp} {Dl : Addr} {f : Nat → V} (hD : H1 Dl = none) : LcP H1 Dl f 0 (upd H1 Dl (.lst [])) := ⟨Ext.new hD, upd_same⟩
theorem LcP.push {H1 H' H4 : Hp} {Dl : Addr} {f : Nat → V} {i : Nat} {y : V} (p : LcP H1 Dl f i H') (hD : H1 Dl = none) (hi : i < 100000) (e : Ext H' H4) (ey : y = f i) : ∃ acc, H4 Dl = some (.lst acc) ∧ acc.length < sizeLine ∧ LcP H1 Dl f (i + 1) (upd H4 Dl (.lst (acc ++ [y]))) := by
  refine ⟨_, e _ _ p.d, ?_, Ext.mut (p.e.trans e) hD, ?_⟩
  · rw [List.length_map, List.length_range]
    exact Nat.lt_of_lt_of_le hi (by decide)
  · rw [upd_same, List.range_succ, List.map_append, ey]
    rfl
theorem r_yes {P : Bool → Hp → Prop} (k : P true H) : tYes σ H P := k
theorem r_lcW {vs : List Nat} {σ2 : L2.St} {P : Prop} (e : wipe σ2 vs = wipe σ vs) (k : P) : wipe σ2 vs = wipe σ vs ∧ P := ⟨e, k⟩
end
end L3
namespace L3
open PySem PySem.Spec PyProof.Rows L2 He
/-- a statement, then the rest, with a word between -/
theorem r_cut {t u : TS} {nx bk ct : L2.St → Hp → Prop} {rt : VK} {σ : L2.St} {H : Hp} (M : L2.St → Hp → Prop) (h1 : t ⟨M, rt, bk, ct⟩ σ H) (h2 : ∀ σ' H', M σ' H' → u ⟨nx, rt, bk, ct⟩ σ' H') : C8.tCut t u ⟨nx, rt, bk, ct⟩ σ H := ⟨M, h1, h2⟩
theorem ifI {b : Bool} {x y : Int} {Q : VK} {H : Hp} (k : Q (.int (if b = true then x else y)) H) : if b = true then Q (.int x) H else Q (.int y) H := by cases b <;> exact k
end L3
namespace L3
open PySem PySem.Spec PyProof.Rows L2 He
theorem cut_to (xs : List V) (k : Nat) : cutV xs none (some (k : Int)) = xs.take k := by
  unfold cutV
  rw [HT.sIx_none, HT.sIx_nat, List.drop_zero, Nat.sub_zero]
  by_cases h : k ≤ xs.length
  · rw [Nat.min_eq_left h]
  · rw [Nat.min_eq_right (by omega), List.take_of_length_le (Nat.le_refl _), List.take_of_length_le (by omega)]
theorem cut_from (xs : List V) (k : Nat) : cutV xs (some (k : Int)) none = xs.drop k := by
  unfold cutV
  rw [HT.sIx_none, HT.sIx_nat]
  by_cases h : k ≤ xs.length
  · rw [Nat.min_eq_left h, List.take_of_length_le (by rw [List.length_drop] <;> omega)]
  · rw [Nat.min_eq_right (Nat.le_of_lt (Nat.lt_of_not_le h)), List.drop_of_length_le (Nat.le_refl _), List.drop_of_length_le (Nat.le_of_lt (Nat.lt_of_not_le h)), List.take_nil]
theorem cut_at (xs : List V) (i j : Nat) : cutV xs (some (i : Int)) (some (j : Int)) = (xs.drop i).take (j - i) := by
  unfold cutV
  rw [HT.sIx_nat, HT.sIx_nat]
  by_cases h : i ≤ xs.length
  · rw [Nat.min_eq_left h]
    by_cases h2 : j ≤ xs.length
    · rw [Nat.min_eq_left h2]
    · rw [Nat.min_eq_right (by omega), List.take_of_length_le (by rw [List.length_drop] <;> omega), List.take_of_length_le (by rw [List.length_drop] <;> omega)]
  · rw [Nat.min_eq_right (a := i) (Nat.le_of_lt (Nat.lt_of_not_le h)), List.drop_of_length_le (Nat.le_refl _), List.drop_of_length_le (Nat.le_of_lt (Nat.lt_of_not_le h)), List.take_nil, List.take_nil]
theorem range_ints (ns : List Int) (g : Int → Int) : (List.range ns.length).map (fun i => V.int (g (ns.getD i 0))) = (ns.map g).map V.int := by
  apply List.ext_getElem
  · simp
  · intro i h1 h2
    simp at h1 h2 ⊢
    simp [h1]
theorem ints_get {ns : List Int} {i : Nat} {x : V} (h : (ns.map V.int)[i]? = some x) : i < ns.length ∧ x = .int (ns.getD i 0) := by
  rw [List.getElem?_map] at h
  cases e : ns[i]? with
  | none => rw [e] at h; cases h
  | some z =>
    rw [e] at h
    obtain ⟨h1, h2⟩ := List.getElem?_eq_some_iff.mp e
    refine ⟨h1, ?_⟩
    have : x = .int z := (Option.some.inj h).symm
    rw [this, List.getD_eq_getElem?_getD, e]
    rfl
end L3
namespace L3
open PySem PySem.Spec PyProof.Rows L2 He
/-- x if c else y, both written ints; if b then .. -/
def IfI (b : Bool) (x y : Int) (H : Hp) (Q : VK) : Prop := Q (.int (if b = true then x else y)) H
theorem mono_ifC {b : Bool} {x y : Int} {H : Hp} {Q : VK} (k : IfI b x y H Q) : if b = true then tC (.int x) [] H Q else tC (.int y) [] H Q := by cases b <;> exact k
def tIfC (c : TT) (x y : Int) : TE := fun σ H Q => c σ H fun b H1 => IfI b x y H1 Q
theorem r_ifI {b : Bool} {x y : Int} {H : Hp} {Q : VK} (k : Q (.int (if b = true then x else y)) H) : IfI b x y H Q := k
theorem tIfC_eq (c : TT) (x y : Int) : tIfC c x y = tIf c (tC (.int x)) (tC (.int y)) := by
  funext σ H Q
  unfold tIfC tIf IfI tC
  have e : (fun (b : Bool) (H1 : Hp) => Q (.int (if b = true then x else y)) H1) = fun b H1 => if b = true then Q (.int x) H1 else Q (.int y) H1 := by
    funext b H1
    cases b <;> rfl
  rw [e]
theorem r_ifC {c : TT} {x y : Int} {σ : L2.St} {H : Hp} {Q : VK} (k : c σ H fun b H1 => IfI b x y H1 Q) : tIf c (tC (.int x)) (tC (.int y)) σ H Q := by
  rw [← tIfC_eq]
  exact k
end L3
set_option maxRecDepth 100000
set_option maxHeartbeats 4000000
/-! CmG: sources of draws; what stays when one object changes. -/
namespace L3
open PySem PySem.Spec PyProof.Rows L2 He
/-- a source of draws: three ints -/
def Src (H : Hp) (p : Addr) : Prop := ∃ a b c : Int, H p = some (.lst [.int a, .int b, .int c])
theorem Src.ext {H H' : Hp} {p : Addr} (s : Src H p) (e : Ext H H') : Src H' p := by obtain ⟨a, b, c, h⟩ := s; exact ⟨a, b, c, e _ _ h⟩
def spSource (K : PySem.W.Frag) : Sp := fun vs H Q _ => ∃ (a : Addr) (ns : List Int) (t : Nat), vs = [.ref a, .int t] ∧ SqL K H a (ns.map V.int) ∧ ns.length ≤ 63 ∧ t ≤ 1000 ∧ ∀ p H', H p = none → Ext H H' → Src H' p → Q (.ref p) H'
theorem pos128 : (0 : Int) < 10 ^ (64 : Int).toNat * 10 ^ (64 : Int).toNat := by decide
theorem bd128 : ((10 : Int) ^ (64 : Int).toNat).natAbs < 2 ^ 250 := by decide
theorem bd31 (x : Int) : 0 ≤ x % 2147483629 ∧ x % 2147483629 < 2147483629 := ⟨Int.emod_nonneg _ (by decide), Int.emod_lt_of_pos _ (by decide)⟩
/-- a draw below many: any number below it, only the source changes -/
def spPick : Sp := fun vs H Q _ => ∃ (p : Addr) (m : Int), vs = [.ref p, .int m] ∧ Src H p ∧ 0 < m ∧ m < 2 ^ 250 ∧ ∀ r H', 0 ≤ r → r < m → Src H' p → (∀ b, b ≠ p → H' b = H b) → Q (.int r) H'
/-- an address b of the heap stays when only p changes -/
theorem stay {H H' : Hp} {p b : Addr} {o : HO} (n : ∀ b, b ≠ p → H' b = H b) (hb : b ≠ p) (h : H b = some o) : H' b = some o := (n b hb).trans h
/-- all but p as it was -/
def But (p : Addr) (H H' : Hp) : Prop := ∀ b o, b ≠ p → H b = some o → H' b = some o
theorem But.rfl {p : Addr} {H : Hp} : But p H H := fun _ _ _ h => h
theorem But.of {p : Addr} {H H' : Hp} (n : ∀ b, b ≠ p → H' b = H b) : But p H H' := fun b o hb h => (n b hb).trans h
theorem But.ext {p : Addr} {H H1 H2 : Hp} (b : But p H H1) (e : Ext H1 H2) : But p H H2 := fun c o hc h => e _ _ (b c o hc h)
theorem ext_but {p : Addr} {H H1 : Hp} (e : Ext H H1) : But p H H1 := fun c o _ h => e _ _ h
theorem But.trans {p : Addr} {H H1 H2 : Hp} (a : But p H H1) (b : But p H1 H2) : But p H H2 := fun c o hc h => b c o hc (a c o hc h)
theorem But.mut {p q : Addr} {H H1 H2 : Hp} (a : But p H H1) (hq : H q = none) (n : ∀ b, b ≠ q → H2 b = H1 b) : But p H H2 := fun c o hc h => (n c (ne_of_none h hq)).trans (a c o hc h)
theorem But.l {K : PySem.W.Frag} {p a : Addr} {H H' : Hp} {xs : List V} (b : But p H H') (ha : a ≠ p) (h : SqL K H a xs) : SqL K H' a xs := by
  rcases h with (h | ⟨o, h⟩) | h
  · exact .inl (.inl (b _ _ ha h))
  · exact .inl (.inr ⟨o, b _ _ ha h⟩)
  · exact .inr h
theorem sq_ne {K : PySem.W.Frag} {p a : Addr} {H : Hp} {xs ys : List V} (h : H p = some (.lst ys)) (ha : SqL K H a xs) (e : xs ≠ ys) : a ≠ p ∨ ∃ o, K.lookup a = some o := by
  rcases ha with (q | ⟨o, q⟩) | ⟨o, _, _, q, _⟩
  · refine .inl fun z => ?_
    rw [z, h] at q
    exact e (by injection (Option.some.inj q) with z; exact z.symm)
  · refine .inl fun z => ?_
    rw [z, h] at q
    cases q
  · exact .inr ⟨o, q⟩
theorem src_ne {p q : Addr} {H : Hp} (s : Src H p) (h : H q = none) : p ≠ q := by
  obtain ⟨a, b, c, e⟩ := s
  exact ne_of_none e h
theorem eraseIdx_perm {α : Type} : ∀ {xs : List α} {j : Nat} {x : α}, xs[j]? = some x → (x :: xs.eraseIdx j).Perm xs
  | [], j, x, h => by simp at h
  | y :: xs, 0, x, h => by simp at h; subst h; exact .refl _
  | y :: xs, j + 1, x, h => by
    have h' : xs[j]? = some x := by simpa using h
    show (x :: y :: xs.eraseIdx j).Perm (y :: xs)
    exact (List.Perm.swap _ _ _).trans ((eraseIdx_perm h').cons y)
def spShuf (K : PySem.W.Frag) : Sp := fun vs H Q _ => ∃ (p t : Addr) (xs : List V), vs = [.ref p, .ref t] ∧ Src H p ∧ SqL K H t xs ∧ xs.length ≤ 10000 ∧
  ∀ q H' (ys : List V), H q = none → ys.Perm xs → Src H' p → H' q = some (.lst ys) → But p H H' → Q (.ref q) H'
end L3
set_option maxRecDepth 100000
set_option maxHeartbeats 4000000
/-! CmH: data of any depth; isinstance of it. -/
namespace L3
open PySem PySem.Spec PyProof.Rows L2 He
theorem pe_ty {X : Cx} {n : String} {pos : Pos} (hm : X.mg (Str.ofString n) = none) (hg : Gl X (Str.ofString n) := by rfl) (hv : bootBuiltins (Str.ofString n) = some (.type n) := by decide +kernel) (hn : Str.ofString n ≠ "__name__" := by decide) (hd : (Str.ofString n == ("__debug__" : Str)) = false := by decide) :
    PE X (.Name (Str.ofString n) pos) (tC (.ty n)) := pe_bltn hg hm hv rfl hn hd
/-- a def's promise that asks what cannot be -/
theorem calG_false {P : Program} {w : World} {K : PySem.W.Frag} {mg : Str → Option Value} {base : Heap} {k : Nat} {x : Str} {st : Stmt} {ps : List Str} (hg : mg x = some (.ref (ga K x))) (D : ∃ fd, FunD K x x (defArgs st) (defBody st) (defScope st) [] [] (ga K x) fd)
    (hb : ∀ (dV kV doc pm : Value) (an : Option Addr) (cdv ct : Value) (us : List Value), us.length = ps.length → bindArgs (PySem.W.fnOf x x (defArgs st) (defBody st) (defScope st) .none kV doc pm an cdv ct) ⟨us, []⟩ = pure (ps.zip us)) : CalG P w K mg base k x ps (fun _ _ _ _ => False) := by
  obtain ⟨fd, F⟩ := D
  exact ⟨hg, ⟨fd, ⟨fun _ _ _ _ z => z.elim, fun _ _ _ _ _ _ _ _ _ _ _ _ _ z => z.elim⟩, F.bindsN fun kV doc pm an cdv ct us hl => hb .none kV doc pm an cdv ct us hl⟩, F.kp⟩
section
variable {K : PySem.W.Frag} {H H' : Hp}
mutual
theorem Ext.dp (e : Ext H H') : ∀ (d : PyData) {x : V}, Dp K H x d → Dp K H' x d
  | .none, _, .non => .non
  | .bool b, _, .bl _ => .bl b
  | .int i, _, .int _ => .int i
  | .str s, _, .str _ => .str s
  | .list ds, _, .lst h hs => .lst (e.l h) (Ext.dps e ds hs)
  | .tuple ds, _, .tup h hs => .tup (e.tu h) (Ext.dps e ds hs)
theorem Ext.dps (e : Ext H H') : ∀ (ds : List PyData) {xs : List V}, DpAll K H xs ds → DpAll K H' xs ds
  | [], _, .nil => .nil
  | d :: ds, _, .cons h hs => .cons (Ext.dp e d h) (Ext.dps e ds hs)
end
theorem dps_len : ∀ {xs : List V} {ds : List PyData}, DpAll K H xs ds → xs.length = ds.length
  | _, _, .nil => rfl
  | _, _, .cons _ h => by rw [List.length_cons, List.length_cons, dps_len h]
theorem dps_get : ∀ {xs : List V} {ds : List PyData} {i : Nat} {d : PyData}, DpAll K H xs ds → ds[i]? = some d → ∃ x, xs[i]? = some x ∧ Dp K H x d
  | _, _, i, d, .nil, e => by simp at e
  | _, _, 0, d, .cons h _, e => by simp at e; subst e; exact ⟨_, rfl, h⟩
  | _, _, i + 1, d, .cons _ h, e => by
    obtain ⟨x, e1, h1⟩ := dps_get (i := i) h (by simpa using e)
    exact ⟨x, by simpa using e1, h1⟩
theorem dps_ints : ∀ (ns : List Int), DpAll K H (ns.map V.int) (ns.map PyData.int)
  | [] => .nil
  | n :: ns => .cons (.int n) (dps_ints ns)
theorem dps_append : ∀ {xs ys : List V} {ds es : List PyData}, DpAll K H xs ds → DpAll K H ys es → DpAll K H (xs ++ ys) (ds ++ es)
  | _, _, _, _, .nil, h => h
  | _, _, _, _, .cons h t, g => .cons h (dps_append t g)
/-- the type's name -/
def tyD : PyData → String
  | .none => "NoneType"
  | .bool _ => "bool"
  | .int _ => "int"
  | .str _ => "str"
  | .list _ => "list"
  | .tuple _ => "tuple"
  | .dict _ => "dict"
theorem dp_ty {x : V} {d : PyData} (h : Dp K H x d) : TyX K H x (.type (tyD d)) := by
  cases h with
  | non => exact .base .non
  | bl b => exact .base (.bl b)
  | int i => exact .base (.int i)
  | str s => exact .base (.str s)
  | lst h _ =>
    rcases h with (h | ⟨o, h⟩) | ⟨o, _, _, h, c, _⟩
    · exact .base (.lst h)
    · exact .base (.frz h)
    · exact .kList h c
  | tup h _ =>
    rcases h with (h | ⟨o, h⟩) | ⟨o, _, _, h, c, _⟩
    · exact .base (.tup h)
    · exact .fTuple h
    · exact .kTuple h c
def tys : List String := ["NoneType", "bool", "int", "str", "list", "tuple"]
def isB (a b : String) : Bool := decide (a = b) || (decide (a = "bool") && decide (b = "int"))
theorem kit6 : ∀ a ∈ tys, ∀ b ∈ ["list", "tuple", "dict", "bool", "str", "int"], kitB a b = some (isB a b) := by decide +kernel
theorem ty_in {x : V} {d : PyData} (h : Dp K H x d) : tyD d ∈ tys := by cases h <;> simp [tyD, tys]
theorem kit_is {x : V} {d : PyData} (h : Dp K H x d) {b : String} (hb : b ∈ ["list", "tuple", "dict", "bool", "str", "int"]) : PySem.W.kitOne K (.type (tyD d)) (.type b) = some (isB (tyD d) b) := kit_ty (kit6 _ (ty_in h) _ hb)
variable {Q : VK}
/-- isinstance(x, T) -/
theorem r_isi {x : V} {d : PyData} {b : String} (h : Dp K H x d) (hb : b ∈ ["list", "tuple", "dict", "bool", "str", "int"]) (k : Q (.bl (isB (tyD d) b)) H) : rIsi K [x, .ty b] H Q := ⟨x, _, _, _, _, rfl, .ty b, dp_ty h, kit_is h hb, k⟩
theorem kitAny2 {a b c : String} {p q : Bool} (h1 : PySem.W.kitOne K (.type a) (.type b) = some p) (h2 : PySem.W.kitOne K (.type a) (.type c) = some q) : PySem.W.kitAny K (.type a) [.type b, .type c] = some (p || q) := by
  unfold PySem.W.kitAny
  rw [h1]
  cases p
  · show PySem.W.kitAny K (.type a) [.type c] = some q
    unfold PySem.W.kitAny
    rw [h2]
    cases q <;> rfl
  · rfl
theorem kitAny3 {a b c d : String} {p q r : Bool} (h1 : PySem.W.kitOne K (.type a) (.type b) = some p) (h2 : PySem.W.kitOne K (.type a) (.type c) = some q) (h3 : PySem.W.kitOne K (.type a) (.type d) = some r) : PySem.W.kitAny K (.type a) [.type b, .type c, .type d] = some (p || (q || r)) := by
  unfold PySem.W.kitAny
  rw [h1]
  cases p
  · show PySem.W.kitAny K (.type a) [.type c, .type d] = some (q || r)
    exact kitAny2 h2 h3
  · rfl
/-- isinstance(x, (T, U)) -/
theorem r_isi2 {x : V} {d : PyData} {b c : String} {t : Addr} (h : Dp K H x d) (ht : H t = some (.tup [.ty b, .ty c])) (hb : b ∈ ["list", "tuple", "dict", "bool", "str", "int"]) (hc : c ∈ ["list", "tuple", "dict", "bool", "str", "int"])
    (k : Q (.bl (isB (tyD d) b || isB (tyD d) c)) H) : rIsiT K [x, .ref t] H Q := ⟨x, t, _, _, _, _, rfl, ht, .cons (.ty b) (.cons (.ty c) .nil), dp_ty h, kitAny2 (kit_is h hb) (kit_is h hc), k⟩
theorem r_isi3 {x : V} {d : PyData} {b c e : String} {t : Addr} (h : Dp K H x d) (ht : H t = some (.tup [.ty b, .ty c, .ty e])) (hb : b ∈ ["list", "tuple", "dict", "bool", "str", "int"]) (hc : c ∈ ["list", "tuple", "dict", "bool", "str", "int"]) (he : e ∈ ["list", "tuple", "dict", "bool", "str", "int"])
    (k : Q (.bl (isB (tyD d) b || (isB (tyD d) c || isB (tyD d) e))) H) : rIsiT K [x, .ref t] H Q := ⟨x, t, _, _, _, _, rfl, ht, .cons (.ty b) (.cons (.ty c) (.cons (.ty e) .nil)), dp_ty h, kitAny3 (kit_is h hb) (kit_is h hc) (kit_is h he), k⟩
theorem r_all {p : Addr} {bs : List Bool} (h : SqL K H p (bs.map V.bl)) (k : Q (.bl (bs.all id)) H) : rAll K [.ref p] H Q := ⟨p, bs, rfl, h, k⟩
theorem r_any {p : Addr} {bs : List Bool} (h : SqL K H p (bs.map V.bl)) (k : Q (.bl (bs.any id)) H) : rAny K [.ref p] H Q := ⟨p, bs, rfl, h, k⟩
theorem r_isN1 {x : V} (k : Q (.bl (decide (x = .non))) H) : rIsN x .non H Q := ⟨rfl, k⟩
theorem r_notN1 {x : V} (k : Q (.bl (!decide (x = .non))) H) : rNotN x .non H Q := ⟨rfl, k⟩
end
end L3
set_option maxRecDepth 100000
set_option maxHeartbeats 4000000
/-! CmI: the rules with the written part named, so that a reading within a comprehension does not hang on its frame. -/
namespace L3
open PySem PySem.Spec PyProof.Rows L2 He
section
variable {X : Cx} {K : PySem.W.Frag}
theorem ixK (hK : X.K = K := by rfl) : IxR X (rAt K) := hK ▸ ix_at
theorem plusK (hK : X.K = K := by rfl) : OpR X (binaryOp .Add) (rPlus K) := hK ▸ op_plus
theorem sameK (hu : X.A.units + 64 < cLine) (hK : X.K = K := by rfl) : OpR X (compareOp .Eq) (rSame K) := hK ▸ op_same hu
theorem otherK (hu : X.A.units + 64 < cLine) (hK : X.K = K := by rfl) : OpR X (compareOp .NotEq) (rOther K) := hK ▸ op_other hu
theorem inK (hK : X.K = K := by rfl) : OpR X (compareOp .In) (rIn K false) := hK ▸ op_in_seq
theorem notInK (hK : X.K = K := by rfl) : OpR X (compareOp .NotIn) (rIn K true) := hK ▸ op_notIn_seq
theorem lenK (hK : X.K = K := by rfl) : CallR X (.builtin "len") (LenS K) := hK ▸ cr_len
theorem isiK (hK : X.K = K := by rfl) : CallR X (.builtin "isinstance") (rIsi K) := hK ▸ call_isi
theorem isiTK (hK : X.K = K := by rfl) : CallR X (.builtin "isinstance") (rIsiT K) := hK ▸ call_isiT
theorem listK (hK : X.K = K := by rfl) : CallR X (.type "list") (ListS K) := hK ▸ cr_list
def TupS (K : PySem.W.Frag) : List V → Hp → VK → Prop := fun xs H Q => ∃ p ys, xs = [.ref p] ∧ ((SqL K H p ys ∧ ∀ l, H l = none → Q (.ref l) (upd H l (.tup ys))) ∨ (SqT K H p ys ∧ Q (.ref p) H))
theorem tupK (hK : X.K = K := by rfl) : CallR X (.type "tuple") (TupS K) := hK ▸ call_tuple_of
theorem sumK (hc : X.calm = true) (hK : X.K = K := by rfl) : CallR X (.builtin "sum") (rSum K) := hK ▸ cr_sum hc
theorem maxK (hc : X.calm = true) (hK : X.K = K := by rfl) : CallR X (.builtin "max") (rMax K) := hK ▸ cr_max hc
theorem minK (hc : X.calm = true) (hK : X.K = K := by rfl) : CallR X (.builtin "min") (rMin K) := hK ▸ cr_min hc
theorem allK (hc : X.calm = true) (hK : X.K = K := by rfl) : CallR X (.builtin "all") (rAll K) := hK ▸ cr_all hc
theorem anyK (hc : X.calm = true) (hK : X.K = K := by rfl) : CallR X (.builtin "any") (rAny K) := hK ▸ cr_any hc
theorem sortedK (hK : X.K = K := by rfl) : CallR X (.builtin "sorted") (rSortedI K) := hK ▸ cr_sortedI
theorem slK (hK : X.K = K := by rfl) : SlR X (rSlL K) := hK ▸ sl_list
theorem kdictK (hK : X.K = K := by rfl) : IxR X (rIxD K X.w) := hK ▸ ix_kdict
theorem getLK (hK : X.K = K := by rfl) : PGet X (rGetL K) := hK ▸ get_list
theorem indexK (hK : X.K = K := by rfl) : MtR X "list.index" (rIndex K) := hK ▸ mt_index
theorem peBM {T : String} {r : V → List V → Hp → VK → Prop} {to : TE} {t : TA} {e : Expr} (h : PE X e (tBM X.K T r to t)) (hK : X.K = K := by rfl) : PE X e (tBM K T r to t) := hK ▸ h
theorem peBM0 {T : String} {r : V → List V → Hp → VK → Prop} {to : TE} {e : Expr} (h : PE X e (tBM0 X.K T r to)) (hK : X.K = K := by rfl) : PE X e (tBM0 K T r to) := hK ▸ h
theorem piL {tg l : Expr} {tl : TE} (hl : PE X l tl) (hK : X.K = K := by rfl) : PI X tg l (iList K tl) := hK ▸ pi_list hl
theorem piT {tg l : Expr} {tl : TE} (hl : PE X l tl) (hK : X.K = K := by rfl) : PI X tg l (iTup K tl) := hK ▸ pi_tup hl
theorem pgT {es : List Expr} {k : Nat} {t : TGs} {n : Nat} {pos : Pos} (h : PG X (.Tuple es k pos) (gTup X.K n t)) (hK : X.K = K := by rfl) : PG X (.Tuple es k pos) (gTup K n t) := hK ▸ h
theorem pgL {es : List Expr} {k : Nat} {t : TGs} {n : Nat} {pos : Pos} (h : PG X (.Tuple es k pos) (gLst X.K n t)) (hK : X.K = K := by rfl) : PG X (.Tuple es k pos) (gLst K n t) := hK ▸ h
end
end L3
namespace L3
open PySem PySem.Spec PyProof.Rows L2 He
section
variable {K : PySem.W.Frag} {H H' : Hp} {Q : VK}
theorem ite_nt {A B : Prop} (h : B) : if (!true) = true then A else B := h
theorem ite_nf {A B : Prop} (h : A) : if (!false) = true then A else B := h
/-- a list or a tuple of these -/
def Seq (K : PySem.W.Frag) (H : Hp) (a : Addr) (xs : List V) : Prop := SqL K H a xs ∨ SqT K H a xs
theorem Ext.sq {a : Addr} {xs : List V} (e : Ext H H') (h : Seq K H a xs) : Seq K H' a xs := h.elim (fun h => .inl (e.l h)) fun h => .inr (e.tu h)
theorem r_lenA {p : Addr} {ys : List V} {n : Int} (h : Seq K H p ys) (e : (ys.length : Int) = n) (k : Q (.int n) H) : LenS K [.ref p] H Q := ⟨p, ys, rfl, h, by rw [e]; exact k⟩
theorem r_atA {p : Addr} {xs : List V} {i : Int} {v : V} (h : Seq K H p xs) (e : atI xs i = some v) (k : Q v H) : rAt K (.ref p) (.int i) H Q := h.elim (fun h => r_atL h e k) fun h => r_atT h e k
def itemsD : PyData → List PyData
  | .list ds => ds
  | .tuple ds => ds
  | _ => []
theorem dp_seq {x : V} {d : PyData} (h : Dp K H x d) (c : (isB (tyD d) "list" || isB (tyD d) "tuple") = true) : ∃ a xs, x = .ref a ∧ Seq K H a xs ∧ DpAll K H xs (itemsD d) := by
  cases h with
  | lst h hs => exact ⟨_, _, rfl, .inl h, hs⟩
  | tup h hs => exact ⟨_, _, rfl, .inr h, hs⟩
  | _ => simp [isB, tyD] at c
/-- n deep at most, each list short -/
def smallD : Nat → PyData → Prop
  | 0, _ => False
  | n + 1, d => (itemsD d).length ≤ 100000 ∧ ∀ e ∈ itemsD d, smallD n e
theorem small_int (n : Nat) (i : Int) : smallD (n + 1) (.int i) := ⟨Nat.zero_le _, fun _ h => absurd h (List.not_mem_nil)⟩
theorem small_str (n : Nat) (i : Str) : smallD (n + 1) (.str i) := ⟨Nat.zero_le _, fun _ h => absurd h (List.not_mem_nil)⟩
theorem small_bool (n : Nat) (i : Bool) : smallD (n + 1) (.bool i) := ⟨Nat.zero_le _, fun _ h => absurd h (List.not_mem_nil)⟩
theorem small_none (n : Nat) : smallD (n + 1) .none := ⟨Nat.zero_le _, fun _ h => absurd h (List.not_mem_nil)⟩
theorem small_ints (n : Nat) {ns : List Int} (h : ns.length ≤ 100000) : smallD (n + 2) (.list (ns.map PyData.int)) := ⟨by show (ns.map PyData.int).length ≤ _; rw [List.length_map]; exact h, fun e he => by
  obtain ⟨i, _, rfl⟩ := List.mem_map.mp he
  exact small_int n i⟩
theorem small_tup {n : Nat} {ds : List PyData} (h : ds.length ≤ 100000) (k : ∀ e ∈ ds, smallD n e) : smallD (n + 1) (.tuple ds) := ⟨h, k⟩
theorem small_list {n : Nat} {ds : List PyData} (h : ds.length ≤ 100000) (k : ∀ e ∈ ds, smallD n e) : smallD (n + 1) (.list ds) := ⟨h, k⟩
theorem small_mono : ∀ {n m : Nat} {d : PyData}, n ≤ m → smallD n d → smallD m d
  | 0, _, _, _, h => h.elim
  | n + 1, m + 1, d, hm, h => ⟨h.1, fun e he => small_mono (by omega) (h.2 e he)⟩
/-- the same data twice -/
def spSame (K : PySem.W.Frag) (n : Nat) : Sp := fun vs H Q _ => ∃ (x y : V) (d : PyData), vs = [x, y] ∧ Dp K H x d ∧ Dp K H y d ∧ smallD n d ∧ ∀ H', Ext H H' → Q (.bl true) H'
theorem dp_flat {x : V} {d : PyData} (h : Dp K H x d) (c : (isB (tyD d) "list" || isB (tyD d) "tuple") = false) : (d = .none ∧ x = .non) ∨ ((isB (tyD d) "bool" || (isB (tyD d) "int" || isB (tyD d) "str")) = true ∧ x ≠ .non ∧ scal x x = true) := by
  cases h with
  | lst h hs => simp [isB, tyD] at c
  | tup h hs => simp [isB, tyD] at c
  | non => exact .inl ⟨rfl, rfl⟩
  | bl b => exact .inr ⟨by simp [isB, tyD], by simp, rfl⟩
  | int b => exact .inr ⟨by simp [isB, tyD], by simp, rfl⟩
  | str b => exact .inr ⟨by simp [isB, tyD], by simp, rfl⟩
theorem dp_det {x y : V} {d : PyData} (hx : Dp K H x d) (hy : Dp K H y d) (c : (isB (tyD d) "list" || isB (tyD d) "tuple") = false) : x = y := by
  cases hx <;> cases hy <;> first | rfl | simp [isB, tyD] at c
theorem dp_nodict {x : V} {d : PyData} (h : Dp K H x d) : isB (tyD d) "dict" = false := by cases h <;> simp [isB, tyD]
theorem bools_all (n : Nat) : ((List.range n).map fun _ => true).all id = true := by simp
theorem map_bl (n : Nat) : (List.range n).map (fun _ => V.bl true) = ((List.range n).map fun _ => true).map V.bl := by simp
end
end L3
namespace L3
open PySem PySem.Spec PyProof.Rows L2 He
/-- up to the line of sizes -/
theorem LcP.pushB {H1 H' H4 : Hp} {Dl : Addr} {f : Nat → V} {i : Nat} {y : V} (p : LcP H1 Dl f i H') (hD : H1 Dl = none) (hi : i < 16777216) (e : Ext H' H4) (ey : y = f i) : ∃ acc, H4 Dl = some (.lst acc) ∧ acc.length < sizeLine ∧ LcP H1 Dl f (i + 1) (upd H4 Dl (.lst (acc ++ [y]))) := by
  refine ⟨_, e _ _ p.d, ?_, Ext.mut (p.e.trans e) hD, ?_⟩
  · rw [List.length_map, List.length_range, sizeLine_eq]
    exact hi
  · rw [upd_same, List.range_succ, List.map_append, ey]
    rfl
end L3
namespace L3
open PySem PySem.Spec PyProof.Rows L2 He
/-! ### the def that tells an error, called in a suite -/
theorem Kits.yes {K : PySem.W.Frag} {b : Str} {xs : List Str} (k : Kits K b xs) {x : Str} (hx : x ∈ xs) : PySem.W.kitOne K (.ref (ga K x)) (.ref (ga K x)) = some true := by
  have h := k.kit x hx x hx
  rwa [show decide (x = x) = true from decide_eq_true rfl] at h
theorem Kits.no {K : PySem.W.Frag} {b : Str} {xs : List Str} (k : Kits K b xs) {x y : Str} (hx : x ∈ xs) (hy : y ∈ xs) (n : x ≠ y) : PySem.W.kitOne K (.ref (ga K x)) (.ref (ga K y)) = some false := by
  have h := k.kit x hx y hy
  rwa [show decide (x = y) = false from decide_eq_false n] at h
theorem r_isP {K : PySem.W.Frag} {D a dd C : Addr} {b : Bool} {fs : List (Str × V)} {H : Hp} {Q : VK} (hd : H dd = some (.xd fs)) (hk : PySem.W.kitOne K (.ref D) (.ref C) = some b) (k : Q (.bl b) H) : rIsP K D a dd [.ref a, .ref C] H Q :=
  ⟨_, .ref C, b, fs, rfl, hd, fun _ r => r, hk, k⟩
theorem r_isPV {K : PySem.W.Frag} {D a dd : Addr} {n : String} {b : Bool} {fs : List (Str × V)} {H : Hp} {Q : VK} (hd : H dd = some (.xd fs)) (hk : PySem.W.kitOne K (.ref D) (.type n) = some b) (k : Q (.bl b) H) : rIsP K D a dd [.ref a, .ty n] H Q :=
  ⟨_, .type n, b, fs, rfl, hd, fun _ r => r, hk, k⟩
theorem r_xp {D a dd : Addr} {f : Str} {te : TE} {σ : L2.St} {H : Hp} {Q : VK} (k : te σ H fun x H1 => x = .ref a ∧ ∃ (fs : List (Str × V)) (v : V), H1 dd = some (.xd fs) ∧ fs.lookup f = some v ∧ Q v H1) : tXp D a dd f te σ H Q := k
/-- what a def called in a suite promises of the handled error: its place, its class, its dict -/
abbrev SpF := Addr → Value → Option Addr → Sp
def onP (s : SpF) : SpP := fun p => s p.1 p.2.cls p.2.dict
/-- tells of an error of the class x: the tuple of its name and its fields -/
def spFlt (K : PySem.W.Frag) (x : Str) (fs : List Str) : SpF := fun a cls d vs H Q _ => ∃ (dd : Addr) (kv : List (Str × V)) (us : List V), vs = [.ref a] ∧ (cls = .ref (ga K x) ∧ d = some dd) ∧ H dd = some (.xd kv) ∧ fs.map (fun f => kv.lookup f) = us.map some ∧
  ∀ q H', H q = none → Ext H H' → H' q = some (.tup (.str x :: us)) → Q (.ref q) H'
def spFlts (K : PySem.W.Frag) (l : List (Str × List Str)) : SpF := fun a cls d vs H Q E => ∃ x ∈ l, spFlt K x.1 x.2 a cls d vs H Q E
theorem fnP_any {P : Program} {w : World} {K : PySem.W.Frag} {mg : Str → Option Value} {base : Heap} {CX : CXT} {k : Nat} {f : Addr} {fd : FuncData} {ps : List Str} {l : List (Str × List Str)} (h : ∀ x ∈ l, FnP P w K mg base CX k f fd ps (onP (spFlt K x.1 x.2))) :
    FnP P w K mg base CX k f fd ps (onP (spFlts K l)) :=
  ⟨fun p vs H Q E ⟨x, hx, z⟩ => (h x hx).len p vs H Q E z, fun p A outer s H args us vs Q E h1 h2 h3 h4 h5 h6 ⟨x, hx, z⟩ => (h x hx).run p A outer s H args us vs Q E h1 h2 h3 h4 h5 h6 z⟩
structure FaultG (P : Program) (w : World) (K : PySem.W.Frag) (mg : Str → Option Value) (base : Heap) (l : List (Str × List Str)) : Prop where
  g : mg "_law_fault" = some (.ref (ga K "_law_fault"))
  kp : PySem.W.keepIn K (.ref (ga K "_law_fault")) = true
  ok : ∃ fd, FnP P w K mg base (L2N.CX P w) 1 (ga K "_law_fault") fd ["error"] (onP (spFlts K l)) ∧ Binds K fd ["error"] []
theorem hotOf {A : Around} {a : Addr} {oe : Obj} {cls : Value} {d : Option Addr} (hz : L2N.Zn cls d oe) (hf : ∃ vs, oe.data = .fields vs) : L2H.Hot1 (A.mark (some (.ref a))) (a, oe) := by
  obtain ⟨vs, e⟩ := hf
  exact ⟨rfl, vs, e, hz.2.2 vs e⟩
/-- _law_fault(error) in the suite -/
theorem pe_fault {X : Cx} {l : List (Str × List Str)} {a : Addr} {oe : Obj} {cls : Value} {d : Option Addr} {q pos : Pos} {e : Expr} {te : TE} (c : FaultG X.prog X.w X.K X.mg X.base l) (hr : L2H.RoomH 1 X.A) (hz : L2N.Zn cls d oe) (hot : L2H.Hot1 X.A (a, oe)) (hp : (a, oe) ∈ X.pn) (he : PE X e te)
    (hg : Gl X "_law_fault" := by rfl) (h2 : starEach [e] X.env = (false, eval e X.env) :: starEach [] X.env := by rfl) (hpl : (backTo pos (starEach ([] : List Expr) X.env)).any (·.1) = false := by rfl) :
    PE X (.Call (.Name "_law_fault" q) [e] [] pos) (tCallS (spFlts X.K l a cls d) (WE fun _ _ _ _ => False) (tCons te tNil)) := by
  obtain ⟨fd, F, b⟩ := c.ok
  have key := pe_callP (p := (a, oe)) (q := q) (pos := pos) F hr hot hp hg c.g c.kp b passN (pa_cons he pa_nil (hs := h2)) (by decide) h2 hpl
  obtain ⟨e1, e2, _⟩ := hz
  unfold onP at key
  dsimp only at key
  rw [e1, e2] at key
  exact key
/-- one clause «except X as n», X the base of the module's errors -/
theorem r_wAs {K : PySem.W.Frag} {c : Value} {i : Nat} {ts : Addr → Value → Option Addr → TS} {Wout : WX} {D : Ends} {cls : Value} {d : Option Addr} {σ : L2.St} {H : Hp} (e : PySem.W.exmOne K cls c = some true)
    (k : ∀ a, H a = none → ts a cls d ⟨fun σ' H' => D.nx (σ'.set i none) H', D.rt, fun σ' H' => D.bk (σ'.set i none) H', fun σ' H' => D.ct (σ'.set i none) H'⟩ (σ.set i (some (.ref a))) H) : wAs K c i ts Wout D cls d σ H :=
  ⟨true, e, fun _ => k, fun z => nomatch z⟩
end L3
namespace L3
open PySem PySem.Spec PyProof.Rows L2 He
/-- what a try's body is run with -/
structure TryZ (X : Cx) (W : L2.WX) where
  pn : List (Addr × Obj)
  xe : Value → Shared → Prop
  tk : L2N.Takes (X.tr pn xe) W
  hp : PassesOwn (model X.prog X.w) X.A X.env xe
/-- try: .. except x as n: .., the body's reading free to be found -/
theorem ps_tryZ {X : Cx} {x n : Str} {c : Value} {i : Nat} {body suite : List Stmt} {b₀ : Stmt} {np pos pos' : Pos} {tb : (W : L2.WX) → TryZ X W → TS} {ts : Addr → Value → Option Addr → TS} {Wout : L2.WX}
    (hs : X.stack = X.env :: X.outer) (hf : X.env.frame = some X.env.locals) (hN : X.N.Nodup) (hi : X.N[i]? = some n) (hln : X.env.kindOf n = some .local) (hc : Names X x c) (tk : L2N.Takes X Wout)
    (hb : ∀ (W : L2.WX) (z : TryZ X W), PSs (X.tr z.pn z.xe) body (tb W z))
    (hsu : ∀ (a : Addr) (oe : Obj) (cls : Value) (d : Option Addr) (pn : List (Addr × Obj)), L2N.Zn cls d oe → (∃ vs, oe.data = .fields vs) → PSs (X.suite a ((a, oe) :: pn)) (b₀ :: suite) (ts a cls d)) :
    PS X (.Try body [.ExceptHandler (some (.Name x np)) (some n) (b₀ :: suite) pos'] [] [] pos) (fun D σ H => ∀ z : TryZ X (wAs X.K c i ts Wout D), tb _ z D σ H) :=
  L2N.ps_try_as (tb := fun W D σ H => ∀ z : TryZ X W, tb W z D σ H) hs hf hN hi hln hc tk (fun W pn xe tk hp => ⟨fun pins s σ H D I h => (hb W ⟨pn, xe, tk, hp⟩).run pins s σ H D I (h _)⟩) hsu
end L3
namespace L3
open PySem PySem.Spec PyProof.Rows L2 He
/-- a callee's error: its class, its one field -/
def Bad (K : PySem.W.Frag) (E : XK) (H : Hp) (C what : Str) : Prop := ∀ d H', H d = none → Ext H H' → H' d = some (.xd [("what", .str what)]) → E (.ref (ga K C)) (some d) H'
theorem r_flt1 {K : PySem.W.Frag} {l : List (Str × List Str)} {x f : Str} {a dd : Addr} {v : V} {H : Hp} {Q : VK} {E : XK} (hx : (x, [f]) ∈ l) (hd : H dd = some (.xd [(f, v)])) (k : ∀ q H', H q = none → Ext H H' → H' q = some (.tup [.str x, v]) → Q (.ref q) H') :
    spFlts K l a (.ref (ga K x)) (some dd) [.ref a] H Q E := ⟨(x, [f]), hx, dd, _, [v], rfl, ⟨rfl, rfl⟩, hd, by simp [List.lookup], k⟩
/-- told in the suite -/
theorem bad_tell {K : PySem.W.Frag} {c : Value} {l : List (Str × List Str)} {i : Nat} {Wout : L2.WX} {D : Ends} {σ : L2.St} {H1 : Hp} {C what : Str} (e : PySem.W.exmOne K (.ref (ga K C)) c = some true) (hl : (C, (["what"] : List Str)) ∈ l) (hi : i < σ.length)
    (k : ∀ q H', Ext H1 H' → H' q = some (.tup [.str C, .str what]) → D.rt (.ref q) H') : Bad K (WE (wAs K c i (fun a cls d => tRet (tCallS (spFlts K l a cls d) (WE fun _ _ _ _ => False) (tCons (tVar i) tNil))) Wout D) σ) H1 C what := by
  intro d H' hd e1 h
  refine r_wAs e fun a ha => ?_
  exact ⟨.ref a, by simp [hi], r_flt1 hl h fun q H2 hq e2 h2 => k q H2 (e1.trans e2) h2⟩
end L3
namespace L3
open PySem PySem.Spec PyProof.Rows L2 He
theorem r_chain {r r' : R2} {ta tb tc : TE} {σ : L2.St} {H : Hp} {Q : VK} (k : ta σ H fun x H1 => tb σ H1 fun y H2 => r x y H2 fun z H3 => ∃ k, z = .bl k ∧ (if k = true then tc σ H3 fun w' H4 => r' y w' H4 Q else Q (.bl false) H3)) : tChain r r' ta tb tc σ H Q := k
/-- the script, apart from what changes -/
def Sc (K : PySem.W.Frag) (S : List Addr) (a : Addr) (xs : List V) (H : Hp) : Prop := SqL K H a xs ∧ ((∀ H', SqL K H' a xs) ∨ (a ∉ S ∧ H a ≠ none))
theorem Sc.start {K : PySem.W.Frag} {S : List Addr} {a : Addr} {xs : List V} {H : Hp} (h : SqL K H a xs) (hS : ∀ q ∈ S, H q = none) : Sc K S a xs H := by
  rcases h with (h | ⟨o, h⟩) | h
  · exact ⟨.inl (.inl h), .inr ⟨fun z => (by rw [hS a z] at h; cases h), (by rw [h]; exact fun z => nomatch z)⟩⟩
  · exact ⟨.inl (.inr ⟨o, h⟩), .inr ⟨fun z => (by rw [hS a z] at h; cases h), (by rw [h]; exact fun z => nomatch z)⟩⟩
  · exact ⟨.inr h, .inl fun _ => .inr h⟩
theorem Sc.ext {K : PySem.W.Frag} {S : List Addr} {a : Addr} {xs : List V} {H H' : Hp} (s : Sc K S a xs H) (e : Ext H H') : Sc K S a xs H' :=
  ⟨e.l s.1, s.2.imp id fun ⟨h1, h2⟩ => ⟨h1, by
    cases q : H a with
    | none => exact absurd q h2
    | some o => rw [e _ _ q]; exact fun z => nomatch z⟩⟩
theorem Sc.but {K : PySem.W.Frag} {S : List Addr} {a p : Addr} {xs : List V} {H H' : Hp} (s : Sc K S a xs H) (hp : p ∈ S) (b : But p H H') : Sc K S a xs H' := by
  rcases s.2 with h | ⟨h1, h2⟩
  · exact ⟨h _, .inl h⟩
  · have ne : a ≠ p := fun e => h1 (e ▸ hp)
    refine ⟨b.l ne s.1, .inr ⟨h1, ?_⟩⟩
    cases q : H a with
    | none => exact absurd q h2
    | some o => rw [b _ _ ne q]; exact fun z => nomatch z
theorem Sc.more {K : PySem.W.Frag} {S S' : List Addr} {a : Addr} {xs : List V} {H : Hp} (s : Sc K S a xs H) (hS : ∀ q ∈ S', q ∈ S ∨ H q = none) : Sc K S' a xs H :=
  ⟨s.1, s.2.imp id fun ⟨h1, h2⟩ => ⟨fun z => (hS a z).elim h1 h2, h2⟩⟩
theorem src_some {H : Hp} {p : Addr} (a : Src H p) : H p ≠ none := by
  obtain ⟨x, y, z, h⟩ := a
  rw [h]
  exact fun z => nomatch z
theorem Src.stay {H H' : Hp} {p q : Addr} (s : Src H p) (b : But q H H') (h : p ≠ q) : Src H' p := by
  obtain ⟨x, y, z, e⟩ := s
  exact ⟨x, y, z, b _ _ h e⟩
end L3
set_option maxRecDepth 100000
set_option maxHeartbeats 4000000
/-! CmJ: list(range(..)), forwards and down; reversed lists; the greatest of a list. -/
namespace L3
open PySem PySem.Spec PyProof.Rows L2 He
/-- the ints i, i - 1, .., above j -/
def dnV (i j : Int) : List V := (List.range (i - j).toNat).map fun k => V.int (i + (k : Nat) * -1)
def LstDn (vs : List V) (H1 : Hp) (Q : VK) : Prop := ∃ i j : Int, vs = [.int i, .int j, .int (-1)] ∧ RgOk j i ∧ ∀ q, H1 q = none → Q (.ref q) (upd H1 q (.lst (dnV i j)))
def tLstDn (ta : TA) : TE := fun σ H Q => ta σ H fun vs H1 => LstDn vs H1 Q
theorem pe_listDn {X : Cx} {a b c : Expr} {ta : TA} {p p2 pos pos2 : Pos} (hc : X.calm = true) (hml : X.mg "list" = none) (hm : X.mg "range" = none) (ha : PA X [a, b, c] ta) (hgl : Gl X "list" := by rfl) (hg : Gl X "range" := by rfl)
    (hs : starEach [a, b, c] X.env = (false, eval a X.env) :: starEach [b, c] X.env := by rfl) (hpl : (backTo pos2 (starEach [b, c] X.env)).any (·.1) = false := by rfl)
    (na : starEach [.Call (.Name "range" p2) [a, b, c] [] pos2] X.env = (false, eval (.Call (.Name "range" p2) [a, b, c] [] pos2) X.env) :: starEach [] X.env := by rfl) :
    PE X (.Call (.Name "list" p) [.Call (.Name "range" p2) [a, b, c] [] pos2] [] pos) (tLstDn ta) := by
  refine ⟨fun pins s σ H Q I h => ?_⟩
  refine Call_ (ld_blt I hgl hml boot_list (PyProof.Rows.callWith_type1 (args_cons (thn (Q := fun x s1 => ∃ r i j t u v H1, x = Value.ref r ∧ IsRange s1.heap r i j (-1) t u v ∧ Inv X pins σ H1 s1 ∧ RgOk j i ∧ ∀ q, H1 q = none → Q (.ref q) (upd H1 q (.lst (dnV i j)))) ?_ fun x s1 ⟨r, i, j, t, u, v, H1, ex, hr, I1, ok, q⟩ => args_nil ?_) na) na))
  · refine Call_ (ld_blt I hg hm boot_range (PyProof.Rows.callWith_type1 (thn (ha.run pos2 pins s σ H _ I h) fun us s1 ⟨vs, H1, I1, r1, q1⟩ => ?_) hs hpl))
    obtain ⟨i, j, e, ok, q⟩ := q1
    subst e
    cases r1 with
    | cons r rr =>
      cases rr with
      | cons r' rr =>
        cases rr with
        | cons r'' rr =>
          cases rr
          obtain ⟨t, rfl⟩ := r
          obtain ⟨t', rfl⟩ := r'
          obtain ⟨t'', rfl⟩ := r''
          exact call_range_3 (by decide) ⟨_, i, j, _, _, _, H1, rfl, IsRange.new _ _ _ _ _ _ _, I1.kept fun b u e => Heap.get?_push_of_some _ e, ok, q⟩ (.inl (PyProof.noPylong_small (by decide)))
  · subst ex
    obtain ⟨b1, b2, b3, b4, b5⟩ := ok
    refine call_list_range (n := (i - j).toNat) (I1.ok.hd hc) hr (PySem.W.small_down b3 b4 b1 b2) (PySem.W.rangeSize_downNat i j) b5 fun h' tk acc c' hk e' hi => ?_
    refine ⟨.ref s1.heap.objs.size, upd H1 s1.heap.objs.size (.lst (dnV i j)), I1.laid hk (Nat.le_refl _) (show ObjOk X.prog X.w _ _ _ (.lst (dnV i j)) from ⟨?_, acc.toList, c', ?_, ?_⟩), rfl, q _ (I1.hok.fresh (Nat.le_refl _))⟩
    · unfold dnV; rw [List.length_map, List.length_range, sizeLine_eq]; omega
    · have e : acc.toList.length = (i - j).toNat := by rw [Array.length_toList]; exact hi.1
      unfold dnV
      rw [← e]
      refine vals_of_get acc.toList _ fun k u hj => ?_
      obtain ⟨t, rfl⟩ := hi.2 k u (by rw [← hj, Array.getElem?_toList])
      exact ⟨t, rfl⟩
    · rw [Array.toArray_toList]; exact e'
section
variable {K : PySem.W.Frag} {σ : L2.St} {H : Hp} {Q : VK}
theorem r_listDn {ta : TA} (k : ta σ H fun vs H1 => LstDn vs H1 Q) : tLstDn ta σ H Q := k
theorem r_dn {i j : Int} (h : RgOk j i) (k : ∀ q H', H q = none → Ext H H' → H' q = some (.lst (dnV i j)) → Q (.ref q) H') : LstDn [V.int i, V.int j, V.int (-1)] H Q := ⟨i, j, rfl, h, fun q hq => k q _ hq (Ext.new hq) upd_same⟩
def LstRg (x y : V) (H1 : Hp) (Q : VK) : Prop := ∃ i j : Int, x = .int i ∧ y = .int j ∧ RgOk i j ∧ ∀ q, H1 q = none → Q (.ref q) (upd H1 q (.lst (rgV i j)))
theorem r_listRg2 {ta tb : TE} (k : ta σ H fun x H1 => tb σ H1 fun y H2 => LstRg x y H2 Q) : tLstRg (tRg2 ta tb) σ H Q := by
  unfold tLstRg tRg2
  unfold LstRg at k
  have e : (fun (x : V) (H1 : Hp) => tb σ H1 fun y H2 => ∃ i j : Int, x = .int i ∧ y = .int j ∧ RgOk i j ∧ ∀ q, H2 q = none → Q (.ref q) (upd H2 q (.lst (rgV i j)))) = fun (x : V) (H1 : Hp) => tb σ H1 fun y H2 => ∃ i j : Int, x = .int i ∧ y = .int j ∧ (RgOk i j ∧ ∀ q, H2 q = none → Q (.ref q) (upd H2 q (.lst (rgV i j)))) := rfl
  exact k
theorem r_rg {i j : Int} (h : RgOk i j) (k : ∀ q H', H q = none → Ext H H' → H' q = some (.lst (rgV i j)) → Q (.ref q) H') : LstRg (V.int i) (V.int j) H Q := ⟨i, j, rfl, rfl, h, fun q hq => k q _ hq (Ext.new hq) upd_same⟩
def RevL (K : PySem.W.Frag) (x : V) (H1 : Hp) (Q : VK) : Prop := ∃ a xs, x = .ref a ∧ SqL K H1 a xs ∧ ∀ p, H1 p = none → Q (.ref p) (upd H1 p (.lst xs.reverse))
theorem r_revL {te : TE} (k : te σ H fun x H1 => RevL K x H1 Q) : tRevL K te σ H Q := k
theorem r_rev {a : Addr} {xs : List V} (h : SqL K H a xs) (k : ∀ q H', H q = none → Ext H H' → H' q = some (.lst xs.reverse) → Q (.ref q) H') : RevL K (.ref a) H Q := ⟨a, xs, rfl, h, fun q hq => k q _ hq (Ext.new hq) upd_same⟩
theorem revK {X : Cx} {e : Expr} {te : TE} {k : Nat} {p1 p2 p3 pos : Pos} (he : PE X e te) (hK : X.K = K := by rfl) : PE X (.Subscript e (.Slice none none (some (.UnaryOp .USub (.Constant (.int 1) k p1) p2)) p3) pos) (tRevL K te) := hK ▸ pe_revL he
theorem r_maxL {p : Addr} {ns : List Int} {m : Int} (h : SqL K H p (ns.map V.int)) (hm : m ∈ ns) (hl : ∀ y ∈ ns, y ≤ m) (k : Q (.int m) H) : rMax K [.ref p] H Q :=
  ⟨p, ns, rfl, h, List.length_pos_of_mem hm, fun m' h1 h2 => by
    have : m' = m := Int.le_antisymm (hl _ h1) (h2 _ hm)
    rw [this]; exact k⟩
theorem r_minL {p : Addr} {ns : List Int} {m : Int} (h : SqL K H p (ns.map V.int)) (hm : m ∈ ns) (hl : ∀ y ∈ ns, m ≤ y) (k : Q (.int m) H) : rMin K [.ref p] H Q :=
  ⟨p, ns, rfl, h, List.length_pos_of_mem hm, fun m' h1 h2 => by
    have : m' = m := Int.le_antisymm (h2 _ hm) (hl _ h1)
    rw [this]; exact k⟩
theorem r_popW {l : Addr} {xs : List V} {y : V} (h : H l = some (.lst (xs ++ [y]))) (k : ∀ H', H' l = some (.lst xs) → (∀ b, b ≠ l → H' b = H b) → Q y H') : rPop (.ref l) [] H Q := r_popL h k
end
end L3
/-! Delannoy numbers, in plain Lean. -/
namespace Del
def D : Nat → Nat → Nat
  | 0, _ => 1
  | _ + 1, 0 => 1
  | d + 1, r + 1 => D d (r + 1) + D (d + 1) r + D d r
theorem D_0 (d : Nat) : D d 0 = 1 := by cases d <;> simp [D]
theorem D_z (r : Nat) : D 0 r = 1 := by simp [D]
theorem D_s (d r : Nat) : D (d + 1) (r + 1) = D d (r + 1) + D (d + 1) r + D d r := by rw [D]
def ch : Nat → Nat → Nat
  | _, 0 => 1
  | 0, _ + 1 => 0
  | n + 1, k + 1 => ch n k + ch n (k + 1)
theorem ch_0 (n : Nat) : ch n 0 = 1 := by cases n <;> simp [ch]
theorem ch_z (k : Nat) : ch 0 (k + 1) = 0 := by simp [ch]
theorem ch_s (n k : Nat) : ch (n + 1) (k + 1) = ch n k + ch n (k + 1) := by rw [ch]
theorem ch_big : ∀ {n k : Nat}, n < k → ch n k = 0
  | 0, k + 1, _ => ch_z k
  | n + 1, k + 1, h => by rw [ch_s, ch_big (by omega : n < k), ch_big (by omega : n < k + 1)]
theorem ch_mul : ∀ (n k : Nat), ch n (k + 1) * (k + 1) = ch n k * (n - k)
  | 0, k => by rw [ch_z]; simp
  | n + 1, 0 => by
    have h := ch_mul n 0
    rw [ch_0] at h
    rw [ch_s, ch_0, ch_0]
    simp at h ⊢
    omega
  | n + 1, k + 1 => by
    have h1 := ch_mul n k
    have h2 := ch_mul n (k + 1)
    by_cases hk : k < n
    · rw [ch_s n (k + 1), ch_s n k]
      have e1 : n + 1 - (k + 1) = n - k := by omega
      have e2 : n - k = (n - (k + 1)) + 1 := by omega
      rw [e1]
      have l : (ch n (k + 1) + ch n (k + 1 + 1)) * (k + 1 + 1) = ch n (k + 1) * (k + 1) + ch n (k + 1) + ch n (k + 1 + 1) * (k + 1 + 1) := by
        rw [Nat.add_mul, Nat.mul_succ (ch n (k + 1))]
      rw [l, h1, h2, Nat.add_mul]
      have m : ch n (k + 1) * (n - k) = ch n (k + 1) * (n - (k + 1)) + ch n (k + 1) := by rw [e2, Nat.mul_succ] <;> omega
      rw [m]
      omega
    · rw [ch_big (by omega : n + 1 < k + 1 + 1)]
      have e1 : n + 1 - (k + 1) = 0 := by omega
      rw [e1]
      simp
/-- the sum of f 0 .. f (n - 1) -/
def sm (f : Nat → Nat) : Nat → Nat
  | 0 => 0
  | n + 1 => sm f n + f n
theorem sm_add (f g : Nat → Nat) : ∀ n, sm (fun s => f s + g s) n = sm f n + sm g n
  | 0 => rfl
  | n + 1 => by show sm (fun s => f s + g s) n + (f n + g n) = sm f n + f n + (sm g n + g n); rw [sm_add f g n]; omega
theorem sm_congr {f g : Nat → Nat} : ∀ {n}, (∀ s, s < n → f s = g s) → sm f n = sm g n
  | 0, _ => rfl
  | n + 1, h => by show sm f n + f n = sm g n + g n; rw [sm_congr fun s hs => h s (by omega), h n (by omega)]
theorem sm_shift (f : Nat → Nat) : ∀ n, sm f (n + 1) = f 0 + sm (fun s => f (s + 1)) n
  | 0 => by show 0 + f 0 = f 0 + 0; omega
  | n + 1 => by
    have h := sm_shift f n
    show sm f (n + 1) + f (n + 1) = f 0 + (sm (fun s => f (s + 1)) n + f (n + 1))
    rw [h]; omega
theorem sm_zero {f : Nat → Nat} {n : Nat} : ∀ {m}, n ≤ m → (∀ s, n ≤ s → f s = 0) → sm f m = sm f n
  | 0, h, _ => by have : n = 0 := by omega
                  subst this; rfl
  | m + 1, h, z => by
    by_cases e : n = m + 1
    · rw [e]
    · show sm f m + f m = sm f n
      rw [sm_zero (by omega) z, z m (by omega)]; rfl
def tm (d r s : Nat) : Nat := ch d s * ch r s * 2 ^ s
theorem tm_big {d r s : Nat} (h : d < s ∨ r < s) : tm d r s = 0 := by
  unfold tm
  rcases h with h | h
  · rw [ch_big h]; simp
  · rw [ch_big h]; simp
theorem S_rec (d r n : Nat) (h : d < n) : sm (tm (d + 1) (r + 1)) (n + 1) = sm (tm d (r + 1)) (n + 1) + sm (tm (d + 1) r) (n + 1) + sm (tm d r) (n + 1) := by
  have e0 : ∀ a b, sm (tm a b) (n + 1) = 1 + sm (fun s => tm a b (s + 1)) n := fun a b => by
    rw [sm_shift]
    unfold tm
    rw [ch_0, ch_0]
  rw [e0, e0, e0, e0]
  have key : ∀ s, tm (d + 1) (r + 1) (s + 1) + tm d r (s + 1) + tm d r (s + 1) = tm d (r + 1) (s + 1) + tm (d + 1) r (s + 1) + tm d r (s + 1) + (tm d r s + tm d r s) := fun s => by
    unfold tm
    rw [ch_s d s, ch_s r s, Nat.pow_succ]
    generalize ch d s = a
    generalize ch d (s + 1) = b
    generalize ch r s = x
    generalize ch r (s + 1) = y
    generalize 2 ^ s = p
    have e1 : (a + b) * (x + y) * (p * 2) = a * x * (p * 2) + a * y * (p * 2) + b * x * (p * 2) + b * y * (p * 2) := by
      simp only [Nat.add_mul, Nat.mul_add]; omega
    have e2 : b * (x + y) * (p * 2) = b * x * (p * 2) + b * y * (p * 2) := by simp only [Nat.add_mul, Nat.mul_add]
    have e3 : (a + b) * y * (p * 2) = a * y * (p * 2) + b * y * (p * 2) := by simp only [Nat.add_mul, Nat.mul_add]
    have e4 : a * x * (p * 2) = a * x * p + a * x * p := by rw [← Nat.mul_assoc]; omega
    rw [e1, e2, e3, e4]
    omega
  have sums := sm_congr (n := n) fun s _ => key s
  simp only [sm_add] at sums
  have sh := sm_shift (tm d r) n
  have e1 : tm d r 0 = 1 := by unfold tm; rw [ch_0, ch_0]
  have top : sm (tm d r) (n + 1) = sm (tm d r) n := by show sm (tm d r) n + tm d r n = _; rw [tm_big (.inl h)]; rfl
  have e2 : sm (fun s => tm d r s) n = sm (tm d r) n := rfl
  rw [e1] at sh
  omega
theorem D_sum : ∀ (d r n : Nat), d ≤ n → D d r = sm (tm d r) (n + 1)
  | 0, r, n, _ => by
    rw [D_z, sm_zero (n := 1) (by omega) fun s hs => tm_big (.inl (by omega))]
    show 1 = 0 + tm 0 r 0
    unfold tm; rw [ch_0, ch_0]
  | d + 1, 0, n, _ => by
    rw [D_0, sm_zero (n := 1) (by omega) fun s hs => tm_big (.inr (by omega))]
    show 1 = 0 + tm (d + 1) 0 0
    unfold tm; rw [ch_0, ch_0]
  | d + 1, r + 1, n, h => by
    rw [D_s, S_rec d r n (by omega), D_sum d (r + 1) n (by omega), D_sum (d + 1) r n h, D_sum d r n (by omega)]
/-- as the law reckons it: up to the lesser -/
theorem D_min (d r : Nat) : D d r = sm (tm d r) (min d r + 1) := by
  rw [D_sum d r d (Nat.le_refl _)]
  exact sm_zero (by omega) fun s hs => tm_big (by omega)
theorem tm_next (d r s : Nat) : tm d r s * 2 * (d - s) * (r - s) = tm d r (s + 1) * ((s + 1) * (s + 1)) := by
  have h1 := ch_mul d s
  have h2 := ch_mul r s
  unfold tm
  rw [Nat.pow_succ]
  have l : ch d s * ch r s * 2 ^ s * 2 * (d - s) * (r - s) = (ch d s * (d - s)) * (ch r s * (r - s)) * (2 ^ s * 2) := by
    simp only [Nat.mul_assoc, Nat.mul_comm, Nat.mul_left_comm]
  have m : ch d (s + 1) * ch r (s + 1) * (2 ^ s * 2) * ((s + 1) * (s + 1)) = (ch d (s + 1) * (s + 1)) * (ch r (s + 1) * (s + 1)) * (2 ^ s * 2) := by
    simp only [Nat.mul_assoc, Nat.mul_comm, Nat.mul_left_comm]
  rw [l, m, h1, h2]
theorem D_comm : ∀ (d r : Nat), D d r = D r d
  | 0, r => by rw [D_z, D_0]
  | d + 1, 0 => by rw [D_z, D_0]
  | d + 1, r + 1 => by rw [D_s, D_s, D_comm d (r + 1), D_comm (d + 1) r, D_comm d r]; omega
theorem D_pos : ∀ (d r : Nat), 1 ≤ D d r
  | 0, r => by rw [D_z]; omega
  | d + 1, 0 => by rw [D_0]; omega
  | d + 1, r + 1 => by rw [D_s]; have := D_pos d r; omega
theorem D_mono1 (d r : Nat) : D d r ≤ D d (r + 1) := by
  cases d with
  | zero => rw [D_z, D_z]; omega
  | succ d => rw [D_s]; omega
theorem D_lt1 (d r : Nat) (h : 1 ≤ d) : D d r + 2 ≤ D d (r + 1) := by
  cases d with
  | zero => omega
  | succ d =>
    rw [D_s]
    have h1 := D_pos d r
    have h2 := D_pos d (r + 1)
    omega
theorem D_mono (d : Nat) {r r' : Nat} (h : r ≤ r') : D d r ≤ D d r' := by
  obtain ⟨k, rfl⟩ : ∃ k, r' = r + k := ⟨r' - r, by omega⟩
  clear h
  induction k with
  | zero => exact Nat.le_refl _
  | succ k ih => exact Nat.le_trans ih (D_mono1 d (r + k))
theorem D_ge (d r : Nat) (h : 1 ≤ d) : 2 * r + 1 ≤ D d r := by
  induction r with
  | zero => exact D_pos d 0
  | succ r ih => have := D_lt1 d r h; omega
/-- r is the least with n at most D d r -/
def Least (n d r : Nat) : Prop := n ≤ D d r ∧ ∀ r', r' < r → D d r' < n
theorem Least.uniq {n d r r' : Nat} (a : Least n d r) (b : Least n d r') : r = r' := by
  rcases Nat.lt_trichotomy r r' with h | h | h
  · have := b.2 r h; have := a.1; omega
  · exact h
  · have := a.2 r' h; have := b.1; omega
theorem least_le {n d r : Nat} (hd : 1 ≤ d) (a : Least n d r) : r ≤ n := by
  refine Nat.le_of_not_lt fun h => ?_
  have h1 := a.2 (r - 1) (by omega)
  have h2 := D_ge d (r - 1) hd
  omega
end Del
set_option maxHeartbeats 1000000
/-! MLay: layouts of parts, in plain numbers: a layout of chains to d and loads to r has at most D d r parts; the built one. -/
namespace Lay
open Del
/-! ### vectors of length d, their norm at most r: at most D d r of them -/
def nrm : List Int → Nat
  | [] => 0
  | x :: xs => x.natAbs + nrm xs
theorem part4 {α : Type} (cl : α → Nat) : ∀ (L : List α), (∀ x ∈ L, cl x < 4) → L.length = (L.filter fun x => cl x == 0).length + (L.filter fun x => cl x == 1).length + (L.filter fun x => cl x == 2).length + (L.filter fun x => cl x == 3).length
  | [], _ => rfl
  | x :: L, h => by
    have ih := part4 cl L fun y hy => h y (List.mem_cons_of_mem _ hy)
    have hx := h x List.mem_cons_self
    simp only [List.filter_cons, List.length_cons]
    have : cl x = 0 ∨ cl x = 1 ∨ cl x = 2 ∨ cl x = 3 := by omega
    rcases this with e | e | e | e <;> simp [e] <;> omega
theorem nd_map {α β : Type} {f : α → β} {L : List α} (hf : ∀ x ∈ L, ∀ y ∈ L, f x = f y → x = y) (h : L.Nodup) : (L.map f).Nodup := by
  induction L with
  | nil => simp
  | cons a L ih =>
    rw [List.nodup_cons] at h
    rw [List.map_cons, List.nodup_cons]
    refine ⟨fun z => ?_, ih (fun x hx y hy => hf x (List.mem_cons_of_mem _ hx) y (List.mem_cons_of_mem _ hy)) h.2⟩
    obtain ⟨b, hb, e⟩ := List.mem_map.mp z
    exact h.1 (hf a List.mem_cons_self b (List.mem_cons_of_mem _ hb) e.symm ▸ hb)
theorem nd_append {α : Type} {L M : List α} (h1 : L.Nodup) (h2 : M.Nodup) (h : ∀ x ∈ L, x ∉ M) : (L ++ M).Nodup := by
  rw [List.nodup_append]
  exact ⟨h1, h2, fun a ha b hb e => h a ha (e ▸ hb)⟩
def cls : List Int → Nat
  | [] => 0
  | x :: _ => if x = 0 then 0 else if 0 < x then 1 else if x = -1 then 3 else 2
theorem cls_cases (y : Int) (ys : List Int) : (y = 0 ∧ cls (y :: ys) = 0) ∨ (0 < y ∧ cls (y :: ys) = 1) ∨ (y = -1 ∧ cls (y :: ys) = 3) ∨ (y < -1 ∧ cls (y :: ys) = 2) := by
  have e : cls (y :: ys) = if y = 0 then 0 else if 0 < y then 1 else if y = -1 then 3 else 2 := rfl
  by_cases h1 : y = 0
  · rw [if_pos h1] at e; exact .inl ⟨h1, e⟩
  · rw [if_neg h1] at e
    by_cases h2 : 0 < y
    · rw [if_pos h2] at e; exact .inr (.inl ⟨h2, e⟩)
    · rw [if_neg h2] at e
      by_cases h3 : y = -1
      · rw [if_pos h3] at e; exact .inr (.inr (.inl ⟨h3, e⟩))
      · rw [if_neg h3] at e; exact .inr (.inr (.inr ⟨by omega, e⟩))
def up : List Int → List Int
  | [] => []
  | x :: xs => (if 0 < x then x - 1 else x + 1) :: xs
theorem ball : ∀ (d r : Nat) (L : List (List Int)), L.Nodup → (∀ x ∈ L, x.length = d ∧ nrm x ≤ r) → L.length ≤ D d r
  | 0, r, L, hn, h => by
    rw [D_z]
    match L, hn, h with
    | [], _, _ => exact Nat.zero_le _
    | [x], _, _ => exact Nat.le_refl _
    | x :: y :: L, hn, h =>
      have e1 := (h x List.mem_cons_self).1
      have e2 := (h y (List.mem_cons_of_mem _ List.mem_cons_self)).1
      rw [List.length_eq_zero_iff] at e1 e2
      subst e1 e2
      simp at hn
  | d + 1, 0, L, hn, h => by
    rw [D_0]
    have key : ∀ x ∈ L, x = List.replicate (d + 1) 0 := fun x hx => by
      obtain ⟨hl, hr⟩ := h x hx
      clear h hn hx
      have : ∀ (n : Nat) (x : List Int), x.length = n → nrm x ≤ 0 → x = List.replicate n 0 := by
        intro n
        induction n with
        | zero => intro x hx _; exact List.length_eq_zero_iff.mp hx
        | succ n ih =>
          intro x hx hr
          match x, hx, hr with
          | y :: ys, hx, hr =>
            have h1 : y.natAbs + nrm ys ≤ 0 := hr
            rw [ih ys (by simpa using hx) (by omega), show y = 0 by omega]
            rfl
      exact this _ x hl hr
    match L, hn, key with
    | [], _, _ => exact Nat.zero_le _
    | [x], _, _ => exact Nat.le_refl _
    | x :: y :: L, hn, key =>
      have e1 := key x List.mem_cons_self
      have e2 := key y (List.mem_cons_of_mem _ List.mem_cons_self)
      subst e1
      subst e2
      simp at hn
  | d + 1, r + 1, L, hn, h => by
    have c4 : ∀ x ∈ L, cls x < 4 := fun x hx => by
      cases x with
      | nil => simp [cls]
      | cons y ys => have := cls_cases y ys; omega
    have p := part4 cls L c4
    have sh : ∀ x ∈ L, ∃ y ys, x = y :: ys ∧ ys.length = d ∧ y.natAbs + nrm ys ≤ r + 1 := fun x hx => by
      obtain ⟨h1, h2⟩ := h x hx
      match x, h1, h2 with
      | y :: ys, h1, h2 => exact ⟨y, ys, rfl, by simpa using h1, h2⟩
    have inF : ∀ {k : Nat} {x : List Int}, x ∈ (L.filter fun x => cls x == k) → x ∈ L ∧ cls x = k := fun {k x} hx => by
      rw [List.mem_filter] at hx
      exact ⟨hx.1, by simpa using hx.2⟩
    have ndF : ∀ k : Nat, (L.filter fun x => cls x == k).Nodup := fun k => hn.filter _
    have of0 : ∀ {y : Int} {ys : List Int}, cls (y :: ys) = 0 → y = 0 := fun {y ys} e => by
      have := cls_cases y ys; omega
    have of1 : ∀ {y : Int} {ys : List Int}, cls (y :: ys) = 1 → 0 < y := fun {y ys} e => by
      have := cls_cases y ys; omega
    have of2 : ∀ {y : Int} {ys : List Int}, cls (y :: ys) = 2 → y < -1 := fun {y ys} e => by
      have := cls_cases y ys; omega
    have of3 : ∀ {y : Int} {ys : List Int}, cls (y :: ys) = 3 → y = -1 := fun {y ys} e => by
      have := cls_cases y ys; omega
    have tl : ∀ k : Nat, (k = 0 ∨ k = 3) → ((L.filter fun x => cls x == k).map List.tail).Nodup := fun k hk => by
      refine nd_map (fun x hx z hz e => ?_) (ndF k)
      obtain ⟨hx1, hx2⟩ := inF hx
      obtain ⟨hz1, hz2⟩ := inF hz
      obtain ⟨y, ys, rfl, _⟩ := sh x hx1
      obtain ⟨y', ys', rfl, _⟩ := sh z hz1
      have e : ys = ys' := e
      subst e
      rcases hk with rfl | rfl
      · rw [of0 hx2, of0 hz2]
      · rw [of3 hx2, of3 hz2]
    have b0 := ball d (r + 1) _ (tl 0 (.inl rfl)) (fun x hx => by
      obtain ⟨z, hz, rfl⟩ := List.mem_map.mp hx
      obtain ⟨hz1, hz2⟩ := inF hz
      obtain ⟨y, ys, rfl, h1, h2⟩ := sh z hz1
      exact ⟨h1, by show nrm ys ≤ _; omega⟩)
    have b3 := ball d r _ (tl 3 (.inr rfl)) (fun x hx => by
      obtain ⟨z, hz, rfl⟩ := List.mem_map.mp hx
      obtain ⟨hz1, hz2⟩ := inF hz
      obtain ⟨y, ys, rfl, h1, h2⟩ := sh z hz1
      have := of3 hz2
      exact ⟨h1, by show nrm ys ≤ _; omega⟩)
    have upN : ∀ k : Nat, (k = 1 ∨ k = 2) → ((L.filter fun x => cls x == k).map up).Nodup := fun k hk => by
      refine nd_map (fun x hx z hz e => ?_) (ndF k)
      obtain ⟨hx1, hx2⟩ := inF hx
      obtain ⟨hz1, hz2⟩ := inF hz
      obtain ⟨y, ys, rfl, _⟩ := sh x hx1
      obtain ⟨y', ys', rfl, _⟩ := sh z hz1
      unfold up at e
      injection e with e1 e2
      subst e2
      rcases hk with rfl | rfl
      · have a := of1 hx2; have b := of1 hz2
        rw [if_pos a, if_pos b] at e1
        rw [show y = y' by omega]
      · have a := of2 hx2; have b := of2 hz2
        rw [if_neg (by omega), if_neg (by omega)] at e1
        rw [show y = y' by omega]
    have b12 := ball (d + 1) r (((L.filter fun x => cls x == 1).map up) ++ ((L.filter fun x => cls x == 2).map up)) (nd_append (upN 1 (.inl rfl)) (upN 2 (.inr rfl)) (fun x hx hz => by
      obtain ⟨u, hu, rfl⟩ := List.mem_map.mp hx
      obtain ⟨v, hv, e⟩ := List.mem_map.mp hz
      obtain ⟨hx1, hx2⟩ := inF hu
      obtain ⟨hz1, hz2⟩ := inF hv
      obtain ⟨y, ys, rfl, _⟩ := sh u hx1
      obtain ⟨y', ys', rfl, _⟩ := sh v hz1
      unfold up at e
      injection e with e1 e2
      have a := of1 hx2; have b := of2 hz2
      rw [if_pos a, if_neg (by omega)] at e1
      omega)) (fun x hx => by
      rcases List.mem_append.mp hx with hx | hx
      · obtain ⟨z, hz, rfl⟩ := List.mem_map.mp hx
        obtain ⟨hz1, hz2⟩ := inF hz
        obtain ⟨y, ys, rfl, h1, h2⟩ := sh z hz1
        have a := of1 hz2
        have e : up (y :: ys) = (y - 1) :: ys := by show (if 0 < y then y - 1 else y + 1) :: ys = _; rw [if_pos a]
        rw [e]
        exact ⟨by simpa using h1, by show (y - 1).natAbs + nrm ys ≤ r; omega⟩
      · obtain ⟨z, hz, rfl⟩ := List.mem_map.mp hx
        obtain ⟨hz1, hz2⟩ := inF hz
        obtain ⟨y, ys, rfl, h1, h2⟩ := sh z hz1
        have a := of2 hz2
        have e : up (y :: ys) = (y + 1) :: ys := by show (if 0 < y then y - 1 else y + 1) :: ys = _; rw [if_neg (by omega)]
        rw [e]
        exact ⟨by simpa using h1, by show (y + 1).natAbs + nrm ys ≤ r; omega⟩)
    rw [List.length_append, List.length_map, List.length_map] at b12
    rw [List.length_map] at b0 b3
    rw [D_s]
    omega
/-! ### sums over stretches of whole numbers -/
def sI (f : Int → Int) (lo : Int) : Nat → Int
  | 0 => 0
  | n + 1 => sI f lo n + f (lo + n)
theorem sI_add (f : Int → Int) (lo : Int) (a : Nat) : ∀ b : Nat, sI f lo (a + b) = sI f lo a + sI f (lo + a) b
  | 0 => by simp [sI]
  | b + 1 => by
    show sI f lo (a + b) + f (lo + (a + b : Nat)) = _ + (sI f (lo + a) b + f (lo + a + b))
    rw [sI_add f lo a b, show lo + ((a + b : Nat) : Int) = lo + a + b by omega]
    omega
theorem sI_congr {f g : Int → Int} {lo : Int} : ∀ {n : Nat}, (∀ j, lo ≤ j → j < lo + n → f j = g j) → sI f lo n = sI g lo n
  | 0, _ => rfl
  | n + 1, h => by
    show sI f lo n + _ = sI g lo n + _
    rw [sI_congr (n := n) fun j h1 h2 => h j h1 (by omega), h (lo + n) (by omega) (by omega)]
theorem sI_le {f g : Int → Int} {lo : Int} : ∀ {n : Nat}, (∀ j, lo ≤ j → j < lo + n → f j ≤ g j) → sI f lo n ≤ sI g lo n
  | 0, _ => Int.le_refl _
  | n + 1, h => by
    show sI f lo n + _ ≤ sI g lo n + _
    have h1 := sI_le (n := n) fun j h1 h2 => h j h1 (by omega)
    have h2 := h (lo + n) (by omega) (by omega)
    omega
theorem sI_plus (f g : Int → Int) (lo : Int) : ∀ n : Nat, sI (fun j => f j + g j) lo n = sI f lo n + sI g lo n
  | 0 => rfl
  | n + 1 => by
    show sI (fun j => f j + g j) lo n + (f (lo + n) + g (lo + n)) = sI f lo n + f (lo + n) + (sI g lo n + g (lo + n))
    rw [sI_plus f g lo n]
    omega
theorem sI_zero {lo : Int} : ∀ n : Nat, sI (fun _ => 0) lo n = 0
  | 0 => rfl
  | n + 1 => by show sI _ lo n + 0 = 0; rw [sI_zero n]; rfl
theorem sI_abs (f : Int → Int) (lo : Int) : ∀ n : Nat, ((sI f lo n).natAbs : Int) ≤ sI (fun j => (f j).natAbs) lo n
  | 0 => by show ((0 : Int).natAbs : Int) ≤ 0; decide
  | n + 1 => by
    have h := sI_abs f lo n
    show ((sI f lo n + f (lo + n)).natAbs : Int) ≤ sI (fun j => (f j).natAbs) lo n + ((f (lo + n)).natAbs : Int)
    omega
/-- j's way to its parent covers the part p -/
def cov (par : Int → Int) (p j : Int) : Int := if (par j ≤ p ∧ p < j) ∨ (j ≤ p ∧ p < par j) then 1 else 0
/-- the same, with its side -/
def cs (par : Int → Int) (p j : Int) : Int := if par j ≤ p ∧ p < j then 1 else if j ≤ p ∧ p < par j then -1 else 0
theorem cs_step (par : Int → Int) (p j : Int) (h : par j ≠ j) : cs par (p + 1) j = cs par p j + (if par j = p + 1 then 1 else 0) - (if j = p + 1 then 1 else 0) := by
  unfold cs
  generalize par j = q at *
  by_cases a : q ≤ p ∧ p < j
  · rw [if_pos a, if_neg (show ¬ q = p + 1 by omega)]
    by_cases b : j = p + 1
    · rw [if_neg (by omega), if_neg (by omega), if_pos b]; rfl
    · rw [if_pos (by omega), if_neg b]; rfl
  · rw [if_neg a]
    by_cases c : j ≤ p ∧ p < q
    · rw [if_pos c, if_neg (show ¬ j = p + 1 by omega), if_neg (by omega)]
      by_cases b : q = p + 1
      · rw [if_neg (by omega), if_pos b]; rfl
      · rw [if_pos (by omega), if_neg b]; rfl
    · rw [if_neg c]
      by_cases b : q = p + 1
      · rw [if_pos b, if_neg (show ¬ j = p + 1 by omega)]
        by_cases e : p + 1 < j
        · rw [if_pos (by omega)]; rfl
        · exact absurd b (by omega)
      · rw [if_neg b]
        by_cases e : j = p + 1
        · rw [if_pos e, if_neg (by omega)]
          by_cases f : p + 1 < q
          · rw [if_pos (by omega)]; rfl
          · omega
        · rw [if_neg e, if_neg (by omega), if_neg (by omega)]; rfl
theorem cs_abs (par : Int → Int) (p j : Int) : ((cs par p j).natAbs : Int) = cov par p j := by
  unfold cs cov
  split <;> split <;> (try split) <;> (try omega)
/-- one coordinate of a part -/
def co (par : Int → Int) (lev : Int → Nat) (n : Nat) (l : Nat) (p : Int) : Int := sI (fun j => if lev j = l then cs par p j else 0) 1 (n - 1)
structure Tree (par : Int → Int) (lev : Int → Nat) (n d : Nat) : Prop where
  lo : ∀ j : Int, 1 ≤ j → j < n → 1 ≤ lev j ∧ lev j ≤ d
  up : ∀ j : Int, 1 ≤ j → j < n → lev j = lev (par j) + 1
theorem Tree.ne {par : Int → Int} {lev : Int → Nat} {n d : Nat} (T : Tree par lev n d) {j : Int} (h1 : 1 ≤ j) (h2 : j < n) : par j ≠ j := fun e => by
  have := T.up j h1 h2
  rw [e] at this
  omega
theorem co_step {par : Int → Int} {lev : Int → Nat} {n d : Nat} (T : Tree par lev n d) (l : Nat) (p : Int) (h : lev (p + 1) ≥ l) (hp : 0 ≤ p) (hpn : p + 1 < n) : co par lev n l (p + 1) = co par lev n l p - (if lev (p + 1) = l then 1 else 0) := by
  unfold co
  have e : sI (fun j => if lev j = l then cs par (p + 1) j else 0) 1 (n - 1) = sI (fun j => (if lev j = l then cs par p j else 0) + (if j = p + 1 then (if lev (p + 1) = l then -1 else 0) else 0)) 1 (n - 1) := by
    refine sI_congr fun j h1 h2 => ?_
    have h2' : j < n := by omega
    by_cases hl : lev j = l
    · have np : par j ≠ p + 1 := fun e => by
        have := T.up j h1 h2'
        rw [e] at this
        omega
      rw [if_pos hl, if_pos hl, cs_step par p j (T.ne h1 h2'), if_neg np]
      by_cases ej : j = p + 1
      · rw [if_pos ej, if_pos ej, ← ej, if_pos hl]; omega
      · rw [if_neg ej, if_neg ej]; omega
    · rw [if_neg hl, if_neg hl]
      by_cases ej : j = p + 1
      · rw [if_pos ej, ← ej, if_neg hl]; rfl
      · rw [if_neg ej]; rfl
  rw [e, sI_plus]
  have one : ∀ (c : Int) (lo : Int) (m : Nat), lo ≤ p + 1 → p + 1 < lo + m → sI (fun j => if j = p + 1 then c else 0) lo m = c := by
    intro c lo m h1 h2
    induction m with
    | zero => omega
    | succ m ih =>
      show sI _ lo m + (if lo + (m : Int) = p + 1 then c else 0) = c
      by_cases e : lo + (m : Int) = p + 1
      · rw [if_pos e]
        have z : sI (fun j => if j = p + 1 then c else 0) lo m = sI (fun _ => 0) lo m := sI_congr fun j h1 h2 => by rw [if_neg (by omega)]
        rw [z, sI_zero]
        omega
      · rw [if_neg e, ih (by omega)]
        omega
  rw [one _ _ _ (by omega) (by omega)]
  by_cases hl : lev (p + 1) = l
  · rw [if_pos hl, if_pos hl]; omega
  · rw [if_neg hl, if_neg hl]; omega
/-- between two parts some coordinate falls -/
theorem co_fall {par : Int → Int} {lev : Int → Nat} {n d : Nat} (T : Tree par lev n d) (p : Nat) : ∀ (k : Nat), p + k + 1 < n → ∃ v : Nat, p < v ∧ v ≤ p + k + 1 ∧ (∀ v' : Nat, p < v' → v' ≤ p + k + 1 → lev v ≤ lev v') ∧
    co par lev n (lev v) ((p + k + 1 : Nat) : Int) < co par lev n (lev v) (p : Int) := by
  -- the least level
  have least : ∀ (k : Nat), ∃ v : Nat, p < v ∧ v ≤ p + k + 1 ∧ ∀ v' : Nat, p < v' → v' ≤ p + k + 1 → lev v ≤ lev v' := by
    intro k
    induction k with
    | zero => exact ⟨p + 1, by omega, by omega, fun v' h1 h2 => by rw [show v' = p + 1 by omega]; exact Nat.le_refl _⟩
    | succ k ih =>
      obtain ⟨v, h1, h2, h3⟩ := ih
      by_cases c : lev ((p + (k + 1) + 1 : Nat) : Int) < lev v
      · refine ⟨p + (k + 1) + 1, by omega, by omega, fun v' a b => ?_⟩
        by_cases e : v' = p + (k + 1) + 1
        · rw [e]; exact Nat.le_refl _
        · have := h3 v' a (by omega); omega
      · refine ⟨v, h1, by omega, fun v' a b => ?_⟩
        by_cases e : v' = p + (k + 1) + 1
        · rw [e]; omega
        · exact h3 v' a (by omega)
  intro k hk
  obtain ⟨v, h1, h2, h3⟩ := least k
  refine ⟨v, h1, h2, h3, ?_⟩
  have walk : ∀ m : Nat, p + m ≤ p + k + 1 → co par lev n (lev v) ((p + m : Nat) : Int) ≤ co par lev n (lev v) (p : Int) ∧ (v ≤ p + m → co par lev n (lev v) ((p + m : Nat) : Int) < co par lev n (lev v) (p : Int)) := by
    intro m
    induction m with
    | zero => intro _; exact ⟨Int.le_refl _, fun z => by omega⟩
    | succ m ih =>
      intro hm
      obtain ⟨i1, i2⟩ := ih (by omega)
      have e : ((p + (m + 1) : Nat) : Int) = ((p + m : Nat) : Int) + 1 := by omega
      have lv := h3 (p + (m + 1)) (by omega) (by omega)
      have st := co_step T (lev v) ((p + m : Nat) : Int) (by rw [← e]; exact lv) (by omega) (by omega)
      rw [e]
      refine ⟨?_, fun z => ?_⟩
      · rw [st]; split <;> omega
      · by_cases ev : v = p + (m + 1)
        · rw [st, ← e, ← ev, if_pos rfl]
          omega
        · have := i2 (by omega)
          rw [st]; split <;> omega
  exact (walk (k + 1) (by omega)).2 (by omega)
def vec (par : Int → Int) (lev : Int → Nat) (n d : Nat) (p : Nat) : List Int := (List.range d).map fun l => co par lev n (l + 1) p
theorem nrm_append : ∀ (a b : List Int), nrm (a ++ b) = nrm a + nrm b
  | [], b => by simp [nrm]
  | x :: a, b => by
    show x.natAbs + nrm (a ++ b) = x.natAbs + nrm a + nrm b
    rw [nrm_append a b]; omega
theorem vec_nrm {par : Int → Int} {lev : Int → Nat} {n : Nat} (p : Nat) : ∀ d : Nat, ((nrm (vec par lev n d p) : Nat) : Int) ≤ sI (fun j => if 1 ≤ lev j ∧ lev j ≤ d then cov par p j else 0) 1 (n - 1)
  | 0 => by
    have : sI (fun j => if 1 ≤ lev j ∧ lev j ≤ 0 then cov par p j else 0) 1 (n - 1) = sI (fun _ => 0) 1 (n - 1) := sI_congr fun j _ _ => by rw [if_neg (by omega)]
    rw [this, sI_zero]
    exact Int.le_refl _
  | d + 1 => by
    have ih := vec_nrm (par := par) (lev := lev) (n := n) p d
    have e : vec par lev n (d + 1) p = vec par lev n d p ++ [co par lev n (d + 1) p] := by unfold vec; rw [List.range_succ, List.map_append]; rfl
    have h1 := sI_abs (fun j => if lev j = d + 1 then cs par p j else 0) 1 (n - 1)
    have h2 : sI (fun j => (((if lev j = d + 1 then cs par p j else 0).natAbs : Nat) : Int)) 1 (n - 1) = sI (fun j => if lev j = d + 1 then cov par p j else 0) 1 (n - 1) := sI_congr fun j _ _ => by
      split
      · exact cs_abs par p j
      · rfl
    have h3 : sI (fun j => if 1 ≤ lev j ∧ lev j ≤ d + 1 then cov par p j else 0) 1 (n - 1) = sI (fun j => (if 1 ≤ lev j ∧ lev j ≤ d then cov par p j else 0) + (if lev j = d + 1 then cov par p j else 0)) 1 (n - 1) := sI_congr fun j _ _ => by
      by_cases a : lev j = d + 1
      · rw [if_pos (by omega), if_neg (by omega), if_pos a]; omega
      · by_cases b : 1 ≤ lev j ∧ lev j ≤ d
        · rw [if_pos (by omega), if_pos b, if_neg a]; omega
        · rw [if_neg (by omega), if_neg b, if_neg a]; rfl
    rw [e, nrm_append, h3, sI_plus, ← h2]
    have h4 : nrm [co par lev n (d + 1) p] = (co par lev n (d + 1) p).natAbs := by simp [nrm]
    rw [h4]
    unfold co
    unfold co at *
    omega
/-- chains to d, loads to r: at most D d r parts -/
theorem most {par : Int → Int} {lev : Int → Nat} {n d r : Nat} (T : Tree par lev n d) (h : ∀ p : Nat, p < n → sI (cov par p) 1 (n - 1) ≤ r) : n ≤ D d r := by
  have key := ball d r ((List.range n).map (vec par lev n d)) (nd_map (fun x hx y hy e => ?_) List.nodup_range) (fun v hv => ?_)
  · rwa [List.length_map, List.length_range] at key
  · rw [List.mem_range] at hx hy
    have no : ∀ x y : Nat, x < y → y < n → vec par lev n d x = vec par lev n d y → False := fun x y hxy hy e => by
      obtain ⟨k, rfl⟩ : ∃ k, y = x + k + 1 := ⟨y - x - 1, by omega⟩
      obtain ⟨v, h1, h2, h3, h4⟩ := co_fall T x k hy
      have lv := T.lo v (by omega) (by omega)
      have e1 := congrArg (fun l => l[lev v - 1]?) e
      unfold vec at e1
      rw [List.getElem?_map, List.getElem?_map, List.getElem?_range (by omega)] at e1
      have e2 : co par lev n (lev v - 1 + 1) x = co par lev n (lev v - 1 + 1) ((x + k + 1 : Nat) : Int) := Option.some.inj e1
      rw [show lev v - 1 + 1 = lev v by omega] at e2
      omega
    rcases Nat.lt_trichotomy x y with c | c | c
    · exact (no x y c hy e).elim
    · exact c
    · exact (no y x c hx e.symm).elim
  · obtain ⟨p, hp, rfl⟩ := List.mem_map.mp hv
    rw [List.mem_range] at hp
    refine ⟨by unfold vec; rw [List.length_map, List.length_range], ?_⟩
    have h1 := vec_nrm (par := par) (lev := lev) (n := n) p d
    have h2 : sI (fun j => if 1 ≤ lev j ∧ lev j ≤ d then cov par p j else 0) 1 (n - 1) = sI (cov par p) 1 (n - 1) := sI_congr fun j a b => by rw [if_pos (T.lo j a (by omega))]
    have h3 := h p hp
    omega
end Lay
set_option maxHeartbeats 1000000
/-! MLay2: the built layout: as many parts as D d r, chains to d, loads to r. -/
namespace Lay
open Del
def hh (d r : Nat) : Nat := (D d r - 1) / 2
theorem D_odd : ∀ (d r : Nat), D d r % 2 = 1
  | 0, r => by rw [D_z]
  | d + 1, 0 => by rw [D_0]
  | d + 1, r + 1 => by rw [D_s]; have := D_odd d (r + 1); have := D_odd (d + 1) r; have := D_odd d r; omega
theorem hh_eq (d r : Nat) : D d r = 2 * hh d r + 1 := by have := D_odd d r; unfold hh; omega
theorem hh_z (r : Nat) : hh 0 r = 0 := by unfold hh; rw [D_z]
theorem hh_0 (d : Nat) : hh d 0 = 0 := by unfold hh; rw [D_0]
theorem hh_s (d r : Nat) : hh (d + 1) (r + 1) = hh d (r + 1) + hh (d + 1) r + hh d r + 1 := by
  have a := hh_eq (d + 1) (r + 1); have b := hh_eq d (r + 1); have c := hh_eq (d + 1) r; have e := hh_eq d r
  rw [D_s] at a
  omega
/-! m joints in a row from a root: the one that is hung on it, the joints this side of it -/
def sAt (d r m : Nat) : Nat := m - 1 - min (m - 1) (hh (d - 1) r)
def sNr (d r m : Nat) : Nat := min (sAt d r m) (hh d (r - 1))
theorem split {d r m : Nat} (hm : 1 ≤ m) (h : m ≤ hh d r) : 1 ≤ d ∧ 1 ≤ r ∧ sAt d r m < m ∧ sNr d r m ≤ sAt d r m ∧ sNr d r m ≤ hh d (r - 1) ∧ sAt d r m - sNr d r m ≤ hh (d - 1) (r - 1) ∧ m - 1 - sAt d r m ≤ hh (d - 1) r := by
  cases d with
  | zero => rw [hh_z] at h; omega
  | succ d =>
    cases r with
    | zero => rw [hh_0] at h; omega
    | succ r =>
      rw [hh_s] at h
      unfold sNr sAt
      simp only [Nat.add_sub_cancel]
      omega
/-- j is one of m joints in a row from the root, towards s -/
def In (root s : Int) (m : Nat) (j : Int) : Prop := (s = 1 ∧ root + 1 ≤ j ∧ j ≤ root + m) ∨ (s = -1 ∧ root - m ≤ j ∧ j ≤ root - 1)
def Fits (par : Int → Int) (lev : Int → Nat) : Nat → Nat → Nat → Int → Int → Nat → Nat → Prop
  | 0, _, _, _, _, m, _ => m = 0
  | f + 1, d, r, root, s, m, lv => m = 0 ∨ (par (root + s * (sAt d r m + 1 : Nat)) = root ∧ lev (root + s * (sAt d r m + 1 : Nat)) = lv + 1 ∧ Fits par lev f d (r - 1) root s (sNr d r m) lv ∧
      Fits par lev f (d - 1) (r - 1) (root + s * (sAt d r m + 1 : Nat)) (-s) (sAt d r m - sNr d r m) (lv + 1) ∧ Fits par lev f (d - 1) r (root + s * (sAt d r m + 1 : Nat)) s (m - 1 - sAt d r m) (lv + 1))
theorem sub_in {root s : Int} {m a n : Nat} (hs : s = 1 ∨ s = -1) (ha : a < m) (hn : n ≤ a) : In root s m (root + s * (a + 1 : Nat)) ∧ (∀ j, In root s n j → In root s m j ∧ j ≠ root + s * (a + 1 : Nat) ∧ ¬ In (root + s * (a + 1 : Nat)) (-s) (a - n) j ∧ ¬ In (root + s * (a + 1 : Nat)) s (m - 1 - a) j) ∧
    (∀ j, In (root + s * (a + 1 : Nat)) (-s) (a - n) j → In root s m j ∧ j ≠ root + s * (a + 1 : Nat) ∧ ¬ In (root + s * (a + 1 : Nat)) s (m - 1 - a) j) ∧ (∀ j, In (root + s * (a + 1 : Nat)) s (m - 1 - a) j → In root s m j ∧ j ≠ root + s * (a + 1 : Nat)) := by
  rcases hs with rfl | rfl
  · rw [show root + 1 * ((a + 1 : Nat) : Int) = root + a + 1 by omega]
    unfold In
    refine ⟨by omega, fun j h => ?_, fun j h => ?_, fun j h => ?_⟩ <;> refine ⟨by omega, ?_⟩
    · refine ⟨by omega, by omega, by omega⟩
    · refine ⟨by omega, by omega⟩
    · omega
  · rw [show root + -1 * ((a + 1 : Nat) : Int) = root - a - 1 by omega]
    unfold In
    refine ⟨by omega, fun j h => ?_, fun j h => ?_, fun j h => ?_⟩ <;> refine ⟨by omega, ?_⟩
    · refine ⟨by omega, by omega, by omega⟩
    · refine ⟨by omega, by omega⟩
    · omega
theorem neg_s {s : Int} (hs : s = 1 ∨ s = -1) : -s = 1 ∨ -s = -1 := by omega
theorem fits_congr {par par' : Int → Int} {lev lev' : Int → Nat} : ∀ (f d r : Nat) (root s : Int) (m lv : Nat), (s = 1 ∨ s = -1) → (∀ j, In root s m j → par' j = par j ∧ lev' j = lev j) → Fits par lev f d r root s m lv → Fits par' lev' f d r root s m lv
  | 0, _, _, _, _, _, _, _, _, h => h
  | f + 1, d, r, root, s, m, lv, hs, e, h => by
    rcases h with h | ⟨h1, h2, h3, h4, h5⟩
    · exact .inl h
    · by_cases m0 : m = 0
      · exact .inl m0
      have ha : sAt d r m < m := by unfold sAt; omega
      have hn : sNr d r m ≤ sAt d r m := by unfold sNr; omega
      obtain ⟨i0, i1, i2, i3⟩ := sub_in (root := root) hs ha hn
      refine .inr ⟨(e _ i0).1.trans h1, (e _ i0).2.trans h2, fits_congr f _ _ _ _ _ _ hs (fun j hj => e j (i1 j hj).1) h3, fits_congr f _ _ _ _ _ _ (neg_s hs) (fun j hj => e j (i2 j hj).1) h4, fits_congr f _ _ _ _ _ _ hs (fun j hj => e j (i3 j hj).1) h5⟩
open Classical in
theorem fits_ex : ∀ (f d r : Nat) (root s : Int) (m lv : Nat), (s = 1 ∨ s = -1) → m ≤ f → ∃ (par : Int → Int) (lev : Int → Nat), Fits par lev f d r root s m lv
  | 0, _, _, _, _, m, _, _, h => ⟨fun _ => 0, fun _ => 0, by show m = 0; omega⟩
  | f + 1, d, r, root, s, m, lv, hs, h => by
    by_cases m0 : m = 0
    · exact ⟨fun _ => 0, fun _ => 0, .inl m0⟩
    have ha : sAt d r m < m := by unfold sAt; omega
    have hn : sNr d r m ≤ sAt d r m := by unfold sNr; omega
    obtain ⟨i0, i1, i2, i3⟩ := sub_in (root := root) hs ha hn
    obtain ⟨pA, lA, A⟩ := fits_ex f d (r - 1) root s (sNr d r m) lv hs (by omega)
    obtain ⟨pB, lB, B⟩ := fits_ex f (d - 1) (r - 1) (root + s * (sAt d r m + 1 : Nat)) (-s) (sAt d r m - sNr d r m) (lv + 1) (neg_s hs) (by omega)
    obtain ⟨pC, lC, C⟩ := fits_ex f (d - 1) r (root + s * (sAt d r m + 1 : Nat)) s (m - 1 - sAt d r m) (lv + 1) hs (by omega)
    generalize ht : root + s * (sAt d r m + 1 : Nat) = top at *
    refine ⟨fun j => if j = top then root else if In top s (m - 1 - sAt d r m) j then pC j else if In top (-s) (sAt d r m - sNr d r m) j then pB j else pA j,
      fun j => if j = top then lv + 1 else if In top s (m - 1 - sAt d r m) j then lC j else if In top (-s) (sAt d r m - sNr d r m) j then lB j else lA j, .inr ?_⟩
    rw [ht]
    refine ⟨if_pos rfl, if_pos rfl, fits_congr f _ _ _ _ _ _ hs (fun j hj => ?_) A, fits_congr f _ _ _ _ _ _ (neg_s hs) (fun j hj => ?_) B, fits_congr f _ _ _ _ _ _ hs (fun j hj => ?_) C⟩
    · obtain ⟨_, a, b, c⟩ := i1 j hj
      exact ⟨by rw [if_neg a, if_neg c, if_neg b], by rw [if_neg a, if_neg c, if_neg b]⟩
    · obtain ⟨_, a, c⟩ := i2 j hj
      exact ⟨by rw [if_neg a, if_neg c, if_pos hj], by rw [if_neg a, if_neg c, if_pos hj]⟩
    · obtain ⟨_, a⟩ := i3 j hj
      exact ⟨by rw [if_neg a, if_pos hj], by rw [if_neg a, if_pos hj]⟩
theorem fits_tree {par : Int → Int} {lev : Int → Nat} : ∀ (f d r : Nat) (root s : Int) (m lv : Nat), (s = 1 ∨ s = -1) → m ≤ hh d r → Fits par lev f d r root s m lv → ∀ j, In root s m j →
    lv + 1 ≤ lev j ∧ lev j ≤ lv + d ∧ ((par j = root ∧ lev j = lv + 1) ∨ (In root s m (par j) ∧ lev j = lev (par j) + 1))
  | 0, _, _, _, _, m, _, _, _, h => fun j hj => by
    have h : m = 0 := h
    unfold In at hj
    omega
  | f + 1, d, r, root, s, m, lv, hs, hz, h => fun j hj => by
    by_cases m0 : m = 0
    · unfold In at hj
      omega
    rcases h with h | ⟨h1, h2, h3, h4, h5⟩
    · exact absurd h m0
    obtain ⟨d1, r1, ha, hn, z1, z2, z3⟩ := split (by omega) hz
    obtain ⟨i0, i1, i2, i3⟩ := sub_in (root := root) hs ha hn
    have A := fits_tree f _ _ _ _ _ _ hs z1 h3 j
    have B := fits_tree f _ _ _ _ _ _ (neg_s hs) z2 h4 j
    have C := fits_tree f _ _ _ _ _ _ hs z3 h5 j
    by_cases ct : j = root + s * (sAt d r m + 1 : Nat)
    · subst ct
      exact ⟨by omega, by omega, .inl ⟨h1, h2⟩⟩
    by_cases cA : In root s (sNr d r m) j
    · obtain ⟨a1, a2, a3⟩ := A cA
      refine ⟨a1, a2, a3.imp id fun ⟨a4, a5⟩ => ⟨(i1 _ a4).1, a5⟩⟩
    by_cases cB : In (root + s * (sAt d r m + 1 : Nat)) (-s) (sAt d r m - sNr d r m) j
    · obtain ⟨a1, a2, a3⟩ := B cB
      refine ⟨by omega, by omega, .inr ?_⟩
      rcases a3 with ⟨a4, a5⟩ | ⟨a4, a5⟩
      · rw [a4]; exact ⟨i0, by omega⟩
      · exact ⟨(i2 _ a4).1, a5⟩
    have cC : In (root + s * (sAt d r m + 1 : Nat)) s (m - 1 - sAt d r m) j := by
      generalize sAt d r m = a at *
      generalize sNr d r m = b at *
      rcases hs with rfl | rfl
      · rw [show root + 1 * ((a + 1 : Nat) : Int) = root + a + 1 by omega] at ct cB ⊢
        unfold In at *
        omega
      · rw [show root + -1 * ((a + 1 : Nat) : Int) = root - a - 1 by omega] at ct cB ⊢
        unfold In at *
        omega
    obtain ⟨a1, a2, a3⟩ := C cC
    refine ⟨by omega, by omega, .inr ?_⟩
    rcases a3 with ⟨a4, a5⟩ | ⟨a4, a5⟩
    · rw [a4]; exact ⟨i0, by omega⟩
    · exact ⟨(i3 _ a4).1, a5⟩
theorem fits_load {par : Int → Int} {lev : Int → Nat} (p : Int) : ∀ (f d r : Nat) (root s : Int) (m lv : Nat), m ≤ hh d r → Fits par lev f d r root s m lv →
    (s = 1 → sI (cov par p) (root + 1) m ≤ if root ≤ p ∧ p < root + m then r else 0) ∧ (s = -1 → sI (cov par p) (root - m) m ≤ if root - m ≤ p ∧ p < root then r else 0)
  | 0, _, r, root, _, m, _, _, h => by
    have h : m = 0 := h
    subst h
    refine ⟨fun _ => ?_, fun _ => ?_⟩ <;> (show (0 : Int) ≤ _; split <;> omega)
  | f + 1, d, r, root, s, m, lv, hz, h => by
    by_cases m0 : m = 0
    · subst m0
      refine ⟨fun _ => ?_, fun _ => ?_⟩ <;> (show (0 : Int) ≤ _; split <;> omega)
    rcases h with h | ⟨h1, h2, h3, h4, h5⟩
    · exact absurd h m0
    obtain ⟨d1, r1, ha, hn, z1, z2, z3⟩ := split (by omega) hz
    have A := fits_load p f _ _ _ _ _ _ z1 h3
    have B := fits_load p f _ _ _ _ _ _ z2 h4
    have C := fits_load p f _ _ _ _ _ _ z3 h5
    generalize sAt d r m = a at *
    generalize sNr d r m = b at *
    refine ⟨fun e => ?_, fun e => ?_⟩
    · subst e
      have et : root + 1 * ((a + 1 : Nat) : Int) = root + a + 1 := by omega
      rw [et] at h1 B C
      have A := A.1 rfl
      have B := B.2 rfl
      have C := C.1 rfl
      have em : m = b + ((a - b) + (1 + (m - 1 - a))) := by omega
      have l1 : sI (cov par p) (root + 1) m = sI (cov par p) (root + 1) b + (sI (cov par p) (root + 1 + b) (a - b) + (sI (cov par p) (root + 1 + b + ((a - b : Nat) : Int)) 1 + sI (cov par p) (root + 1 + b + ((a - b : Nat) : Int) + (1 : Nat)) (m - 1 - a))) := by
        conv => lhs; rw [em]
        rw [sI_add, sI_add, sI_add]
      have x1 : root + 1 + (b : Int) = root + a + 1 - ((a - b : Nat) : Int) := by omega
      have x2 : root + 1 + (b : Int) + ((a - b : Nat) : Int) = root + a + 1 := by omega
      rw [l1, x2, show root + (a : Int) + 1 + ((1 : Nat) : Int) = root + a + 1 + 1 by omega, x1]
      have lt : sI (cov par p) (root + a + 1) 1 = cov par p (root + a + 1) := by show 0 + cov par p (root + a + 1 + ((0 : Nat) : Int)) = _; rw [Int.zero_add]; congr 1; omega
      rw [lt]
      have ht : cov par p (root + a + 1) = if root ≤ p ∧ p < root + a + 1 then 1 else 0 := by
        unfold cov
        rw [h1]
        by_cases c : root ≤ p ∧ p < root + a + 1
        · rw [if_pos (.inl c), if_pos c]
        · rw [if_neg (by omega), if_neg c]
      rw [ht]
      generalize sI (cov par p) (root + 1) b = X at *
      generalize sI (cov par p) (root + a + 1 - ((a - b : Nat) : Int)) (a - b) = Y at *
      generalize sI (cov par p) (root + a + 1 + 1) (m - 1 - a) = Z at *
      by_cases c1 : root ≤ p ∧ p < root + b
      · rw [if_pos c1] at A; rw [if_neg (by omega)] at B C; rw [if_pos (by omega), if_pos (by omega)]; omega
      · rw [if_neg c1] at A
        by_cases c2 : root + a + 1 - ((a - b : Nat) : Int) ≤ p ∧ p < root + a + 1
        · rw [if_pos c2] at B; rw [if_neg (by omega)] at C; rw [if_pos (by omega), if_pos (by omega)]; omega
        · rw [if_neg c2] at B
          by_cases c3 : root + a + 1 ≤ p ∧ p < root + a + 1 + ((m - 1 - a : Nat) : Int)
          · rw [if_pos c3] at C; rw [if_neg (by omega), if_pos (by omega)]; omega
          · rw [if_neg c3] at C
            by_cases c4 : root ≤ p ∧ p < root + a + 1
            · rw [if_pos c4, if_pos (by omega)]; omega
            · rw [if_neg c4]; split <;> omega
    · subst e
      have et : root + -1 * ((a + 1 : Nat) : Int) = root - a - 1 := by omega
      rw [et] at h1 B C
      have A := A.2 rfl
      have B := B.1 rfl
      have C := C.2 rfl
      have em : m = (m - 1 - a) + (1 + ((a - b) + b)) := by omega
      have l1 : sI (cov par p) (root - m) m = sI (cov par p) (root - m) (m - 1 - a) + (sI (cov par p) (root - m + ((m - 1 - a : Nat) : Int)) 1 + (sI (cov par p) (root - m + ((m - 1 - a : Nat) : Int) + (1 : Nat)) (a - b) + sI (cov par p) (root - m + ((m - 1 - a : Nat) : Int) + (1 : Nat) + ((a - b : Nat) : Int)) b)) := by
        conv => lhs; arg 3; rw [em]
        rw [sI_add, sI_add, sI_add]
      have x1 : root - (m : Int) = root - a - 1 - ((m - 1 - a : Nat) : Int) := by omega
      have x2 : root - (m : Int) + ((m - 1 - a : Nat) : Int) = root - a - 1 := by omega
      have x3 : root - (a : Int) - 1 + ((1 : Nat) : Int) = root - a - 1 + 1 := by omega
      have x4 : root - (a : Int) - 1 + 1 + ((a - b : Nat) : Int) = root - b := by omega
      rw [l1, x2, x3, x4]
      rw [show sI (cov par p) (root - m) (m - 1 - a) = sI (cov par p) (root - a - 1 - ((m - 1 - a : Nat) : Int)) (m - 1 - a) by rw [← x1]]
      have lt : sI (cov par p) (root - a - 1) 1 = cov par p (root - a - 1) := by show 0 + cov par p (root - a - 1 + ((0 : Nat) : Int)) = _; rw [Int.zero_add]; congr 1; omega
      rw [lt]
      have ht : cov par p (root - a - 1) = if root - a - 1 ≤ p ∧ p < root then 1 else 0 := by
        unfold cov
        rw [h1]
        by_cases c : root - a - 1 ≤ p ∧ p < root
        · rw [if_pos (.inr c), if_pos c]
        · rw [if_neg (by omega), if_neg c]
      rw [ht]
      generalize sI (cov par p) (root - b) b = X at *
      generalize sI (cov par p) (root - a - 1 + 1) (a - b) = Y at *
      generalize sI (cov par p) (root - a - 1 - ((m - 1 - a : Nat) : Int)) (m - 1 - a) = Z at *
      by_cases c1 : root - b ≤ p ∧ p < root
      · rw [if_pos c1] at A; rw [if_neg (by omega)] at B C; rw [if_pos (by omega), if_pos (by omega)]; omega
      · rw [if_neg c1] at A
        by_cases c2 : root - a - 1 ≤ p ∧ p < root - a - 1 + ((a - b : Nat) : Int)
        · rw [if_pos c2] at B; rw [if_neg (by omega)] at C; rw [if_pos (by omega), if_pos (by omega)]; omega
        · rw [if_neg c2] at B
          by_cases c3 : root - a - 1 - ((m - 1 - a : Nat) : Int) ≤ p ∧ p < root - a - 1
          · rw [if_pos c3] at C; rw [if_neg (by omega), if_pos (by omega)]; omega
          · rw [if_neg c3] at C
            by_cases c4 : root - a - 1 ≤ p ∧ p < root
            · rw [if_pos c4, if_pos (by omega)]; omega
            · rw [if_neg c4]; split <;> omega
/-- the whole layout -/
structure Built (par : Int → Int) (lev : Int → Nat) (n d r : Nat) : Prop where
  l0 : lev 0 = 0
  ln : lev n = 0
  a : Fits par lev n d r 0 1 (min (n - 1) (hh d r)) 0
  b : Fits par lev n d r n (-1) (n - 1 - min (n - 1) (hh d r)) 0
theorem top_sz {n d r : Nat} (h : n ≤ D d r) : min (n - 1) (hh d r) ≤ hh d r ∧ n - 1 - min (n - 1) (hh d r) ≤ hh d r := by
  have := hh_eq d r
  omega
theorem built_ex (n d r : Nat) (hn : 1 ≤ n) : ∃ par lev, Built par lev n d r := by
  obtain ⟨pA, lA, A⟩ := fits_ex n d r 0 1 (min (n - 1) (hh d r)) 0 (.inl rfl) (by omega)
  obtain ⟨pB, lB, B⟩ := fits_ex n d r n (-1) (n - 1 - min (n - 1) (hh d r)) 0 (.inr rfl) (by omega)
  refine ⟨fun j => if j ≤ min (n - 1) (hh d r) then pA j else pB j, fun j => if j = 0 ∨ j = n then 0 else if j ≤ min (n - 1) (hh d r) then lA j else lB j, if_pos (.inl rfl), if_pos (.inr rfl), fits_congr _ _ _ _ _ _ _ (.inl rfl) (fun j hj => ?_) A, fits_congr _ _ _ _ _ _ _ (.inr rfl) (fun j hj => ?_) B⟩
  · unfold In at hj
    exact ⟨if_pos (by omega), by rw [if_neg (by omega), if_pos (by omega)]⟩
  · unfold In at hj
    exact ⟨if_neg (by omega), by rw [if_neg (by omega), if_neg (by omega)]⟩
theorem Built.step {par : Int → Int} {lev : Int → Nat} {n d r : Nat} (B : Built par lev n d r) (h : n ≤ D d r) (j : Int) (h1 : 1 ≤ j) (h2 : j < n) : 1 ≤ lev j ∧ lev j ≤ d ∧ lev j = lev (par j) + 1 ∧ 0 ≤ par j ∧ par j ≤ n := by
  obtain ⟨z1, z2⟩ := top_sz h
  by_cases c : j ≤ min (n - 1) (hh d r)
  · obtain ⟨a1, a2, a3⟩ := fits_tree _ _ _ _ _ _ _ (.inl rfl) z1 B.a j (by unfold In; omega)
    refine ⟨by omega, by omega, ?_⟩
    rcases a3 with ⟨a3, a4⟩ | ⟨a3, a4⟩
    · rw [a3, B.l0]; omega
    · unfold In at a3; omega
  · obtain ⟨a1, a2, a3⟩ := fits_tree _ _ _ _ _ _ _ (.inr rfl) z2 B.b j (by unfold In; omega)
    refine ⟨by omega, by omega, ?_⟩
    rcases a3 with ⟨a3, a4⟩ | ⟨a3, a4⟩
    · rw [a3, B.ln]; omega
    · unfold In at a3; omega
theorem Built.tree {par : Int → Int} {lev : Int → Nat} {n d r : Nat} (B : Built par lev n d r) (h : n ≤ D d r) : Tree par lev n d :=
  ⟨fun j h1 h2 => ⟨(B.step h j h1 h2).1, (B.step h j h1 h2).2.1⟩, fun j h1 h2 => (B.step h j h1 h2).2.2.1⟩
def load (par : Int → Int) (n : Nat) (p : Int) : Int := sI (cov par p) 1 (n - 1)
theorem Built.le {par : Int → Int} {lev : Int → Nat} {n d r : Nat} (B : Built par lev n d r) (h : n ≤ D d r) (hn : 1 ≤ n) (p : Int) : load par n p ≤ r := by
  obtain ⟨z1, z2⟩ := top_sz h
  have a := (fits_load p _ _ _ _ _ _ _ z1 B.a).1 rfl
  have b := (fits_load p _ _ _ _ _ _ _ z2 B.b).2 rfl
  unfold load
  have e : n - 1 = min (n - 1) (hh d r) + (n - 1 - min (n - 1) (hh d r)) := by omega
  have l : sI (cov par p) 1 (n - 1) = sI (cov par p) 1 (min (n - 1) (hh d r)) + sI (cov par p) (1 + (min (n - 1) (hh d r) : Nat)) (n - 1 - min (n - 1) (hh d r)) := by
    conv => lhs; rw [e]
    rw [sI_add]
  rw [l]
  rw [show (1 : Int) + ((min (n - 1) (hh d r) : Nat) : Int) = (n : Int) - ((n - 1 - min (n - 1) (hh d r) : Nat) : Int) by omega]
  rw [Int.zero_add] at a
  generalize min (n - 1) (hh d r) = x at *
  generalize sI (cov par p) 1 x = X at *
  generalize sI (cov par p) ((n : Int) - ((n - 1 - x : Nat) : Int)) (n - 1 - x) = Y at *
  by_cases c1 : 0 ≤ p ∧ p < 0 + (x : Int)
  · rw [if_pos (by omega)] at a; rw [if_neg (by omega)] at b; omega
  · rw [if_neg (by omega)] at a
    split at b <;> omega
/-- some part bears r -/
theorem Built.ge {par : Int → Int} {lev : Int → Nat} {n d r : Nat} (B : Built par lev n d r) (h : Least n d r) (hn : 1 ≤ n) : ∃ p : Nat, p < n ∧ load par n p = r := by
  have nn : ∀ p, 0 ≤ load par n p := fun p => by
    have : sI (fun _ => 0) 1 (n - 1) ≤ load par n p := sI_le fun j _ _ => by unfold cov; split <;> omega
    rw [sI_zero] at this
    exact this
  cases r with
  | zero => exact ⟨0, by omega, by have := B.le h.1 hn ((0 : Nat) : Int); have := nn ((0 : Nat) : Int); omega⟩
  | succ r =>
    refine Classical.byContradiction fun z => ?_
    have h1 := most (r := r) (B.tree h.1) (fun p hp => by
      have a := B.le h.1 hn p
      have b : load par n p ≠ (r + 1 : Nat) := fun e => z ⟨p, hp, e⟩
      show load par n p ≤ r
      omega)
    have h2 := h.2 r (by omega)
    omega
end Lay
set_option maxRecDepth 100000
set_option maxHeartbeats 2000000
/-! MLayH: the tasks of a layout on the heap, and what is set. -/
namespace L3
open PySem PySem.Spec PyProof.Rows L2 He
/-- m joints in a row from a root -/
def js (root s : Int) (m : Nat) : List V := (List.range m).map fun (k : Nat) => V.int (root + s * ((k : Nat) + 1 : Int))
theorem js_len (root s : Int) (m : Nat) : (js root s m).length = m := by unfold js; rw [List.length_map, List.length_range]
theorem js_at {root s : Int} {m k : Nat} (h : k < m) : (js root s m)[k]? = some (V.int (root + s * ((k : Nat) + 1 : Int))) := by
  unfold js
  rw [List.getElem?_map, List.getElem?_range h]
  rfl
theorem js_take {root s : Int} {m k : Nat} (h : k ≤ m) : (js root s m).take k = js root s k := by
  apply List.ext_getElem?
  intro i
  rw [List.getElem?_take]
  split
  · rw [js_at (by omega), js_at (by omega)]
  · rw [List.getElem?_eq_none (by rw [js_len]; omega)]
theorem js_drop {root s : Int} {m k : Nat} (h : k < m) : (js root s m).drop (k + 1) = js (root + s * (k + 1 : Nat)) s (m - 1 - k) := by
  apply List.ext_getElem?
  intro i
  rw [List.getElem?_drop]
  by_cases c : i < m - 1 - k
  · rw [js_at (by omega), js_at c, Int.add_assoc, ← Int.mul_add, show ((k + 1 + i : Nat) : Int) + 1 = ((k + 1 : Nat) : Int) + ((i : Int) + 1) by omega]
  · rw [List.getElem?_eq_none (by rw [js_len]; omega), List.getElem?_eq_none (by rw [js_len]; omega)]
theorem js_rev {root s : Int} {m a b : Nat} (ha : a < m) (hb : b ≤ a) : (((js root s m).drop b).take (a - b)).reverse = js (root + s * (a + 1 : Nat)) (-s) (a - b) := by
  apply List.ext_getElem?
  intro i
  have hl : (((js root s m).drop b).take (a - b)).length = a - b := by rw [List.length_take, List.length_drop, js_len]; omega
  by_cases c : i < a - b
  · rw [List.getElem?_reverse (by omega), hl, List.getElem?_take, if_pos (by omega), List.getElem?_drop, js_at (by omega), js_at c, Int.neg_mul, ← Int.sub_eq_add_neg, Int.add_sub_assoc, ← Int.mul_sub]
    congr 2
    congr 2
    omega
  · rw [List.getElem?_eq_none (by rw [List.length_reverse]; omega), List.getElem?_eq_none (by rw [js_len]; omega)]
/-! ### tasks -/
structure Tk where
  root : Int
  s : Int
  d : Nat
  r : Nat
  m : Nat
  lv : Nat
  f : Nat
structure TkOk (par : Int → Int) (lev : Int → Nat) (n d r : Nat) (t : Tk) : Prop where
  hs : t.s = 1 ∨ t.s = -1
  sz : t.m ≤ Lay.hh t.d t.r
  hd : t.d ≤ d
  hr : t.r ≤ r
  fits : Lay.Fits par lev t.f t.d t.r t.root t.s t.m t.lv
  rng : ∀ j, Lay.In t.root t.s t.m j → 1 ≤ j ∧ j < n
  rt : 0 ≤ t.root ∧ t.root ≤ n
def Tk.at_ (t : Tk) : Nat := Lay.sAt t.d t.r t.m
def Tk.nr (t : Tk) : Nat := Lay.sNr t.d t.r t.m
def Tk.top (t : Tk) : Int := t.root + t.s * (t.at_ + 1 : Nat)
def Tk.tA (t : Tk) : Tk := ⟨t.root, t.s, t.d, t.r - 1, t.nr, t.lv, t.f - 1⟩
def Tk.tB (t : Tk) : Tk := ⟨t.top, -t.s, t.d - 1, t.r - 1, t.at_ - t.nr, t.lv + 1, t.f - 1⟩
def Tk.tC (t : Tk) : Tk := ⟨t.top, t.s, t.d - 1, t.r, t.m - 1 - t.at_, t.lv + 1, t.f - 1⟩
structure TkStep (par : Int → Int) (lev : Int → Nat) (n d r : Nat) (t : Tk) : Prop where
  d1 : 1 ≤ t.d
  r1 : 1 ≤ t.r
  ha : t.at_ < t.m
  hn : t.nr ≤ t.at_
  a : TkOk par lev n d r t.tA
  b : TkOk par lev n d r t.tB
  c : TkOk par lev n d r t.tC
  tp : par t.top = t.root
  t1 : 1 ≤ t.top ∧ t.top < n
  cover : ∀ j, Lay.In t.root t.s t.m j → j = t.top ∨ Lay.In t.tA.root t.tA.s t.tA.m j ∨ Lay.In t.tB.root t.tB.s t.tB.m j ∨ Lay.In t.tC.root t.tC.s t.tC.m j
theorem TkOk.step {par : Int → Int} {lev : Int → Nat} {n d r : Nat} {t : Tk} (h : TkOk par lev n d r t) (hm : 1 ≤ t.m) : TkStep par lev n d r t := by
  obtain ⟨root, s, td, tr, m, lv, f⟩ := t
  obtain ⟨hs, sz, hd, hr, fits, rng, rt⟩ := h
  dsimp only at *
  obtain ⟨d1, r1, ha, hn, z1, z2, z3⟩ := Lay.split hm sz
  obtain ⟨i0, i1, i2, i3⟩ := Lay.sub_in (root := root) hs ha hn
  cases f with
  | zero => have e : m = 0 := fits; omega
  | succ f =>
    rcases fits with e | ⟨h1, h2, h3, h4, h5⟩
    · omega
    have tr1 := rng _ i0
    refine ⟨d1, r1, ha, hn, ⟨hs, z1, hd, by show tr - 1 ≤ r; omega, h3, fun j hj => rng j (i1 j hj).1, rt⟩, ⟨Lay.neg_s hs, z2, by show td - 1 ≤ d; omega, by show tr - 1 ≤ r; omega, h4, fun j hj => rng j (i2 j hj).1, ?_⟩, ⟨hs, z3, by show td - 1 ≤ d; omega, hr, h5, fun j hj => rng j (i3 j hj).1, ?_⟩, h1, tr1, fun j hj => ?_⟩
    · exact ⟨Int.le_trans (by decide) tr1.1, Int.le_of_lt tr1.2⟩
    · exact ⟨Int.le_trans (by decide) tr1.1, Int.le_of_lt tr1.2⟩
    · show j = root + s * (Lay.sAt td tr m + 1 : Nat) ∨ Lay.In root s (Lay.sNr td tr m) j ∨ Lay.In (root + s * (Lay.sAt td tr m + 1 : Nat)) (-s) (Lay.sAt td tr m - Lay.sNr td tr m) j ∨ Lay.In (root + s * (Lay.sAt td tr m + 1 : Nat)) s (m - 1 - Lay.sAt td tr m) j
      have hj : Lay.In root s m j := hj
      clear i0 i1 i2 i3 h1 h2 h3 h4 h5 z1 z2 z3 tr1 rng
      generalize Lay.sAt td tr m = a at *
      generalize Lay.sNr td tr m = b at *
      rcases hs with rfl | rfl
      · rw [show root + 1 * ((a + 1 : Nat) : Int) = root + a + 1 by omega]
        unfold Lay.In at *
        omega
      · rw [show root + -1 * ((a + 1 : Nat) : Int) = root - a - 1 by omega]
        unfold Lay.In at *
        omega
def tkMu (W : List Tk) : Nat := (W.map fun t => 3 * t.m + 1).sum
/-- each joint's parent is set, or a task waits for it -/
def Arr (par : Int → Int) (n o : Nat) (A : List V) (W : List Tk) : Prop := ∀ j : Nat, 1 ≤ j → j < n → A[j - o]? = some (.int (par j)) ∨ ∃ t ∈ W, Lay.In t.root t.s t.m j
theorem Arr.none {par : Int → Int} {n o : Nat} {A : List V} {W : List Tk} {t : Tk} (a : Arr par n o A (W ++ [t])) (hm : t.m = 0) : Arr par n o A W := fun j h1 h2 => by
  rcases a j h1 h2 with h | ⟨u, hu, hi⟩
  · exact .inl h
  · rcases List.mem_append.mp hu with hu | hu
    · exact .inr ⟨u, hu, hi⟩
    · rw [List.mem_singleton.mp hu] at hi
      unfold Lay.In at hi
      omega
theorem Arr.set {par : Int → Int} {lev : Int → Nat} {n d r o : Nat} {A : List V} {W W' : List Tk} {t : Tk} (a : Arr par n o A (W ++ [t])) (S : TkStep par lev n d r t) (ho : o ≤ 1) (hA : n - o ≤ A.length) (hn : 1 ≤ n) {k : Nat} (hk : t.top = (k : Int) + o) (h1 : ∀ u ∈ W, u ∈ W') (hA' : t.tA ∈ W') (hB : t.tB ∈ W') (hC : t.tC ∈ W') :
    Arr par n o (A.set k (.int t.root)) W' := fun j j1 j2 => by
  have tt := S.t1
  have hkl : k < A.length := by omega
  by_cases c : j - o = k
  · refine .inl ?_
    rw [c, List.getElem?_set_self hkl]
    have : t.top = (j : Int) := by omega
    rw [← this, S.tp]
  rw [List.getElem?_set_ne (fun e => c e.symm)]
  rcases a j j1 j2 with h | ⟨u, hu, hi⟩
  · exact .inl h
  refine .inr ?_
  rcases List.mem_append.mp hu with hu | hu
  · exact ⟨u, h1 u hu, hi⟩
  · rw [List.mem_singleton.mp hu] at hi
    rcases S.cover j hi with e | e | e | e
    · exfalso; omega
    · exact ⟨_, hA', e⟩
    · exact ⟨_, hB, e⟩
    · exact ⟨_, hC, e⟩
/-- the answer -/
def parL (par : Int → Int) (n : Nat) : List Int := (List.range (n - 1)).map fun (k : Nat) => par ((k : Int) + 1)
theorem Arr.done0 {par : Int → Int} {n : Nat} {A : List V} (a : Arr par n 1 A []) (hA : A.length = n - 1) : A = (parL par n).map V.int := by
  apply List.ext_getElem?
  intro i
  unfold parL
  by_cases c : i < n - 1
  · rcases a (i + 1) (by omega) (by omega) with h | ⟨u, hu, _⟩
    · rw [List.getElem?_map, List.getElem?_map, List.getElem?_range c]
      rw [show i + 1 - 1 = i by omega] at h
      rw [h]
      simp
    · cases hu
  · rw [List.getElem?_eq_none (by omega), List.getElem?_eq_none (by simp; omega)]
theorem Arr.done1 {par : Int → Int} {n : Nat} {A : List V} (a : Arr par n 0 A []) (hA : A.length = n + 1) (hn : 1 ≤ n) : (A.drop 1).take (n - 1) = (parL par n).map V.int := by
  apply List.ext_getElem?
  intro i
  unfold parL
  by_cases c : i < n - 1
  · rcases a (i + 1) (by omega) (by omega) with h | ⟨u, hu, _⟩
    · rw [List.getElem?_take, if_pos c, List.getElem?_drop, List.getElem?_map, List.getElem?_map, List.getElem?_range c]
      rw [show i + 1 - 0 = 1 + i by omega] at h
      rw [h]
      simp [Int.add_comm]
    · cases hu
  · rw [List.getElem?_eq_none (by rw [List.length_take, List.length_drop]; omega), List.getElem?_eq_none (by simp; omega)]
/-- the two tasks of the start -/
def tk0 (n d r : Nat) : Tk := ⟨0, 1, d, r, min (n - 1) (Lay.hh d r), 0, n⟩
def tk1 (n d r : Nat) : Tk := ⟨n, -1, d, r, n - 1 - min (n - 1) (Lay.hh d r), 0, n⟩
theorem tk_start {par : Int → Int} {lev : Int → Nat} {n d r : Nat} (B : Lay.Built par lev n d r) (h : n ≤ Del.D d r) (hn : 1 ≤ n) : TkOk par lev n d r (tk0 n d r) ∧ TkOk par lev n d r (tk1 n d r) := by
  obtain ⟨z1, z2⟩ := Lay.top_sz h
  refine ⟨⟨.inl rfl, z1, Nat.le_refl _, Nat.le_refl _, B.a, fun j hj => ?_, by show (0 : Int) ≤ 0; decide, by show (0 : Int) ≤ n; omega⟩, ⟨.inr rfl, z2, Nat.le_refl _, Nat.le_refl _, B.b, fun j hj => ?_, by show (0 : Int) ≤ n; omega, Int.le_refl _⟩⟩
  · simp only [tk0] at hj
    unfold Lay.In at hj
    omega
  · simp only [tk1] at hj
    unfold Lay.In at hj
    omega
theorem arr_start {par : Int → Int} {n d r o : Nat} (A : List V) (W : List Tk) (h0 : tk0 n d r ∈ W) (h1 : tk1 n d r ∈ W) : Arr par n o A W := fun j j1 j2 => by
  by_cases c : j ≤ min (n - 1) (Lay.hh d r)
  · exact .inr ⟨_, h0, by simp only [tk0]; unfold Lay.In; omega⟩
  · exact .inr ⟨_, h1, by simp only [tk1]; unfold Lay.In; omega⟩
end L3
set_option maxRecDepth 100000
set_option maxHeartbeats 0
namespace K26
open PySem PySem.Spec PyProof.Rows L2 L3
/-! ### where the defs stand -/
def top (i : Nat) : Stmt := PySem.Challenge.pw_toldoutside_k26_built_layouts.main.body.getD i (.Pass ⟨0, 0, 0, 0⟩)
abbrev s_bound : Stmt := top 20
abbrev s_next_row : Stmt := top 22
abbrev s_bound_small : Stmt := top 23
abbrev s_least_other : Stmt := top 24
abbrev s_least_changed : Stmt := top 25
abbrev s_halves : Stmt := top 26
abbrev s_index_layout : Stmt := top 28
abbrev s_hang : Stmt := top 29
abbrev s__law_source : Stmt := top 31
abbrev s__law_pick : Stmt := top 32
abbrev s__law_same : Stmt := top 33
abbrev s__law_fault : Stmt := top 34
abbrev s__law_reach : Stmt := top 35
abbrev s__law_layout : Stmt := top 36
abbrev s__law_f_asked : Stmt := top 37
abbrev s__law_f_keeps : Stmt := top 38
abbrev s__law_f_size : Stmt := top 39
abbrev s_law : Stmt := top 40
abbrev i_TooMany : Stmt := inClass (top 2) 0
abbrev i_BadText : Stmt := inClass (top 3) 0
abbrev i_BadFormat : Stmt := inClass (top 4) 0
abbrev i_BadValue : Stmt := inClass (top 5) 0
abbrev i_BadShape : Stmt := inClass (top 6) 0
abbrev i_BadRow : Stmt := inClass (top 7) 0
abbrev i_BadSet : Stmt := inClass (top 8) 0
abbrev i_BadReader : Stmt := inClass (top 9) 0
abbrev i_BadLayout : Stmt := inClass (top 10) 0
abbrev i_BadCheck : Stmt := inClass (top 11) 0
abbrev i_BadCode : Stmt := inClass (top 12) 0
abbrev i_BadFeed : Stmt := inClass (top 13) 0
abbrev i_BadEdit : Stmt := inClass (top 14) 0
abbrev i_BadPatch : Stmt := inClass (top 15) 0
abbrev i_BadPaper : Stmt := inClass (top 16) 0
abbrev i_BadDeed : Stmt := inClass (top 17) 0
/-! ### what the head tells -/
def errs : List Str := (["TooMany", "BadText", "BadFormat", "BadValue", "BadShape", "BadRow", "BadSet", "BadReader", "BadLayout", "BadCheck", "BadCode", "BadFeed", "BadEdit", "BadPatch", "BadPaper", "BadDeed"] : List Str)
structure Txt (w : World) (K : PySem.W.Frag) (mg : Str → Option Value) : Prop where
  g_bound : mg "bound" = some (.ref (He.ga K "bound"))
  d_bound : ∃ fd, FunD K "bound" "bound" (defArgs s_bound) (defBody s_bound) (defScope s_bound) [] [] (He.ga K "bound") fd
  g_next_row : mg "next_row" = some (.ref (He.ga K "next_row"))
  d_next_row : ∃ fd, FunD K "next_row" "next_row" (defArgs s_next_row) (defBody s_next_row) (defScope s_next_row) [] [] (He.ga K "next_row") fd
  g_bound_small : mg "bound_small" = some (.ref (He.ga K "bound_small"))
  d_bound_small : ∃ fd, FunD K "bound_small" "bound_small" (defArgs s_bound_small) (defBody s_bound_small) (defScope s_bound_small) [] [] (He.ga K "bound_small") fd
  g_least_other : mg "least_other" = some (.ref (He.ga K "least_other"))
  d_least_other : ∃ fd, FunD K "least_other" "least_other" (defArgs s_least_other) (defBody s_least_other) (defScope s_least_other) [] [] (He.ga K "least_other") fd
  g_least_changed : mg "least_changed" = some (.ref (He.ga K "least_changed"))
  d_least_changed : ∃ fd, FunD K "least_changed" "least_changed" (defArgs s_least_changed) (defBody s_least_changed) (defScope s_least_changed) [] [] (He.ga K "least_changed") fd
  g_halves : mg "halves" = some (.ref (He.ga K "halves"))
  d_halves : ∃ fd, FunD K "halves" "halves" (defArgs s_halves) (defBody s_halves) (defScope s_halves) [] [] (He.ga K "halves") fd
  g_index_layout : mg "index_layout" = some (.ref (He.ga K "index_layout"))
  d_index_layout : ∃ fd, FunD K "index_layout" "index_layout" (defArgs s_index_layout) (defBody s_index_layout) (defScope s_index_layout) [] [] (He.ga K "index_layout") fd
  g_hang : mg "hang" = some (.ref (He.ga K "hang"))
  d_hang : ∃ fd, FunD K "hang" "hang" (defArgs s_hang) (defBody s_hang) (defScope s_hang) [] [] (He.ga K "hang") fd
  g__law_source : mg "_law_source" = some (.ref (He.ga K "_law_source"))
  d__law_source : ∃ fd, FunD K "_law_source" "_law_source" (defArgs s__law_source) (defBody s__law_source) (defScope s__law_source) [] [] (He.ga K "_law_source") fd
  g__law_pick : mg "_law_pick" = some (.ref (He.ga K "_law_pick"))
  d__law_pick : ∃ fd, FunD K "_law_pick" "_law_pick" (defArgs s__law_pick) (defBody s__law_pick) (defScope s__law_pick) [] [] (He.ga K "_law_pick") fd
  g__law_same : mg "_law_same" = some (.ref (He.ga K "_law_same"))
  d__law_same : ∃ fd, FunD K "_law_same" "_law_same" (defArgs s__law_same) (defBody s__law_same) (defScope s__law_same) [] [] (He.ga K "_law_same") fd
  g__law_fault : mg "_law_fault" = some (.ref (He.ga K "_law_fault"))
  d__law_fault : ∃ fd, FunD K "_law_fault" "_law_fault" (defArgs s__law_fault) (defBody s__law_fault) (defScope s__law_fault) [] [] (He.ga K "_law_fault") fd
  g__law_reach : mg "_law_reach" = some (.ref (He.ga K "_law_reach"))
  d__law_reach : ∃ fd, FunD K "_law_reach" "_law_reach" (defArgs s__law_reach) (defBody s__law_reach) (defScope s__law_reach) [] [] (He.ga K "_law_reach") fd
  g__law_layout : mg "_law_layout" = some (.ref (He.ga K "_law_layout"))
  d__law_layout : ∃ fd, FunD K "_law_layout" "_law_layout" (defArgs s__law_layout) (defBody s__law_layout) (defScope s__law_layout) [] [] (He.ga K "_law_layout") fd
  g__law_f_asked : mg "_law_f_asked" = some (.ref (He.ga K "_law_f_asked"))
  d__law_f_asked : ∃ fd, FunD K "_law_f_asked" "_law_f_asked" (defArgs s__law_f_asked) (defBody s__law_f_asked) (defScope s__law_f_asked) [] [] (He.ga K "_law_f_asked") fd
  g__law_f_keeps : mg "_law_f_keeps" = some (.ref (He.ga K "_law_f_keeps"))
  d__law_f_keeps : ∃ fd, FunD K "_law_f_keeps" "_law_f_keeps" (defArgs s__law_f_keeps) (defBody s__law_f_keeps) (defScope s__law_f_keeps) [] [] (He.ga K "_law_f_keeps") fd
  g__law_f_size : mg "_law_f_size" = some (.ref (He.ga K "_law_f_size"))
  d__law_f_size : ∃ fd, FunD K "_law_f_size" "_law_f_size" (defArgs s__law_f_size) (defBody s__law_f_size) (defScope s__law_f_size) [] [] (He.ga K "_law_f_size") fd
  g_law : mg "law" = some (.ref (He.ga K "law"))
  d_law : ∃ fd, FunD K "law" "law" (defArgs s_law) (defBody s_law) (defScope s_law) [] [] (He.ga K "law") fd
  g_TooMany : mg "TooMany" = some (.ref (He.ga K "TooMany"))
  e_TooMany : ErrC K "TooMany" (["what"] : List Str)
  d_TooMany : ∃ fd, FunD K "__init__" "TooMany.__init__" (defArgs i_TooMany) (defBody i_TooMany) (defScope i_TooMany) [] [] (He.ma K (He.ga K "TooMany") "__init__") fd
  g_BadText : mg "BadText" = some (.ref (He.ga K "BadText"))
  e_BadText : ErrC K "BadText" (["line"] : List Str)
  d_BadText : ∃ fd, FunD K "__init__" "BadText.__init__" (defArgs i_BadText) (defBody i_BadText) (defScope i_BadText) [] [] (He.ma K (He.ga K "BadText") "__init__") fd
  g_BadFormat : mg "BadFormat" = some (.ref (He.ga K "BadFormat"))
  e_BadFormat : ErrC K "BadFormat" (["line", "what"] : List Str)
  d_BadFormat : ∃ fd, FunD K "__init__" "BadFormat.__init__" (defArgs i_BadFormat) (defBody i_BadFormat) (defScope i_BadFormat) [] [] (He.ma K (He.ga K "BadFormat") "__init__") fd
  g_BadValue : mg "BadValue" = some (.ref (He.ga K "BadValue"))
  e_BadValue : ErrC K "BadValue" (["path", "what"] : List Str)
  d_BadValue : ∃ fd, FunD K "__init__" "BadValue.__init__" (defArgs i_BadValue) (defBody i_BadValue) (defScope i_BadValue) [] [] (He.ma K (He.ga K "BadValue") "__init__") fd
  g_BadShape : mg "BadShape" = some (.ref (He.ga K "BadShape"))
  e_BadShape : ErrC K "BadShape" (["place"] : List Str)
  d_BadShape : ∃ fd, FunD K "__init__" "BadShape.__init__" (defArgs i_BadShape) (defBody i_BadShape) (defScope i_BadShape) [] [] (He.ma K (He.ga K "BadShape") "__init__") fd
  g_BadRow : mg "BadRow" = some (.ref (He.ga K "BadRow"))
  e_BadRow : ErrC K "BadRow" (["what", "place"] : List Str)
  d_BadRow : ∃ fd, FunD K "__init__" "BadRow.__init__" (defArgs i_BadRow) (defBody i_BadRow) (defScope i_BadRow) [] [] (He.ma K (He.ga K "BadRow") "__init__") fd
  g_BadSet : mg "BadSet" = some (.ref (He.ga K "BadSet"))
  e_BadSet : ErrC K "BadSet" (["place", "joint"] : List Str)
  d_BadSet : ∃ fd, FunD K "__init__" "BadSet.__init__" (defArgs i_BadSet) (defBody i_BadSet) (defScope i_BadSet) [] [] (He.ma K (He.ga K "BadSet") "__init__") fd
  g_BadReader : mg "BadReader" = some (.ref (He.ga K "BadReader"))
  e_BadReader : ErrC K "BadReader" (["step", "what"] : List Str)
  d_BadReader : ∃ fd, FunD K "__init__" "BadReader.__init__" (defArgs i_BadReader) (defBody i_BadReader) (defScope i_BadReader) [] [] (He.ma K (He.ga K "BadReader") "__init__") fd
  g_BadLayout : mg "BadLayout" = some (.ref (He.ga K "BadLayout"))
  e_BadLayout : ErrC K "BadLayout" (["what"] : List Str)
  d_BadLayout : ∃ fd, FunD K "__init__" "BadLayout.__init__" (defArgs i_BadLayout) (defBody i_BadLayout) (defScope i_BadLayout) [] [] (He.ma K (He.ga K "BadLayout") "__init__") fd
  g_BadCheck : mg "BadCheck" = some (.ref (He.ga K "BadCheck"))
  e_BadCheck : ErrC K "BadCheck" (["what"] : List Str)
  d_BadCheck : ∃ fd, FunD K "__init__" "BadCheck.__init__" (defArgs i_BadCheck) (defBody i_BadCheck) (defScope i_BadCheck) [] [] (He.ma K (He.ga K "BadCheck") "__init__") fd
  g_BadCode : mg "BadCode" = some (.ref (He.ga K "BadCode"))
  e_BadCode : ErrC K "BadCode" (["row", "what"] : List Str)
  d_BadCode : ∃ fd, FunD K "__init__" "BadCode.__init__" (defArgs i_BadCode) (defBody i_BadCode) (defScope i_BadCode) [] [] (He.ma K (He.ga K "BadCode") "__init__") fd
  g_BadFeed : mg "BadFeed" = some (.ref (He.ga K "BadFeed"))
  e_BadFeed : ErrC K "BadFeed" (["what"] : List Str)
  d_BadFeed : ∃ fd, FunD K "__init__" "BadFeed.__init__" (defArgs i_BadFeed) (defBody i_BadFeed) (defScope i_BadFeed) [] [] (He.ma K (He.ga K "BadFeed") "__init__") fd
  g_BadEdit : mg "BadEdit" = some (.ref (He.ga K "BadEdit"))
  e_BadEdit : ErrC K "BadEdit" (["what"] : List Str)
  d_BadEdit : ∃ fd, FunD K "__init__" "BadEdit.__init__" (defArgs i_BadEdit) (defBody i_BadEdit) (defScope i_BadEdit) [] [] (He.ma K (He.ga K "BadEdit") "__init__") fd
  g_BadPatch : mg "BadPatch" = some (.ref (He.ga K "BadPatch"))
  e_BadPatch : ErrC K "BadPatch" (["row", "what"] : List Str)
  d_BadPatch : ∃ fd, FunD K "__init__" "BadPatch.__init__" (defArgs i_BadPatch) (defBody i_BadPatch) (defScope i_BadPatch) [] [] (He.ma K (He.ga K "BadPatch") "__init__") fd
  g_BadPaper : mg "BadPaper" = some (.ref (He.ga K "BadPaper"))
  e_BadPaper : ErrC K "BadPaper" (["line"] : List Str)
  d_BadPaper : ∃ fd, FunD K "__init__" "BadPaper.__init__" (defArgs i_BadPaper) (defBody i_BadPaper) (defScope i_BadPaper) [] [] (He.ma K (He.ga K "BadPaper") "__init__") fd
  g_BadDeed : mg "BadDeed" = some (.ref (He.ga K "BadDeed"))
  e_BadDeed : ErrC K "BadDeed" (["what"] : List Str)
  d_BadDeed : ∃ fd, FunD K "__init__" "BadDeed.__init__" (defArgs i_BadDeed) (defBody i_BadDeed) (defScope i_BadDeed) [] [] (He.ma K (He.ga K "BadDeed") "__init__") fd
  g_OutsideError : mg "OutsideError" = some (.ref (He.ga K "OutsideError"))
  kits : Kits K "OutsideError" errs
  g_LIMITS : mg "LIMITS" = some (.ref (He.ga K "LIMITS"))
  t_LIMITS : ∀ k i, (k, i) ∈ ([("lines", 300), ("words", 40), ("bears", 3), ("checks", 6), ("letters", 8), ("states", 12), ("forms", 12), ("parts", 8), ("told", 24), ("pick", 6), ("width", 30), ("copies", 7), ("depth", 6), ("versions", 9), ("promises", 20), ("edits", 100), ("number", 1000000000000000000000000000000), ("nested", 60), ("shape", 400), ("elements", 400), ("signs", 4000), ("sets", 64), ("ways", 7), ("asks", 300), ("layout", 400), ("reach", 10000), ("deeds", 200), ("paper", 4000)] : List (Str × Int)) → KDct K w (He.ga K "LIMITS") k (.int i)
  f_ValueError : mg "ValueError" = none
  f_range : mg "range" = none
  f_min : mg "min" = none
  f_isinstance : mg "isinstance" = none
  f_dict : mg "dict" = none
  f_len : mg "len" = none
  f_int : mg "int" = none
  f_abs : mg "abs" = none
  f_list : mg "list" = none
  f_tuple : mg "tuple" = none
  f_all : mg "all" = none
  f_max : mg "max" = none
  f_bool : mg "bool" = none
  f_str : mg "str" = none
  f_sum : mg "sum" = none
  f_sorted : mg "sorted" = none
def fa : List He.Fa := [.glo "bound", .glo "next_row", .glo "bound_small", .glo "least_other", .glo "least_changed", .glo "halves", .glo "index_layout", .glo "hang", .glo "_law_source", .glo "_law_pick", .glo "_law_same", .glo "_law_fault", .glo "_law_reach", .glo "_law_layout", .glo "_law_f_asked", .glo "_law_f_keeps", .glo "_law_f_size", .glo "law", .glo "TooMany", .glo "BadText", .glo "BadFormat", .glo "BadValue", .glo "BadShape", .glo "BadRow", .glo "BadSet", .glo "BadReader", .glo "BadLayout", .glo "BadCheck", .glo "BadCode", .glo "BadFeed", .glo "BadEdit", .glo "BadPatch", .glo "BadPaper", .glo "BadDeed", .glo "OutsideError", .glo "LIMITS", .free "ValueError", .free "range", .free "min", .free "isinstance", .free "dict", .free "len", .free "int", .free "abs", .free "list", .free "tuple", .free "all", .free "max", .free "bool", .free "str", .free "sum", .free "sorted"]
def fn : List He.DefD := [
  ⟨("bound", none), "bound", "bound", defArgs s_bound, defBody s_bound, defScope s_bound, [], []⟩,
  ⟨("next_row", none), "next_row", "next_row", defArgs s_next_row, defBody s_next_row, defScope s_next_row, [], []⟩,
  ⟨("bound_small", none), "bound_small", "bound_small", defArgs s_bound_small, defBody s_bound_small, defScope s_bound_small, [], []⟩,
  ⟨("least_other", none), "least_other", "least_other", defArgs s_least_other, defBody s_least_other, defScope s_least_other, [], []⟩,
  ⟨("least_changed", none), "least_changed", "least_changed", defArgs s_least_changed, defBody s_least_changed, defScope s_least_changed, [], []⟩,
  ⟨("halves", none), "halves", "halves", defArgs s_halves, defBody s_halves, defScope s_halves, [], []⟩,
  ⟨("index_layout", none), "index_layout", "index_layout", defArgs s_index_layout, defBody s_index_layout, defScope s_index_layout, [], []⟩,
  ⟨("hang", none), "hang", "hang", defArgs s_hang, defBody s_hang, defScope s_hang, [], []⟩,
  ⟨("_law_source", none), "_law_source", "_law_source", defArgs s__law_source, defBody s__law_source, defScope s__law_source, [], []⟩,
  ⟨("_law_pick", none), "_law_pick", "_law_pick", defArgs s__law_pick, defBody s__law_pick, defScope s__law_pick, [], []⟩,
  ⟨("_law_same", none), "_law_same", "_law_same", defArgs s__law_same, defBody s__law_same, defScope s__law_same, [], []⟩,
  ⟨("_law_fault", none), "_law_fault", "_law_fault", defArgs s__law_fault, defBody s__law_fault, defScope s__law_fault, [], []⟩,
  ⟨("_law_reach", none), "_law_reach", "_law_reach", defArgs s__law_reach, defBody s__law_reach, defScope s__law_reach, [], []⟩,
  ⟨("_law_layout", none), "_law_layout", "_law_layout", defArgs s__law_layout, defBody s__law_layout, defScope s__law_layout, [], []⟩,
  ⟨("_law_f_asked", none), "_law_f_asked", "_law_f_asked", defArgs s__law_f_asked, defBody s__law_f_asked, defScope s__law_f_asked, [], []⟩,
  ⟨("_law_f_keeps", none), "_law_f_keeps", "_law_f_keeps", defArgs s__law_f_keeps, defBody s__law_f_keeps, defScope s__law_f_keeps, [], []⟩,
  ⟨("_law_f_size", none), "_law_f_size", "_law_f_size", defArgs s__law_f_size, defBody s__law_f_size, defScope s__law_f_size, [], []⟩,
  ⟨("law", none), "law", "law", defArgs s_law, defBody s_law, defScope s_law, [], []⟩,
  ⟨("TooMany", some "__init__"), "__init__", "TooMany.__init__", defArgs i_TooMany, defBody i_TooMany, defScope i_TooMany, [], []⟩,
  ⟨("BadText", some "__init__"), "__init__", "BadText.__init__", defArgs i_BadText, defBody i_BadText, defScope i_BadText, [], []⟩,
  ⟨("BadFormat", some "__init__"), "__init__", "BadFormat.__init__", defArgs i_BadFormat, defBody i_BadFormat, defScope i_BadFormat, [], []⟩,
  ⟨("BadValue", some "__init__"), "__init__", "BadValue.__init__", defArgs i_BadValue, defBody i_BadValue, defScope i_BadValue, [], []⟩,
  ⟨("BadShape", some "__init__"), "__init__", "BadShape.__init__", defArgs i_BadShape, defBody i_BadShape, defScope i_BadShape, [], []⟩,
  ⟨("BadRow", some "__init__"), "__init__", "BadRow.__init__", defArgs i_BadRow, defBody i_BadRow, defScope i_BadRow, [], []⟩,
  ⟨("BadSet", some "__init__"), "__init__", "BadSet.__init__", defArgs i_BadSet, defBody i_BadSet, defScope i_BadSet, [], []⟩,
  ⟨("BadReader", some "__init__"), "__init__", "BadReader.__init__", defArgs i_BadReader, defBody i_BadReader, defScope i_BadReader, [], []⟩,
  ⟨("BadLayout", some "__init__"), "__init__", "BadLayout.__init__", defArgs i_BadLayout, defBody i_BadLayout, defScope i_BadLayout, [], []⟩,
  ⟨("BadCheck", some "__init__"), "__init__", "BadCheck.__init__", defArgs i_BadCheck, defBody i_BadCheck, defScope i_BadCheck, [], []⟩,
  ⟨("BadCode", some "__init__"), "__init__", "BadCode.__init__", defArgs i_BadCode, defBody i_BadCode, defScope i_BadCode, [], []⟩,
  ⟨("BadFeed", some "__init__"), "__init__", "BadFeed.__init__", defArgs i_BadFeed, defBody i_BadFeed, defScope i_BadFeed, [], []⟩,
  ⟨("BadEdit", some "__init__"), "__init__", "BadEdit.__init__", defArgs i_BadEdit, defBody i_BadEdit, defScope i_BadEdit, [], []⟩,
  ⟨("BadPatch", some "__init__"), "__init__", "BadPatch.__init__", defArgs i_BadPatch, defBody i_BadPatch, defScope i_BadPatch, [], []⟩,
  ⟨("BadPaper", some "__init__"), "__init__", "BadPaper.__init__", defArgs i_BadPaper, defBody i_BadPaper, defScope i_BadPaper, [], []⟩,
  ⟨("BadDeed", some "__init__"), "__init__", "BadDeed.__init__", defArgs i_BadDeed, defBody i_BadDeed, defScope i_BadDeed, [], []⟩]
def ts : List He.Tab := [(fun K => He.ga K "LIMITS", (["lines", "words", "bears", "checks", "letters", "states", "forms", "parts", "told", "pick", "width", "copies", "depth", "versions", "promises", "edits", "number", "nested", "shape", "elements", "signs", "sets", "ways", "asks", "layout", "reach", "deeds", "paper"] : List Str))]
def kv_LIMITS : List (Str × Int) := [("lines", 300), ("words", 40), ("bears", 3), ("checks", 6), ("letters", 8), ("states", 12), ("forms", 12), ("parts", 8), ("told", 24), ("pick", 6), ("width", 30), ("copies", 7), ("depth", 6), ("versions", 9), ("promises", 20), ("edits", 100), ("number", 1000000000000000000000000000000), ("nested", 60), ("shape", 400), ("elements", 400), ("signs", 4000), ("sets", 64), ("ways", 7), ("asks", 300), ("layout", 400), ("reach", 10000), ("deeds", 200), ("paper", 4000)]
def exs : List (PySem.W.Frag → Bool) := [fun K => kitsB K "OutsideError" errs, fun K => errB K "TooMany" (["what"] : List Str), fun K => errB K "BadText" (["line"] : List Str), fun K => errB K "BadFormat" (["line", "what"] : List Str), fun K => errB K "BadValue" (["path", "what"] : List Str), fun K => errB K "BadShape" (["place"] : List Str), fun K => errB K "BadRow" (["what", "place"] : List Str), fun K => errB K "BadSet" (["place", "joint"] : List Str), fun K => errB K "BadReader" (["step", "what"] : List Str), fun K => errB K "BadLayout" (["what"] : List Str), fun K => errB K "BadCheck" (["what"] : List Str), fun K => errB K "BadCode" (["row", "what"] : List Str), fun K => errB K "BadFeed" (["what"] : List Str), fun K => errB K "BadEdit" (["what"] : List Str), fun K => errB K "BadPatch" (["row", "what"] : List Str), fun K => errB K "BadPaper" (["line"] : List Str), fun K => errB K "BadDeed" (["what"] : List Str), fun K => tabB K "LIMITS" kv_LIMITS]
def ex (K : PySem.W.Frag) : Bool := exs.all fun f => f K
abbrev R : PySem.W.OpenRow := PySem.W.OpenLaw.row PySem.Challenge.rw_toldoutside_k26_built_layouts
abbrev hk : PySem.W.Hook := He.hookX 6 fa fn ts [] ex
def ob (s : PySem.W.SharedT) : He.AlX := He.obsX 6 fa fn ts [] ex (HandSHeadRun.getT s)
theorem ob_eq (s : PySem.W.SharedT) : ob s = hk.obs s.abs := He.obsX_eq (HandSHeadRun.getT_eq s)
def nm0 : List Str := (["OutsideError", "TooMany", "BadText", "BadFormat", "BadValue", "BadShape", "BadRow", "BadSet", "BadReader", "BadLayout", "BadCheck", "BadCode"] : List Str)
def nm1 : List Str := (["BadFeed", "BadEdit", "BadPatch", "BadPaper", "BadDeed", "LIMITS", "bound", "next_row", "bound_small", "least_other", "least_changed", "halves"] : List Str)
def nm2 : List Str := (["index_layout", "hang", "_law_source", "_law_pick", "_law_same", "_law_fault", "_law_reach", "_law_layout", "_law_f_asked", "_law_f_keeps", "_law_f_size"] : List Str)
def nms : List Str := nm0 ++ nm1 ++ nm2
theorem run_false (w : World) : HandSHeadRun.RunEq R (PySem.W.view R.prog [40]) hk ob 6000 nms (w.withFollow "special-get-raises" false) := by
  intro os
  kernel_rfl
theorem run_true (w : World) : HandSHeadRun.RunEq R (PySem.W.view R.prog [40]) hk ob 6000 nms (w.withFollow "special-get-raises" true) := by
  intro os
  kernel_rfl
theorem run (w : World) : HandSHeadRun.RunEq R (PySem.W.view R.prog [40]) hk ob 6000 nms w := by
  have h : ∀ b : Bool, HandSHeadRun.RunEq R (PySem.W.view R.prog [40]) hk ob 6000 nms (w.withFollow "special-get-raises" b) := fun b => by
    cases b
    · exact run_false w
    · exact run_true w
  have z := h (w.params.followText "special-get-raises")
  rwa [World.withFollow_self] at z
theorem txt {w : World} {h : Heap} {K : PySem.W.Frag} {mg : Str → Option Value} (X : K.In h) (G : h.Ns mainGlobals mg) (c : He.SaysX fa fn ts [] ex w h K) : Txt w K mg := by
  have D := c.t.d
  have E : ∀ i (f : PySem.W.Frag → Bool), exs[i]? = some f → f K = true := fun i (f : PySem.W.Frag → Bool) e => List.all_eq_true.mp c.more f (List.mem_of_getElem? e)
  refine {
    g_bound := He.glo_ok X G (D.fact 0 (f := .glo "bound") rfl)
    g_next_row := He.glo_ok X G (D.fact 1 (f := .glo "next_row") rfl)
    g_bound_small := He.glo_ok X G (D.fact 2 (f := .glo "bound_small") rfl)
    g_least_other := He.glo_ok X G (D.fact 3 (f := .glo "least_other") rfl)
    g_least_changed := He.glo_ok X G (D.fact 4 (f := .glo "least_changed") rfl)
    g_halves := He.glo_ok X G (D.fact 5 (f := .glo "halves") rfl)
    g_index_layout := He.glo_ok X G (D.fact 6 (f := .glo "index_layout") rfl)
    g_hang := He.glo_ok X G (D.fact 7 (f := .glo "hang") rfl)
    g__law_source := He.glo_ok X G (D.fact 8 (f := .glo "_law_source") rfl)
    g__law_pick := He.glo_ok X G (D.fact 9 (f := .glo "_law_pick") rfl)
    g__law_same := He.glo_ok X G (D.fact 10 (f := .glo "_law_same") rfl)
    g__law_fault := He.glo_ok X G (D.fact 11 (f := .glo "_law_fault") rfl)
    g__law_reach := He.glo_ok X G (D.fact 12 (f := .glo "_law_reach") rfl)
    g__law_layout := He.glo_ok X G (D.fact 13 (f := .glo "_law_layout") rfl)
    g__law_f_asked := He.glo_ok X G (D.fact 14 (f := .glo "_law_f_asked") rfl)
    g__law_f_keeps := He.glo_ok X G (D.fact 15 (f := .glo "_law_f_keeps") rfl)
    g__law_f_size := He.glo_ok X G (D.fact 16 (f := .glo "_law_f_size") rfl)
    g_law := He.glo_ok X G (D.fact 17 (f := .glo "law") rfl)
    g_TooMany := He.glo_ok X G (D.fact 18 (f := .glo "TooMany") rfl)
    g_BadText := He.glo_ok X G (D.fact 19 (f := .glo "BadText") rfl)
    g_BadFormat := He.glo_ok X G (D.fact 20 (f := .glo "BadFormat") rfl)
    g_BadValue := He.glo_ok X G (D.fact 21 (f := .glo "BadValue") rfl)
    g_BadShape := He.glo_ok X G (D.fact 22 (f := .glo "BadShape") rfl)
    g_BadRow := He.glo_ok X G (D.fact 23 (f := .glo "BadRow") rfl)
    g_BadSet := He.glo_ok X G (D.fact 24 (f := .glo "BadSet") rfl)
    g_BadReader := He.glo_ok X G (D.fact 25 (f := .glo "BadReader") rfl)
    g_BadLayout := He.glo_ok X G (D.fact 26 (f := .glo "BadLayout") rfl)
    g_BadCheck := He.glo_ok X G (D.fact 27 (f := .glo "BadCheck") rfl)
    g_BadCode := He.glo_ok X G (D.fact 28 (f := .glo "BadCode") rfl)
    g_BadFeed := He.glo_ok X G (D.fact 29 (f := .glo "BadFeed") rfl)
    g_BadEdit := He.glo_ok X G (D.fact 30 (f := .glo "BadEdit") rfl)
    g_BadPatch := He.glo_ok X G (D.fact 31 (f := .glo "BadPatch") rfl)
    g_BadPaper := He.glo_ok X G (D.fact 32 (f := .glo "BadPaper") rfl)
    g_BadDeed := He.glo_ok X G (D.fact 33 (f := .glo "BadDeed") rfl)
    g_OutsideError := He.glo_ok X G (D.fact 34 (f := .glo "OutsideError") rfl)
    g_LIMITS := He.glo_ok X G (D.fact 35 (f := .glo "LIMITS") rfl)
    f_ValueError := He.free_ok X G (D.fact 36 (f := .free "ValueError") rfl)
    f_range := He.free_ok X G (D.fact 37 (f := .free "range") rfl)
    f_min := He.free_ok X G (D.fact 38 (f := .free "min") rfl)
    f_isinstance := He.free_ok X G (D.fact 39 (f := .free "isinstance") rfl)
    f_dict := He.free_ok X G (D.fact 40 (f := .free "dict") rfl)
    f_len := He.free_ok X G (D.fact 41 (f := .free "len") rfl)
    f_int := He.free_ok X G (D.fact 42 (f := .free "int") rfl)
    f_abs := He.free_ok X G (D.fact 43 (f := .free "abs") rfl)
    f_list := He.free_ok X G (D.fact 44 (f := .free "list") rfl)
    f_tuple := He.free_ok X G (D.fact 45 (f := .free "tuple") rfl)
    f_all := He.free_ok X G (D.fact 46 (f := .free "all") rfl)
    f_max := He.free_ok X G (D.fact 47 (f := .free "max") rfl)
    f_bool := He.free_ok X G (D.fact 48 (f := .free "bool") rfl)
    f_str := He.free_ok X G (D.fact 49 (f := .free "str") rfl)
    f_sum := He.free_ok X G (D.fact 50 (f := .free "sum") rfl)
    f_sorted := He.free_ok X G (D.fact 51 (f := .free "sorted") rfl)
    d_bound := D.def_ 0 rfl
    d_next_row := D.def_ 1 rfl
    d_bound_small := D.def_ 2 rfl
    d_least_other := D.def_ 3 rfl
    d_least_changed := D.def_ 4 rfl
    d_halves := D.def_ 5 rfl
    d_index_layout := D.def_ 6 rfl
    d_hang := D.def_ 7 rfl
    d__law_source := D.def_ 8 rfl
    d__law_pick := D.def_ 9 rfl
    d__law_same := D.def_ 10 rfl
    d__law_fault := D.def_ 11 rfl
    d__law_reach := D.def_ 12 rfl
    d__law_layout := D.def_ 13 rfl
    d__law_f_asked := D.def_ 14 rfl
    d__law_f_keeps := D.def_ 15 rfl
    d__law_f_size := D.def_ 16 rfl
    d_law := D.def_ 17 rfl
    d_TooMany := D.def_ 18 rfl
    d_BadText := D.def_ 19 rfl
    d_BadFormat := D.def_ 20 rfl
    d_BadValue := D.def_ 21 rfl
    d_BadShape := D.def_ 22 rfl
    d_BadRow := D.def_ 23 rfl
    d_BadSet := D.def_ 24 rfl
    d_BadReader := D.def_ 25 rfl
    d_BadLayout := D.def_ 26 rfl
    d_BadCheck := D.def_ 27 rfl
    d_BadCode := D.def_ 28 rfl
    d_BadFeed := D.def_ 29 rfl
    d_BadEdit := D.def_ 30 rfl
    d_BadPatch := D.def_ 31 rfl
    d_BadPaper := D.def_ 32 rfl
    d_BadDeed := D.def_ 33 rfl
    kits := kitsB_ok (E 0 _ rfl)
    e_TooMany := errB_ok (E 1 _ rfl)
    e_BadText := errB_ok (E 2 _ rfl)
    e_BadFormat := errB_ok (E 3 _ rfl)
    e_BadValue := errB_ok (E 4 _ rfl)
    e_BadShape := errB_ok (E 5 _ rfl)
    e_BadRow := errB_ok (E 6 _ rfl)
    e_BadSet := errB_ok (E 7 _ rfl)
    e_BadReader := errB_ok (E 8 _ rfl)
    e_BadLayout := errB_ok (E 9 _ rfl)
    e_BadCheck := errB_ok (E 10 _ rfl)
    e_BadCode := errB_ok (E 11 _ rfl)
    e_BadFeed := errB_ok (E 12 _ rfl)
    e_BadEdit := errB_ok (E 13 _ rfl)
    e_BadPatch := errB_ok (E 14 _ rfl)
    e_BadPaper := errB_ok (E 15 _ rfl)
    e_BadDeed := errB_ok (E 16 _ rfl)
    t_LIMITS := fun k i hq => by
      obtain ⟨es, n, KD⟩ := c.t.tab 0 rfl
      exact tabB_ok (E 17 _ rfl) KD hq }
end K26
open PySem PySem.W PySem.Calls PyProof.Rows in
theorem K26.law_of (k : Nat) (hk : L2.Room k callerA)
    (F : ∀ (w : World) (K : Frag) (mg : PySem.Str → Option Value) (base : Heap), K.In base → base.Ns mainGlobals mg → K26.Txt w K mg → ∀ fd, L2.FunD K "law" "law" (L2.defArgs K26.s_law) (L2.defBody K26.s_law) (L2.defScope K26.s_law) [] [] (He.ga K "law") fd →
      L2.FnOk (PySem.Challenge.rw_toldoutside_k26_built_layouts).prog w K mg base (L2N.CX (PySem.Challenge.rw_toldoutside_k26_built_layouts).prog w) k (He.ga K "law") fd ["script"] (L3.spLaw K)) : PySem.Challenge.rw_toldoutside_k26_built_layouts.Holds := by
  w_on; o_law
  refine HandSHeadRun.head_any (r := OpenLaw.row PySem.Challenge.rw_toldoutside_k26_built_layouts) (q := view (OpenLaw.row PySem.Challenge.rw_toldoutside_k26_built_layouts).prog [40]) (H := K26.hk) (ob := K26.ob) (M := 6000) (loose := K26.nms) (d := HandSHeadRun.topDef (OpenLaw.row PySem.Challenge.rw_toldoutside_k26_built_layouts).prog 40) (kwd := []) K26.ob_eq
    (by kernel_rfl) (fun s => by kernel_rfl) K26.run (by kernel_rfl) (by kernel_rfl) (by kernel_rfl) (by rfl) (by first | assumption | decide +kernel) (by decide +kernel) ⟨rfl, rfl, rfl, rfl, rfl, by decide +kernel⟩ ?hw ?hc
  case hw => w_witness2
  case hc =>
    refine L3.walk_law (l := PySem.Challenge.rw_toldoutside_k26_built_layouts) (k := k) rfl (by kernel_rfl) hk ?F
    intro w mg fa h Y G hmg0
    obtain ⟨K, KX, c⟩ := Y
    have hmg : mg ("law" : PySem.Str) = some (.ref fa) := by
      have e : (HandSHeadRun.topDef (OpenLaw.row PySem.Challenge.rw_toldoutside_k26_built_layouts).prog 40).name = ("law" : PySem.Str) := by kernel_rfl
      rw [← e]
      exact hmg0
    have T := K26.txt KX G c
    have e := hmg.symm.trans T.g_law
    cases e
    obtain ⟨fd, D⟩ := T.d_law
    have b := L2.FunD.bindsA (ps := ["script"]) D fun _ _ _ _ _ _ us hl => match us, hl with | [_], _ => rfl
    exact ⟨K, fd, KX, fun s v => b s [v] rfl, fun base XB GB => F w K mg base XB GB T fd D⟩
set_option maxRecDepth 100000
set_option maxHeartbeats 4000000
namespace K26
open PySem PySem.Spec PyProof.Rows L2 L3
local macro_rules | `(tactic| walk_at "s1") => `(tactic| first
  | with_reducible refine r_seq ?_
  | with_reducible refine r_asgN ?_
  | with_reducible refine r_ret ?_
  | with_reducible refine r_next ?_
  | ((with_reducible refine' r_var ?hv ?_); (case hv => exact rfl))
  | with_reducible refine r_c ?_
  | with_reducible refine r_op ?_
  | with_reducible refine r_cons ?_
  | with_reducible refine r_nil ?_
  | with_reducible refine r_plusI ?_
  | with_reducible refine r_I0 ?_
  | with_reducible refine r_test ?_
  | with_reducible refine r_bl ?_
  | with_reducible refine r_ifS ?_
  | with_reducible refine r_cb ?_
  | with_reducible refine r_callS ?_
  | with_reducible refine r_and ?_
  | with_reducible refine r_or ?_
  | with_reducible refine r_not ?_
  | with_reducible refine r_B ?_
  | ((with_reducible refine' r_aug ?hv ?_); (case hv => exact rfl))
  | with_reducible refine r_augS ?_
  | with_reducible refine r_ipI ?_
  | with_reducible refine r_asg ?_
  | with_reducible refine r_sub ?_
  | with_reducible refine r_brk ?_
  | with_reducible refine r_isN1 ?_
  | with_reducible refine r_notN1 ?_
  | with_reducible refine r_intI ?_
  | with_reducible refine r_abs ?_
  | with_reducible refine r_min ?_
  | with_reducible refine r_max ?_
  | ((with_reducible refine' r_mod ?hz ?_); (case hz => omega))
  | ((with_reducible refine' r_pow ?hz ?_); (case hz => exact ⟨by decide, by decide, by decide⟩))
  | ((with_reducible refine' r_rg1 ?hz ?_); (case hz => omega))
  | ((with_reducible refine' r_rg2 ?hz ?_); (case hz => omega))
  | ((with_reducible refine' r_newL ?hz ?_); (case hz => exact Nat.le_of_ble_eq_true rfl))
  | ((with_reducible refine' r_newT ?hz ?_); (case hz => exact Nat.le_of_ble_eq_true rfl))
  | with_reducible refine r_for ?_
  | with_reducible refine r_lc ?_
  | with_reducible refine r_iR1 ?_
  | with_reducible refine r_iR2 ?_
  | with_reducible refine r_iL ?_
  | with_reducible refine r_iT ?_
  | with_reducible refine r_gname ?_
  | with_reducible refine r_gcons ?_
  | with_reducible refine r_gnil ?_
  | with_reducible refine r_yes ?_
  | with_reducible refine r_mkO ?_
  | with_reducible refine r_cont ?_
  | with_reducible refine r_drop ?_
  | with_reducible refine r_retN ?_
  | with_reducible refine r_ifC ?_
  | with_reducible refine r_ifI ?_
  | with_reducible refine r_if ?_
  | with_reducible refine r_un ?_
  | with_reducible refine r_neg ?_
  | with_reducible refine r_andV ?_
  | with_reducible refine r_orV ?_
  | with_reducible refine r_notV ?_
  | with_reducible refine r_tup ?_
  | with_reducible refine r_lst ?_
  | with_reducible refine r_bm ?_
  | with_reducible refine r_bm0 ?_
  | with_reducible refine r_sl ?_
  | with_reducible refine r_chain ?_
  | with_reducible refine r_listDn ?_
  | with_reducible refine r_listRg2 ?_
  | with_reducible refine r_revL ?_
  | with_reducible refine r_noPart ?_
  | with_reducible refine r_part ?_
  | with_reducible refine r_int ?_
  | ((with_reducible refine' r_sameS ?hs ?_); (case hs => exact rfl))
  | ((with_reducible refine' r_otherS ?hs ?_); (case hs => exact rfl))
  | with_reducible refine ite_t ?_
  | with_reducible refine ite_f ?_
  | with_reducible refine ite_nt ?_
  | with_reducible refine ite_nf ?_)
local macro_rules | `(tactic| walk_at "st") => `(tactic| repeat (walk_at "s1"))

section
variable {P : Program} {w : World} {K : PySem.W.Frag} {mg : Str → Option Value} {base : Heap}
theorem sci_TooMany : FnScope ["self", "what"] ["self", "what"] (defScope i_TooMany) := ⟨rfl, rfl, rfl, by decide +kernel, rfl, by decide +kernel, by decide +kernel⟩
theorem ci_TooMany (T : Txt w K mg) : ErrI P w K mg base "TooMany" ["self", "what"] (spI1 (He.ga K "TooMany") "what") := by
  refine errI_of T.d_TooMany sci_TooMany (fun _ _ _ _ _ _ _ us hl => match us, hl with | [_, _], _ => rfl) (fun vs H Q E h => by obtain ⟨a, v0, rfl, _⟩ := h; rfl) (fun cdv A outer s H vs Q E hr h => ?_)
  obtain ⟨a, v0, rfl, ha, k⟩ := h
  refine ⟨_, pss_one (ps_ost (pv 0) (pv 1)), ?_⟩
  exact r_ost1 T.e_TooMany.o (T.e_TooMany.no _ (by simp)) ha rfl rfl k
theorem sci_BadLayout : FnScope ["self", "what"] ["self", "what"] (defScope i_BadLayout) := ⟨rfl, rfl, rfl, by decide +kernel, rfl, by decide +kernel, by decide +kernel⟩
theorem ci_BadLayout (T : Txt w K mg) : ErrI P w K mg base "BadLayout" ["self", "what"] (spI1 (He.ga K "BadLayout") "what") := by
  refine errI_of T.d_BadLayout sci_BadLayout (fun _ _ _ _ _ _ _ us hl => match us, hl with | [_, _], _ => rfl) (fun vs H Q E h => by obtain ⟨a, v0, rfl, _⟩ := h; rfl) (fun cdv A outer s H vs Q E hr h => ?_)
  obtain ⟨a, v0, rfl, ha, k⟩ := h
  refine ⟨_, pss_one (ps_ost (pv 0) (pv 1)), ?_⟩
  exact r_ost1 T.e_BadLayout.o (T.e_BadLayout.no _ (by simp)) ha rfl rfl k
/-! ### the bounds -/
def spBound (K : PySem.W.Frag) : Sp := fun vs H Q E => ∃ (what : Str) (lim n : Int), vs = [.str what, .int n] ∧ (what, lim) ∈ kv_LIMITS ∧
  (lim < n → ∀ d H', H d = none → Ext H H' → H' d = some (.xd [("what", .str what)]) → E (.ref (He.ga K "TooMany")) (some d) H') ∧ (¬ lim < n → Q .non H)
theorem sc_bound : FnScope ["what", "number"] ["what", "number"] (defScope s_bound) := ⟨rfl, rfl, rfl, by decide +kernel, rfl, by decide +kernel, by decide +kernel⟩
theorem ok_bound (T : Txt w K mg) : CalG P w K mg base 4 "bound" ["what", "number"] (spBound K) := by
  have c_TooMany : ErrI P w K mg base "TooMany" ["self", "what"] _ := ci_TooMany T
  refine calG_of T.g_bound T.d_bound sc_bound (fun _ _ _ _ _ _ _ us hl => match us, hl with | [_, _], _ => rfl) (fun vs H Q E h => by obtain ⟨c, k, n, rfl, _⟩ := h; rfl) (fun cdv A outer s H vs Q E hr h => ?_)
  have nd := sc_bound.nd
  have hu := hu64 hr
  obtain ⟨what, lim, n, rfl, hm, hb, hg⟩ := h
  refine ⟨_, (pss_one (ps_if (pt_cmpR op_gt (pv 1) (pe_ix (kdictK (K := K)) (pe_gl T.g_LIMITS) (pv 0) (fun _ _ => rfl)) (nomark _)) (pss_one (L2N.ps_raise rfl (L2N.takes_of rfl rfl rfl rfl) (pmk_errI T.e_TooMany c_TooMany hr (by decide) T.g_TooMany (pa_cons (pv 0) pa_nil)))) pss_nil)), ?_⟩
  walk_at "st"
  refine ⟨_, _, _, rfl, rfl, T.t_LIMITS _ _ hm, ?_⟩
  walk_at "st"
  refine ite_d (fun c => ?_) (fun c => ?_)
  · walk_at "st"
    exact r_mk1 (hb c)
  · walk_at "st"
    exact hg c

/-! ### rows of D(0, r) .. D(d, r) -/
def rowV (d r : Nat) : List V := (List.range (d + 1)).map fun i => V.int (Del.D i r : Nat)
theorem rowV_len (d r : Nat) : (rowV d r).length = d + 1 := by rw [rowV, List.length_map, List.length_range]
theorem rowV_at {d r i : Nat} (h : i ≤ d) : (rowV d r)[i]? = some (V.int (Del.D i r : Nat)) := by
  rw [rowV, List.getElem?_map, List.getElem?_range (by omega)]
  rfl
theorem rowV_snoc (d r : Nat) : rowV (d + 1) r = rowV d r ++ [V.int (Del.D (d + 1) r : Nat)] := by rw [rowV, List.range_succ, List.map_append]; rfl
theorem at_row {d r i : Nat} {z : Int} (e : z = (i : Int)) (h : i ≤ d) : atI (rowV d r) z = some (V.int (Del.D i r : Nat)) := by rw [e]; exact atI_nat (rowV_at h)
def spNext (K : PySem.W.Frag) : Sp := fun vs H Q _ => ∃ (a : Addr) (d r : Nat), vs = [.ref a] ∧ SqL K H a (rowV d r) ∧ d ≤ 1000 ∧ ∀ p H', H p = none → Ext H H' → H' p = some (.lst (rowV d (r + 1))) → Q (.ref p) H'
theorem sc_next_row : FnScope ["row", "found", "at"] ["row"] (defScope s_next_row) := ⟨rfl, rfl, rfl, by decide +kernel, rfl, by decide +kernel, by decide +kernel⟩
theorem ok_next_row (T : Txt w K mg) : CalG P w K mg base 2 "next_row" ["row"] (spNext K) := by
  refine calG_of T.g_next_row T.d_next_row sc_next_row (fun _ _ _ _ _ _ _ us hl => match us, hl with | [_], _ => rfl) (fun vs H Q E h => by obtain ⟨c, k, n, rfl, _⟩ := h; rfl) (fun cdv A outer s H vs Q E hr h => ?_)
  have nd := sc_next_row.nd
  have hu := hu64 hr
  obtain ⟨a, d, r, rfl, ha, hd, k⟩ := h
  refine ⟨_, (pss_cons (ps_set (i := 1) nd rfl (Or.inl rfl) (pe_lst (pa_cons pe_int pa_nil)))
        (pss_cons (ps_for (passes_of rfl) rfl (pi_range2 (by rfl) T.f_range (pa_cons pe_int (pa_cons (pe_callB (lenK (K := K)) (by rfl) T.f_len boot_len (pa_cons (pv 0) pa_nil)) pa_nil))) (pg_name (i := 2) nd rfl (Or.inl rfl)) (pss_one (ps_expr (peBM (K := K) (pe_bm PySem.F.plainAttrs_list PySem.F.slot_list_append PySem.F.type_list_append mt_append (pv 1) (pa_cons (pe_op (plusK (K := K)) (pe_op (plusK (K := K)) (pe_ix (ixK (K := K)) (pv 1) (pe_op op_sub (pv 2) pe_int) (fun _ _ => rfl)) (pe_ix (ixK (K := K)) (pv 0) (pv 2) (fun _ _ => rfl))) (pe_ix (ixK (K := K)) (pv 0) (pe_op op_sub (pv 2) pe_int) (fun _ _ => rfl))) pa_nil))))))
        (pss_one (ps_ret (pv 1))))), ?_⟩
  walk_at "st"
  intro p H1 hp e1 h1
  walk_at "st"
  refine ⟨a, _, rfl, .inl (e1.l ha), ?_⟩
  walk_at "st"
  rw [rowV_len]
  walk_at "st"
  have en : (((d + 1 : Nat) : Int) - 1).toNat = d := by omega
  rw [en]
  refine forW_range (fun i σ' H' => ∃ v, σ' = [some (.ref a), some (.ref p), v] ∧ Ext H H' ∧ H' p = some (.lst (rowV i (r + 1)))) ⟨none, rfl, e1, ?_⟩ ?_ ?_
  · rw [h1, rowV]
    simp [Del.D_z]
  · rintro i σ' H' hi ⟨v, rfl, e, hf⟩
    walk_at "st"
    refine ⟨.inl ⟨rfl, _, sqL hf⟩, ?_⟩
    walk_at "st"
    refine r_atL (sqL hf) (at_row (i := i) (by omega) (Nat.le_refl _)) ?_
    walk_at "st"
    refine r_atL (e.l ha) (at_row (i := i + 1) (by omega) (by omega)) ?_
    walk_at "st"
    refine r_atL (e.l ha) (at_row (i := i) (by omega) (by omega)) ?_
    walk_at "st"
    refine r_app hf (by rw [rowV_len]; omega) (fun H2 h2 m2 => ?_)
    refine ⟨_, rfl, mut_ext e hp m2, ?_⟩
    rw [h2, rowV_snoc]
    have z : ((Del.D i (r + 1) : Nat) : Int) + ((Del.D (i + 1) r : Nat) : Int) + ((Del.D i r : Nat) : Int) = ((Del.D (i + 1) (r + 1) : Nat) : Int) := by rw [Del.D_s]; omega
    rw [z]
  · rintro σ' H' ⟨v, rfl, e, hf⟩
    walk_at "st"
    exact k p H' hp e hf
theorem row_start (d : Nat) : (List.replicate (d + 1) [V.int 1]).flatten = rowV d 0 := by
  rw [rowV]
  induction d with
  | zero => simp [Del.D_0]
  | succ d ih =>
    rw [List.replicate_succ', List.flatten_append, ih, List.range_succ (n := d + 1), List.map_append]
    simp [Del.D_0]

def spSmall (K : PySem.W.Frag) : Sp := fun vs H Q E => ∃ (n : Int), vs = [.int n] ∧
  (100 < n → ∀ d H', H d = none → Ext H H' → H' d = some (.xd [("what", .str "reach")]) → E (.ref (He.ga K "TooMany")) (some d) H') ∧ (¬ 100 < n → Q .non H)
theorem sc_bound_small : FnScope ["number"] ["number"] (defScope s_bound_small) := ⟨rfl, rfl, rfl, by decide +kernel, rfl, by decide +kernel, by decide +kernel⟩
theorem ok_bound_small (T : Txt w K mg) : CalG P w K mg base 4 "bound_small" ["number"] (spSmall K) := by
  have c_TooMany : ErrI P w K mg base "TooMany" ["self", "what"] _ := ci_TooMany T
  refine calG_of T.g_bound_small T.d_bound_small sc_bound_small (fun _ _ _ _ _ _ _ us hl => match us, hl with | [_], _ => rfl) (fun vs H Q E h => by obtain ⟨n, rfl, _⟩ := h; rfl) (fun cdv A outer s H vs Q E hr h => ?_)
  have nd := sc_bound_small.nd
  have hu := hu64 hr
  obtain ⟨n, rfl, hb, hg⟩ := h
  refine ⟨_, (pss_one (ps_if (pt_cmpR op_gt (pv 0) pe_int (nomark _)) (pss_one (L2N.ps_raise rfl (L2N.takes_of rfl rfl rfl rfl) (pmk_errI T.e_TooMany c_TooMany hr (by decide) T.g_TooMany (pa_cons pe_str pa_nil)))) pss_nil)), ?_⟩
  walk_at "st"
  refine ite_d (fun c => ?_) (fun c => ?_)
  · walk_at "st"
    exact r_mk1 (hb c)
  · walk_at "st"
    exact hg c

/-- the least r with n at most D(number, r) -/
def spOther (K : PySem.W.Frag) : Sp := fun vs H Q _ => ∃ (n : Int) (m : Nat), vs = [.int n, .int m] ∧ n ≤ 10000 ∧ 1 ≤ m ∧ m ≤ 100 ∧ ∀ (r : Nat) H', Del.Least n.toNat m r → Ext H H' → Q (.int r) H'
theorem sc_least_other : FnScope ["n", "number", "row", "found"] ["n", "number"] (defScope s_least_other) := ⟨rfl, rfl, rfl, by decide +kernel, rfl, by decide +kernel, by decide +kernel⟩
theorem ok_least_other (T : Txt w K mg) : CalG P w K mg base 3 "least_other" ["n", "number"] (spOther K) := by
  have c_next_row := ok_next_row (P := P) (base := base) T
  refine calG_of T.g_least_other T.d_least_other sc_least_other (fun _ _ _ _ _ _ _ us hl => match us, hl with | [_, _], _ => rfl) (fun vs H Q E h => by obtain ⟨n, m, rfl, _⟩ := h; rfl) (fun cdv A outer s H vs Q E hr h => ?_)
  have nd := sc_least_other.nd
  have hu := hu64 hr
  obtain ⟨n, m, rfl, hn, m1, m2, k⟩ := h
  refine ⟨_, (pss_cons (ps_set (i := 2) nd rfl (Or.inl rfl) (pe_op op_timesB (pe_lst (pa_cons pe_int pa_nil)) (pe_op (plusK (K := K)) (pv 1) pe_int)))
        (pss_cons (ps_set (i := 3) nd rfl (Or.inl rfl) pe_int)
        (pss_cons (ps_while (passes_of rfl) (pt_cmpR op_lt (pe_ix (ixK (K := K)) (pv 2) (pv 1) (fun _ _ => rfl)) (pv 0) (nomark _)) (pss_cons (ps_set (i := 2) nd rfl (Or.inl rfl) (pe_cal c_next_row hr (by omega) (fun σ => L2N.passAt (L2N.takes_of rfl rfl rfl rfl) σ) (pa_cons (pv 2) pa_nil)))
        (pss_one (ps_aug (i := 3) nd rfl (Or.inl rfl) pe_int ip_add))))
        (pss_one (ps_ret (pv 3)))))), ?_⟩
  walk_at "st"
  intro p H1 hp e1 h1
  walk_at "st"
  refine r_repL h1 (by omega) (by omega) (by simp; omega) (fun p2 H2 hp2 e2 h2 => ?_)
  walk_at "st"
  have en : ((m : Int) + 1).toNat = m + 1 := by omega
  rw [en, row_start] at h2
  refine whileW (fun μ σ' H' => ∃ (q : Addr) (r : Nat), μ = n.toNat - r ∧ σ' = [some (.int n), some (.int m), some (.ref q), some (.int r)] ∧ Ext H H' ∧ H' q = some (.lst (rowV m r)) ∧ ∀ r', r' < r → Del.D m r' < n.toNat) n.toNat
    ⟨p2, 0, rfl, rfl, e1.trans e2, h2, fun _ h => absurd h (Nat.not_lt_zero _)⟩ ?_
  rintro μ σ' H' ⟨q, r, rfl, rfl, e, hq, hl⟩
  walk_at "st"
  refine r_atL (sqL hq) (at_row (i := m) rfl (Nat.le_refl _)) ?_
  walk_at "st"
  refine ite_d (fun c => r_N ?_) (fun c => ?_)
  · walk_at "st"
    refine ⟨q, m, r, rfl, sqL hq, by omega, fun p' H3 hp' e3 h3 => ?_⟩
    walk_at "st"
    have g := Del.D_ge m r m1
    refine ⟨n.toNat - (r + 1), by omega, p', r + 1, rfl, rfl, e.trans e3, h3, fun r' hr' => ?_⟩
    by_cases er : r' = r
    · subst er; omega
    · exact hl r' (by omega)
  · walk_at "st"
    exact k r H' ⟨by omega, hl⟩ e

def spLeast (K : PySem.W.Frag) (second : Str) : Sp := fun vs H Q E => ∃ (n d : Int), vs = [.int n, .int d] ∧ (10000 < n ∨ 100 < d → Bad K E H "TooMany" "reach") ∧ (n ≤ 10000 → d ≤ 100 → n < 1 → Bad K E H "BadLayout" "parts") ∧ (n ≤ 10000 → d ≤ 100 → 1 ≤ n → d < 1 → Bad K E H "BadLayout" second) ∧
  (n ≤ 10000 → d ≤ 100 → 1 ≤ n → 1 ≤ d → ∀ (r : Nat) H', Del.Least n.toNat d.toNat r → Ext H H' → Q (.int r) H')
theorem sc_least_changed : FnScope ["n", "d"] ["n", "d"] (defScope s_least_changed) := ⟨rfl, rfl, rfl, by decide +kernel, rfl, by decide +kernel, by decide +kernel⟩
theorem ok_least_changed (T : Txt w K mg) : CalG P w K mg base 6 "least_changed" ["n", "d"] (spLeast K "depth") := by
  have c_BadLayout : ErrI P w K mg base "BadLayout" ["self", "what"] _ := ci_BadLayout T
  have c_bound := ok_bound (P := P) (base := base) T
  have c_bound_small := ok_bound_small (P := P) (base := base) T
  have c_least_other := ok_least_other (P := P) (base := base) T
  refine calG_of T.g_least_changed T.d_least_changed sc_least_changed (fun _ _ _ _ _ _ _ us hl => match us, hl with | [_, _], _ => rfl) (fun vs H Q E h => by obtain ⟨d, r, rfl, _⟩ := h; rfl) (fun cdv A outer s H vs Q E hr h => ?_)
  have nd := sc_least_changed.nd
  have hu := hu64 hr
  obtain ⟨n, d, rfl, b1, b2, b3, k⟩ := h
  refine ⟨_, (pss_cons (ps_expr (pe_cal c_bound hr (by omega) (fun σ => L2N.passAt (L2N.takes_of rfl rfl rfl rfl) σ) (pa_cons pe_str (pa_cons (pv 0) pa_nil))))
        (pss_cons (ps_expr (pe_cal c_bound_small hr (by omega) (fun σ => L2N.passAt (L2N.takes_of rfl rfl rfl rfl) σ) (pa_cons (pv 1) pa_nil)))
        (pss_cons (ps_if (pt_cmpR op_lt (pv 0) pe_int (nomark _)) (pss_one (L2N.ps_raise rfl (L2N.takes_of rfl rfl rfl rfl) (pmk_errI T.e_BadLayout c_BadLayout hr (by decide) T.g_BadLayout (pa_cons pe_str pa_nil)))) pss_nil)
        (pss_cons (ps_if (pt_cmpR op_lt (pv 1) pe_int (nomark _)) (pss_one (L2N.ps_raise rfl (L2N.takes_of rfl rfl rfl rfl) (pmk_errI T.e_BadLayout c_BadLayout hr (by decide) T.g_BadLayout (pa_cons pe_str pa_nil)))) pss_nil)
        (pss_one (ps_ret (pe_cal c_least_other hr (by omega) (fun σ => L2N.passAt (L2N.takes_of rfl rfl rfl rfl) σ) (pa_cons (pv 0) (pa_cons (pv 1) pa_nil))))))))), ?_⟩
  walk_at "st"
  refine ⟨_, 10000, n, rfl, by simp [kv_LIMITS], fun c => b1 (.inl c), fun c1 => ?_⟩
  walk_at "st"
  refine ⟨d, rfl, fun c => b1 (.inr c), fun c2 => ?_⟩
  walk_at "st"
  refine ite_d (fun c3 => ?_) (fun c3 => ?_)
  · walk_at "st"
    exact r_mk1 (b2 (by omega) (by omega) c3)
  walk_at "st"
  refine ite_d (fun c4 => ?_) (fun c4 => ?_)
  · walk_at "st"
    exact r_mk1 (b3 (by omega) (by omega) (by omega) c4)
  walk_at "st"
  refine ⟨n, d.toNat, by rw [Int.toNat_of_nonneg (by omega)], by omega, by omega, by omega, fun r H' hl e => ?_⟩
  exact k (by omega) (by omega) (by omega) (by omega) r H' hl e

/-! ### the table of halves -/
def hrow (d i : Nat) : List V := (List.range (d + 1)).map fun j => V.int (Lay.hh j i : Nat)
theorem hrow_at {d i j : Nat} (h : j ≤ d) : (hrow d i)[j]? = some (V.int (Lay.hh j i : Nat)) := by
  rw [hrow, List.getElem?_map, List.getElem?_range (by omega)]
  rfl
def Tab (H : Hp) (t : Addr) (d r : Nat) : Prop := ∃ as : List Addr, H t = some (.lst (as.map V.ref)) ∧ as.length = r + 1 ∧ ∀ i a, as[i]? = some a → H a = some (.lst (hrow d i))
theorem Tab.ext {H H' : Hp} {t : Addr} {d r : Nat} (h : Tab H t d r) (e : Ext H H') : Tab H' t d r := by
  obtain ⟨as, h1, h2, h3⟩ := h
  exact ⟨as, e _ _ h1, h2, fun i a ha => e _ _ (h3 i a ha)⟩
theorem Tab.get {H : Hp} {t : Addr} {d r i : Nat} (h : Tab H t d r) (hi : i ≤ r) : ∃ xs a, H t = some (.lst xs) ∧ xs[i]? = some (V.ref a) ∧ H a = some (.lst (hrow d i)) := by
  obtain ⟨as, h1, h2, h3⟩ := h
  have e : as[i]? = some as[i] := List.getElem?_eq_getElem (by omega)
  exact ⟨_, as[i], h1, by rw [List.getElem?_map, e]; rfl, h3 i _ e⟩
def spHalves (K : PySem.W.Frag) : Sp := fun vs H Q _ => ∃ (d r : Nat), vs = [.int d, .int r] ∧ d ≤ 1000 ∧ r ≤ 20000 ∧ ∀ t H', H t = none → Ext H H' → Tab H' t d r → Q (.ref t) H'
theorem half_eq (j i : Nat) : (((Del.D j i : Nat) : Int) - 1) / 2 = ((Lay.hh j i : Nat) : Int) := by
  have := Lay.hh_eq j i
  omega
theorem sc_halves : FnScope ["d", "r", "row", "table", "step", "number"] ["d", "r"] (defScope s_halves) := ⟨rfl, rfl, rfl, by decide +kernel, rfl, by decide +kernel, by decide +kernel⟩
theorem ok_halves (T : Txt w K mg) : CalG P w K mg base 3 "halves" ["d", "r"] (spHalves K) := by
  have c_next_row := ok_next_row (P := P) (base := base) T
  refine calG_of T.g_halves T.d_halves sc_halves (fun _ _ _ _ _ _ _ us hl => match us, hl with | [_, _], _ => rfl) (fun vs H Q E h => by obtain ⟨d, r, rfl, _⟩ := h; rfl) (fun cdv A outer s H vs Q E hr h => ?_)
  have nd := sc_halves.nd
  have hu := hu64 hr
  obtain ⟨d, r, rfl, hd, hr', k⟩ := h
  refine ⟨_, (pss_cons (ps_set (i := 2) nd rfl (Or.inl rfl) (pe_op op_timesB (pe_lst (pa_cons pe_int pa_nil)) (pe_op (plusK (K := K)) (pv 0) pe_int)))
        (pss_cons (ps_set (i := 3) nd rfl (Or.inl rfl) (pe_lst (pa_cons (pe_lc (own := [("number", 5)]) rfl nd (piL (K := K) (pv 2)) (blkOk_by (N := ["d", "r", "row", "table", "step", "number"]) (sc := defScope s_halves) (by decide +kernel)) (fun _ _ _ _ _ => (pg_name (i := 5) nd rfl (Or.inl rfl))) (fun _ _ _ _ _ => pts_nil) (fun _ _ _ _ _ => (pe_op op_fdivW (pe_op op_sub (pv 5) pe_int) pe_int))) pa_nil)))
        (pss_cons (ps_for (passes_of rfl) rfl (pi_range1 (by rfl) T.f_range (pa_cons (pv 1) pa_nil)) (pg_name (i := 4) nd rfl (Or.inl rfl)) (pss_cons (ps_set (i := 2) nd rfl (Or.inl rfl) (pe_cal c_next_row hr (by omega) (fun σ => L2N.passAt (L2N.takes_of rfl rfl rfl rfl) σ) (pa_cons (pv 2) pa_nil)))
        (pss_one (ps_expr (peBM (K := K) (pe_bm PySem.F.plainAttrs_list PySem.F.slot_list_append PySem.F.type_list_append mt_append (pv 3) (pa_cons (pe_lc (own := [("number", 5)]) rfl nd (piL (K := K) (pv 2)) (blkOk_by (N := ["d", "r", "row", "table", "step", "number"]) (sc := defScope s_halves) (by decide +kernel)) (fun _ _ _ _ _ => (pg_name (i := 5) nd rfl (Or.inl rfl))) (fun _ _ _ _ _ => pts_nil) (fun _ _ _ _ _ => (pe_op op_fdivW (pe_op op_sub (pv 5) pe_int) pe_int))) pa_nil)))))))
        (pss_one (ps_ret (pv 3)))))), ?_⟩
  walk_at "st"
  intro p H1 hp e1 h1
  walk_at "st"
  refine r_repL h1 (by omega) (by omega) (by simp; omega) (fun p2 H2 hp2 e2 h2 => ?_)
  have en : ((d : Int) + 1).toNat = d + 1 := by omega
  rw [en, row_start] at h2
  walk_at "st"
  refine r_li (sqL h2) ?_
  intro D0 hD0
  refine lcW_list (LcP H2 D0 fun j => .int (Lay.hh j 0 : Nat)) (.start hD0) (fun i H3 hi q => q.e.l (sqL h2)) ?_ ?_
  · intro i x H3 hx q
    have hi : i < d + 1 := by have := (List.getElem?_eq_some_iff.mp hx).1; rwa [rowV_len] at this
    rw [rowV_at (by omega)] at hx
    cases hx
    walk_at "st"
    refine r_lcW rfl ?_
    walk_at "st"
    refine r_div (cdW (by decide) (by decide)) ?_
    rw [half_eq]
    exact q.push hD0 (by omega) .rfl rfl
  intro H3 q3
  have h3 := q3.d
  rw [rowV_len] at h3
  walk_at "st"
  intro t H4 ht e4 h4
  walk_at "st"
  have en2 : ((r : Int)).toNat = r := by omega
  rw [en2]
  have e24 : Ext H2 H4 := q3.e.trans e4
  have et : H t = none := ((e1.trans e2).trans q3.e).none ht
  refine forW_range (fun i σ' H' => ∃ (q : Addr) (v u : Option V), σ' = [some (.int d), some (.int r), some (.ref q), some (.ref t), v, u] ∧ Ext H H' ∧ H' q = some (.lst (rowV d i)) ∧ q ≠ t ∧ Tab H' t d i) ⟨p2, none, none, rfl, (e1.trans e2).trans e24, e24 _ _ h2, ne_of_none (q3.e _ _ h2) ht, ⟨[D0], h4, rfl, fun i a ha => ?_⟩⟩ ?_ ?_
  · cases i with
    | zero => cases ha; exact e4 _ _ h3
    | succ i => simp at ha
  · rintro i σ' H5 hi ⟨q, v, u, rfl, e5, hq, nq, tb⟩
    walk_at "st"
    refine ⟨q, d, i, rfl, sqL hq, by omega, fun p' H6 hp' e6 h6 => ?_⟩
    obtain ⟨as, t1, t2, t3⟩ := tb
    walk_at "st"
    refine ⟨.inl ⟨rfl, _, sqL (e6 _ _ t1)⟩, ?_⟩
    walk_at "st"
    refine r_li (sqL h6) ?_
    intro D1 hD1
    refine lcW_list (LcP H6 D1 fun j => .int (Lay.hh j (i + 1) : Nat)) (.start hD1) (fun i H3 hi q => q.e.l (sqL h6)) ?_ ?_
    · intro i' x H7 hx q
      have hi : i' < d + 1 := by have := (List.getElem?_eq_some_iff.mp hx).1; rwa [rowV_len] at this
      rw [rowV_at (by omega)] at hx
      cases hx
      walk_at "st"
      refine r_lcW rfl ?_
      walk_at "st"
      refine r_div (cdW (by decide) (by decide)) ?_
      rw [half_eq]
      exact q.push hD1 (by omega) .rfl rfl
    intro H7 q7
    have h7 := q7.d
    rw [rowV_len] at h7
    walk_at "st"
    have e67 : Ext H5 H7 := e6.trans q7.e
    refine r_app (e67 _ _ t1) (by rw [List.length_map]; omega) (fun H8 h8 n8 => ?_)
    have nD : D1 ≠ t := fun e => by rw [e, e6 _ _ t1] at hD1; cases hD1
    refine ⟨p', _, _, rfl, mut_ext (e5.trans e67) et n8, (n8 p' (fun e => by rw [e, t1] at hp'; cases hp')).trans (q7.e _ _ h6), fun e => (by rw [e, t1] at hp'; cases hp'), ⟨as ++ [D1], ?_, by rw [List.length_append, t2]; rfl, fun j a ha => ?_⟩⟩
    · rw [h8, List.map_append]; rfl
    · by_cases c : j < as.length
      · rw [List.getElem?_append_left c] at ha
        have := t3 j a ha
        exact (n8 a fun e => by
          have e1 := t3 j a ha
          rw [e, t1] at e1
          have e2 : as.map V.ref = hrow d j := by injection (Option.some.inj e1)
          have e3 := congrArg (fun l => l[0]?) e2
          simp only [List.getElem?_map] at e3
          rw [hrow, List.getElem?_map, List.getElem?_range (by omega)] at e3
          cases q : as[0]? with
          | none => rw [q] at e3; cases e3
          | some z => rw [q] at e3; cases e3).trans (e67 _ _ this)
      · rw [List.getElem?_append_right (by omega)] at ha
        have hj : j = i + 1 := by
          have := (List.getElem?_eq_some_iff.mp ha).1
          simp at this
          omega
        subst hj
        rw [t2, Nat.sub_self] at ha
        cases ha
        exact (n8 D1 nD).trans h7
  · rintro σ' H5 ⟨q, v, u, rfl, e5, hq, nq, tb⟩
    walk_at "st"
    exact k t H5 et e5 tb

end
end K26
set_option maxRecDepth 100000
set_option maxHeartbeats 4000000
namespace K26
open PySem PySem.Spec PyProof.Rows L2 L3
local macro_rules | `(tactic| walk_at "s1") => `(tactic| first
  | with_reducible refine r_seq ?_
  | with_reducible refine r_asgN ?_
  | with_reducible refine r_ret ?_
  | with_reducible refine r_next ?_
  | ((with_reducible refine' r_var ?hv ?_); (case hv => exact rfl))
  | with_reducible refine r_c ?_
  | with_reducible refine r_op ?_
  | with_reducible refine r_cons ?_
  | with_reducible refine r_nil ?_
  | with_reducible refine r_plusI ?_
  | with_reducible refine r_I0 ?_
  | with_reducible refine r_test ?_
  | with_reducible refine r_bl ?_
  | with_reducible refine r_ifS ?_
  | with_reducible refine r_cb ?_
  | with_reducible refine r_callS ?_
  | with_reducible refine r_and ?_
  | with_reducible refine r_or ?_
  | with_reducible refine r_not ?_
  | with_reducible refine r_B ?_
  | ((with_reducible refine' r_aug ?hv ?_); (case hv => exact rfl))
  | with_reducible refine r_augS ?_
  | with_reducible refine r_ipI ?_
  | with_reducible refine r_asg ?_
  | with_reducible refine r_sub ?_
  | with_reducible refine r_brk ?_
  | with_reducible refine r_isN1 ?_
  | with_reducible refine r_notN1 ?_
  | with_reducible refine r_intI ?_
  | with_reducible refine r_abs ?_
  | with_reducible refine r_min ?_
  | with_reducible refine r_max ?_
  | ((with_reducible refine' r_mod ?hz ?_); (case hz => omega))
  | ((with_reducible refine' r_pow ?hz ?_); (case hz => exact ⟨by decide, by decide, by decide⟩))
  | ((with_reducible refine' r_rg1 ?hz ?_); (case hz => omega))
  | ((with_reducible refine' r_rg2 ?hz ?_); (case hz => omega))
  | ((with_reducible refine' r_newL ?hz ?_); (case hz => exact Nat.le_of_ble_eq_true rfl))
  | ((with_reducible refine' r_newT ?hz ?_); (case hz => exact Nat.le_of_ble_eq_true rfl))
  | with_reducible refine r_for ?_
  | with_reducible refine r_lc ?_
  | with_reducible refine r_iR1 ?_
  | with_reducible refine r_iR2 ?_
  | with_reducible refine r_iL ?_
  | with_reducible refine r_iT ?_
  | with_reducible refine r_gname ?_
  | with_reducible refine r_gcons ?_
  | with_reducible refine r_gnil ?_
  | with_reducible refine r_yes ?_
  | with_reducible refine r_mkO ?_
  | with_reducible refine r_cont ?_
  | with_reducible refine r_drop ?_
  | with_reducible refine r_retN ?_
  | with_reducible refine r_ifC ?_
  | with_reducible refine r_ifI ?_
  | with_reducible refine r_if ?_
  | with_reducible refine r_un ?_
  | with_reducible refine r_neg ?_
  | with_reducible refine r_andV ?_
  | with_reducible refine r_orV ?_
  | with_reducible refine r_notV ?_
  | with_reducible refine r_tup ?_
  | with_reducible refine r_lst ?_
  | with_reducible refine r_bm ?_
  | with_reducible refine r_bm0 ?_
  | with_reducible refine r_sl ?_
  | with_reducible refine r_chain ?_
  | with_reducible refine r_listDn ?_
  | with_reducible refine r_listRg2 ?_
  | with_reducible refine r_revL ?_
  | with_reducible refine r_noPart ?_
  | with_reducible refine r_part ?_
  | with_reducible refine r_int ?_
  | ((with_reducible refine' r_sameS ?hs ?_); (case hs => exact rfl))
  | ((with_reducible refine' r_otherS ?hs ?_); (case hs => exact rfl))
  | with_reducible refine ite_t ?_
  | with_reducible refine ite_f ?_
  | with_reducible refine ite_nt ?_
  | with_reducible refine ite_nf ?_)
local macro_rules | `(tactic| walk_at "st") => `(tactic| repeat (walk_at "s1"))

section
variable {P : Program} {w : World} {K : PySem.W.Frag} {mg : Str → Option Value} {base : Heap}
/-! ### one task -/
/-- a task on the heap: mk is a list or a tuple -/
def TkAt (mk : List V → HO) (H : Hp) (S : List Addr) (x : V) (t : Tk) : Prop := ∃ a jl, x = .ref a ∧ H a = some (mk [.int t.root, .ref jl, .int t.d, .int t.r]) ∧ H jl = some (.lst (js t.root t.s t.m)) ∧ a ∉ S ∧ jl ∉ S
theorem TkAt.ext {mk : List V → HO} {H H' : Hp} {S : List Addr} {x : V} {t : Tk} (h : TkAt mk H S x t) (e : Ext H H') : TkAt mk H' S x t := by
  obtain ⟨a, jl, rfl, h1, h2, h3, h4⟩ := h
  exact ⟨a, jl, rfl, e _ _ h1, e _ _ h2, h3, h4⟩
theorem TkAt.but {mk : List V → HO} {H H' : Hp} {S : List Addr} {x : V} {t : Tk} {p : Addr} (h : TkAt mk H S x t) (hp : p ∈ S) (e : But p H H') : TkAt mk H' S x t := by
  obtain ⟨a, jl, rfl, h1, h2, h3, h4⟩ := h
  exact ⟨a, jl, rfl, e _ _ (fun z => h3 (z ▸ hp)) h1, e _ _ (fun z => h4 (z ▸ hp)) h2, h3, h4⟩
/-- a new one -/
def TkNew (mk : List V → HO) (H H' : Hp) (x : V) (t : Tk) : Prop := ∃ a jl, x = .ref a ∧ H a = none ∧ H jl = none ∧ H' a = some (mk [.int t.root, .ref jl, .int t.d, .int t.r]) ∧ H' jl = some (.lst (js t.root t.s t.m))
theorem TkNew.at_ {mk : List V → HO} {H H' : Hp} {S : List Addr} {x : V} {t : Tk} (h : TkNew mk H H' x t) (hS : ∀ p ∈ S, H p ≠ none) : TkAt mk H' S x t := by
  obtain ⟨a, jl, rfl, h1, h2, h3, h4⟩ := h
  exact ⟨a, jl, rfl, h3, h4, fun z => hS a z h1, fun z => hS jl z h2⟩
theorem TkNew.ext {mk : List V → HO} {H H' H2 : Hp} {x : V} {t : Tk} (h : TkNew mk H H' x t) (e : Ext H' H2) : TkNew mk H H2 x t := by
  obtain ⟨a, jl, rfl, h1, h2, h3, h4⟩ := h
  exact ⟨a, jl, rfl, h1, h2, e _ _ h3, e _ _ h4⟩
theorem at_between (d r m : Nat) (hm : 1 ≤ m) : ((m : Int) - 1 - min ((m : Int) - 1) ((Lay.hh (d - 1) r : Nat) : Int)) = ((Lay.sAt d r m : Nat) : Int) := by
  unfold Lay.sAt
  omega
theorem at_near (d r m : Nat) : min ((Lay.sAt d r m : Nat) : Int) ((Lay.hh d (r - 1) : Nat) : Int) = ((Lay.sNr d r m : Nat) : Int) := by
  unfold Lay.sNr
  omega
def spHang (K : PySem.W.Frag) : Sp := fun vs H Q _ => ∃ (pa jl tb : Addr) (par : Int → Int) (lev : Int → Nat) (n d r : Nat) (t : Tk) (A : List V) (Ht : Hp), vs = [.ref pa, .int t.root, .ref jl, .int t.d, .int t.r, .ref tb] ∧ TkOk par lev n d r t ∧ 1 ≤ t.m ∧ n ≤ 100000 ∧
  H pa = some (.lst A) ∧ A.length = n - 1 ∧ H jl = some (.lst (js t.root t.s t.m)) ∧ jl ≠ pa ∧ Tab Ht tb d r ∧ Ext Ht H ∧ Ht pa = none ∧
  ∀ q H' x1 x2 x3, H q = none → But pa H H' → H' pa = some (.lst (A.set (t.top.toNat - 1) (.int t.root))) → H' q = some (.lst [x1, x2, x3]) → TkNew .tup H H' x1 t.tC → TkNew .tup H H' x2 t.tA → TkNew .tup H H' x3 t.tB → Q (.ref q) H'
theorem sc_hang : FnScope ["parents", "root", "joints", "depth", "left", "table", "beyond", "between", "top", "near"] ["parents", "root", "joints", "depth", "left", "table"] (defScope s_hang) := ⟨rfl, rfl, rfl, by decide +kernel, rfl, by decide +kernel, by decide +kernel⟩
theorem ok_hang (T : Txt w K mg) : CalG P w K mg base 2 "hang" ["parents", "root", "joints", "depth", "left", "table"] (spHang K) := by
  refine calG_of T.g_hang T.d_hang sc_hang (fun _ _ _ _ _ _ _ us hl => match us, hl with | [_, _, _, _, _, _], _ => rfl) (fun vs H Q E h => by obtain ⟨_, _, _, _, _, _, _, _, _, _, _, rfl, _⟩ := h; rfl) (fun cdv A outer s H vs Q E hr h => ?_)
  have nd := sc_hang.nd
  have hu := hu64 hr
  obtain ⟨pa, jl, tb, par, lev, n, d, r, t, A, Ht, rfl, ok, hm, hn, hpa, hA, hj, njp, ht, et, hpn, k⟩ := h
  have S := ok.step hm
  obtain ⟨d1, r1, ha, hnr, _, _, _, _, tt, _⟩ := S
  have ha' : Lay.sAt t.d t.r t.m < t.m := ha
  have hn' : Lay.sNr t.d t.r t.m ≤ Lay.sAt t.d t.r t.m := hnr
  refine ⟨_, (pss_cons (ps_set (i := 6) nd rfl (Or.inl rfl) (pe_callB (cr_min2 rfl) (by rfl) T.f_min (by decide +kernel) (pa_cons (pe_op op_sub (pe_callB (lenK (K := K)) (by rfl) T.f_len boot_len (pa_cons (pv 2) pa_nil)) pe_int) (pa_cons (pe_ix (ixK (K := K)) (pe_ix (ixK (K := K)) (pv 5) (pv 4) (fun _ _ => rfl)) (pe_op op_sub (pv 3) pe_int) (fun _ _ => rfl)) pa_nil))))
        (pss_cons (ps_set (i := 7) nd rfl (Or.inl rfl) (pe_op op_sub (pe_op op_sub (pe_callB (lenK (K := K)) (by rfl) T.f_len boot_len (pa_cons (pv 2) pa_nil)) pe_int) (pv 6)))
        (pss_cons (ps_set (i := 8) nd rfl (Or.inl rfl) (pe_ix (ixK (K := K)) (pv 2) (pv 7) (fun _ _ => rfl)))
        (pss_cons (ps_asg (pv 1) (pg_sub (pv 0) (pe_op op_sub (pv 8) pe_int) set_list))
        (pss_cons (ps_set (i := 9) nd rfl (Or.inl rfl) (pe_callB (cr_min2 rfl) (by rfl) T.f_min (by decide +kernel) (pa_cons (pv 7) (pa_cons (pe_ix (ixK (K := K)) (pe_ix (ixK (K := K)) (pv 5) (pe_op op_sub (pv 4) pe_int) (fun _ _ => rfl)) (pv 3) (fun _ _ => rfl)) pa_nil))))
        (pss_one (ps_ret (pe_lst (pa_cons (pe_tup (pa_cons (pv 8) (pa_cons (pe_slice (slK (K := K)) (pv 2) (po_some (pe_op (plusK (K := K)) (pv 7) pe_int)) po_none) (pa_cons (pe_op op_sub (pv 3) pe_int) (pa_cons (pv 4) pa_nil))))) (pa_cons (pe_tup (pa_cons (pv 1) (pa_cons (pe_slice (slK (K := K)) (pv 2) po_none (po_some (pv 9))) (pa_cons (pv 3) (pa_cons (pe_op op_sub (pv 4) pe_int) pa_nil))))) (pa_cons (pe_tup (pa_cons (pv 8) (pa_cons (revK (K := K) (pe_slice (slK (K := K)) (pv 2) (po_some (pv 9)) (po_some (pv 7)))) (pa_cons (pe_op op_sub (pv 3) pe_int) (pa_cons (pe_op op_sub (pv 4) pe_int) pa_nil))))) pa_nil))))))))))), ?_⟩
  have hsm : t.m ≤ n := by
    have h1 := ok.rng
    have h2 := ok.hs
    have a1 := h1 (t.root + t.s) (by unfold Lay.In; rcases h2 with e | e <;> rw [e] <;> omega)
    have a2 := h1 (t.root + t.s * t.m) (by unfold Lay.In; rcases h2 with e | e <;> rw [e] <;> omega)
    rcases h2 with e | e <;> rw [e] at a1 a2 <;> omega
  walk_at "st"
  refine r_lenL (sqL hj) (by rw [js_len]) ?_
  walk_at "st"
  obtain ⟨xs1, b1, t1, t2, t3⟩ := (ht.ext et).get (i := t.r) ok.hr
  refine r_atL (sqL t1) (atI_nat t2) ?_
  walk_at "st"
  have ed : ((t.d : Int) - 1) = ((t.d - 1 : Nat) : Int) := by omega
  rw [ed]
  refine r_atL (sqL t3) (atI_nat (hrow_at (by have := ok.hd; omega))) ?_
  walk_at "st"
  refine r_lenL (sqL hj) (by rw [js_len]) ?_
  walk_at "st"
  rw [at_between t.d t.r t.m hm]
  walk_at "st"
  refine r_atL (sqL hj) (atI_nat (js_at ha)) ?_
  have etop : t.root + t.s * ((t.at_ : Nat) + 1 : Int) = t.top := by
    show _ = t.root + t.s * ((t.at_ + 1 : Nat) : Int)
    rw [Int.natCast_add]
    rfl
  walk_at "st"
  rw [show t.root + t.s * (((Lay.sAt t.d t.r t.m : Nat) : Int) + 1) = t.top from etop]
  refine r_setL (j := t.top.toNat - 1) hpa (by omega) (by omega) (fun H1 h1 n1 => ?_)
  have et1 : Ext Ht H1 := mut_ext et hpn n1
  have hj1 := stay n1 njp hj
  obtain ⟨xs2, b2, u1, u2, u3⟩ := (ht.ext et1).get (i := t.r - 1) (by have := ok.hr; omega)
  walk_at "st"
  have er : ((t.r : Int) - 1) = ((t.r - 1 : Nat) : Int) := by omega
  rw [er]
  refine r_atL (sqL u1) (atI_nat u2) ?_
  walk_at "st"
  refine r_atL (sqL u3) (atI_nat (hrow_at ok.hd)) ?_
  walk_at "st"
  rw [at_near]
  walk_at "st"
  refine r_slL (sqL hj1) (fun l1 H2 hl1 e2 h2 => ?_)
  rw [show ((Lay.sAt t.d t.r t.m : Nat) : Int) + 1 = ((Lay.sAt t.d t.r t.m + 1 : Nat) : Int) by omega, cut_from, js_drop ha'] at h2
  have hj2 := e2 _ _ hj1
  walk_at "st"
  intro q1 H3 hq1 e3 h3
  rw [ed] at h3
  have hj3 := e3 _ _ hj2
  walk_at "st"
  refine r_slL (sqL hj3) (fun l2 H4 hl2 e4 h4 => ?_)
  rw [cut_to, js_take (by have := hnr; have := ha; show Lay.sNr t.d t.r t.m ≤ t.m; exact Nat.le_of_lt (Nat.lt_of_le_of_lt hnr ha))] at h4
  have hj4 := e4 _ _ hj3
  walk_at "st"
  intro q2 H5 hq2 e5 h5
  rw [er] at h5
  have hj5 := e5 _ _ hj4
  walk_at "st"
  refine r_slL (sqL hj5) (fun l3 H6 hl3 e6 h6 => ?_)
  rw [cut_at] at h6
  walk_at "st"
  refine r_rev (sqL h6) (fun l4 H7 hl4 e7 h7 => ?_)
  rw [js_rev ha' hn'] at h7
  walk_at "st"
  intro q3 H8 hq3 e8 h8
  rw [ed, er] at h8
  walk_at "st"
  intro q H9 hq e9 h9
  have hb : But pa H H1 := .of n1
  have f1 : ∀ {x : Addr}, H1 x = none → H x = none := fun {x} hx => by
    cases e : H x with
    | none => rfl
    | some o =>
      by_cases c : x = pa
      · rw [c, h1] at hx; cases hx
      · rw [n1 x c, e] at hx; cases hx
  have e12 := e2
  have e13 := e12.trans e3
  have e14 := e13.trans e4
  have e15 := e14.trans e5
  have e16 := e15.trans e6
  have e17 := e16.trans e7
  have e18 := e17.trans e8
  have e19 := e18.trans e9
  refine k q H9 (.ref q1) (.ref q2) (.ref q3) (f1 (e18.none hq)) (hb.ext e19) (e19 _ _ h1) h9 ⟨q1, l1, rfl, f1 (e12.none hq1), f1 hl1, ?_, ?_⟩ ⟨q2, l2, rfl, f1 (e14.none hq2), f1 (e13.none hl2), ?_, ?_⟩ ⟨q3, l4, rfl, f1 (e17.none hq3), f1 (e16.none hl4), ?_, ?_⟩
  · exact (e4.trans (e5.trans (e6.trans (e7.trans (e8.trans e9))))) _ _ h3
  · exact (e3.trans (e4.trans (e5.trans (e6.trans (e7.trans (e8.trans e9)))))) _ _ h2
  · exact (e6.trans (e7.trans (e8.trans e9))) _ _ h5
  · exact (e5.trans (e6.trans (e7.trans (e8.trans e9)))) _ _ h4
  · exact e9 _ _ h8
  · exact (e8.trans e9) _ _ h7

end
end K26
set_option maxRecDepth 100000
set_option maxHeartbeats 4000000
namespace K26
open PySem PySem.Spec PyProof.Rows L2 L3
local macro_rules | `(tactic| walk_at "s1") => `(tactic| first
  | with_reducible refine r_seq ?_
  | with_reducible refine r_asgN ?_
  | with_reducible refine r_ret ?_
  | with_reducible refine r_next ?_
  | ((with_reducible refine' r_var ?hv ?_); (case hv => exact rfl))
  | with_reducible refine r_c ?_
  | with_reducible refine r_op ?_
  | with_reducible refine r_cons ?_
  | with_reducible refine r_nil ?_
  | with_reducible refine r_plusI ?_
  | with_reducible refine r_I0 ?_
  | with_reducible refine r_test ?_
  | with_reducible refine r_bl ?_
  | with_reducible refine r_ifS ?_
  | with_reducible refine r_cb ?_
  | with_reducible refine r_callS ?_
  | with_reducible refine r_and ?_
  | with_reducible refine r_or ?_
  | with_reducible refine r_not ?_
  | with_reducible refine r_B ?_
  | ((with_reducible refine' r_aug ?hv ?_); (case hv => exact rfl))
  | with_reducible refine r_augS ?_
  | with_reducible refine r_ipI ?_
  | with_reducible refine r_asg ?_
  | with_reducible refine r_sub ?_
  | with_reducible refine r_brk ?_
  | with_reducible refine r_isN1 ?_
  | with_reducible refine r_notN1 ?_
  | with_reducible refine r_intI ?_
  | with_reducible refine r_abs ?_
  | with_reducible refine r_min ?_
  | with_reducible refine r_max ?_
  | ((with_reducible refine' r_mod ?hz ?_); (case hz => omega))
  | ((with_reducible refine' r_pow ?hz ?_); (case hz => exact ⟨by decide, by decide, by decide⟩))
  | ((with_reducible refine' r_rg1 ?hz ?_); (case hz => omega))
  | ((with_reducible refine' r_rg2 ?hz ?_); (case hz => omega))
  | ((with_reducible refine' r_newL ?hz ?_); (case hz => exact Nat.le_of_ble_eq_true rfl))
  | ((with_reducible refine' r_newT ?hz ?_); (case hz => exact Nat.le_of_ble_eq_true rfl))
  | with_reducible refine r_for ?_
  | with_reducible refine r_lc ?_
  | with_reducible refine r_iR1 ?_
  | with_reducible refine r_iR2 ?_
  | with_reducible refine r_iL ?_
  | with_reducible refine r_iT ?_
  | with_reducible refine r_gname ?_
  | with_reducible refine r_gcons ?_
  | with_reducible refine r_gnil ?_
  | with_reducible refine r_yes ?_
  | with_reducible refine r_mkO ?_
  | with_reducible refine r_cont ?_
  | with_reducible refine r_drop ?_
  | with_reducible refine r_retN ?_
  | with_reducible refine r_ifC ?_
  | with_reducible refine r_ifI ?_
  | with_reducible refine r_if ?_
  | with_reducible refine r_un ?_
  | with_reducible refine r_neg ?_
  | with_reducible refine r_andV ?_
  | with_reducible refine r_orV ?_
  | with_reducible refine r_notV ?_
  | with_reducible refine r_tup ?_
  | with_reducible refine r_lst ?_
  | with_reducible refine r_bm ?_
  | with_reducible refine r_bm0 ?_
  | with_reducible refine r_sl ?_
  | with_reducible refine r_chain ?_
  | with_reducible refine r_listDn ?_
  | with_reducible refine r_listRg2 ?_
  | with_reducible refine r_revL ?_
  | with_reducible refine r_noPart ?_
  | with_reducible refine r_part ?_
  | with_reducible refine r_int ?_
  | ((with_reducible refine' r_sameS ?hs ?_); (case hs => exact rfl))
  | ((with_reducible refine' r_otherS ?hs ?_); (case hs => exact rfl))
  | with_reducible refine ite_t ?_
  | with_reducible refine ite_f ?_
  | with_reducible refine ite_nt ?_
  | with_reducible refine ite_nf ?_)
local macro_rules | `(tactic| walk_at "st") => `(tactic| repeat (walk_at "s1"))

section
variable {P : Program} {w : World} {K : PySem.W.Frag} {mg : Str → Option Value} {base : Heap}
/-! ### the layout of the program -/
theorem rg_js (k : Nat) : rgV 1 ((k : Int) + 1) = js 0 1 k := by
  unfold rgV js
  rw [show ((k : Int) + 1 - 1).toNat = k by omega]
  refine List.map_congr_left fun i _ => ?_
  congr 1
  omega
theorem dn_js (n k : Nat) : dnV ((n : Int) - 1) (k : Int) = js n (-1) (n - 1 - k) := by
  unfold dnV js
  rw [show ((n : Int) - 1 - (k : Int)).toNat = n - 1 - k by omega]
  refine List.map_congr_left fun i _ => ?_
  congr 1
  omega
theorem flat_len (k : Nat) (v : V) : (List.replicate k [v]).flatten.length = k := by simp
def spLay (K : PySem.W.Frag) : Sp := fun vs H Q E => ∃ (n d : Int) (par : Int → Int) (lev : Int → Nat) (r : Nat), vs = [.int n, .int d] ∧ (6 < d → Bad K E H "TooMany" "depth") ∧ (d ≤ 6 → 400 < n → Bad K E H "TooMany" "layout") ∧ (d ≤ 6 → n ≤ 400 → n < 1 → Bad K E H "BadLayout" "parts") ∧
  (d ≤ 6 → n ≤ 400 → 1 ≤ n → d < 1 → Bad K E H "BadLayout" "depth") ∧ (d ≤ 6 → n ≤ 400 → 1 ≤ n → 1 ≤ d → Del.Least n.toNat d.toNat r ∧ Lay.Built par lev n.toNat d.toNat r ∧ ∀ p H', H p = none → Ext H H' → H' p = some (.lst ((parL par n.toNat).map V.int)) → Q (.ref p) H')
/-- the tasks that wait, as pairs: the value, the task -/
def Wt (mk : List V → HO) (par : Int → Int) (lev : Int → Nat) (n d r : Nat) (S : List Addr) (H : Hp) (ps : List (V × Tk)) : Prop := ∀ p ∈ ps, TkAt mk H S p.1 p.2 ∧ TkOk par lev n d r p.2
theorem Wt.ext {mk : List V → HO} {par : Int → Int} {lev : Int → Nat} {n d r : Nat} {S : List Addr} {H H' : Hp} {ps : List (V × Tk)} (h : Wt mk par lev n d r S H ps) (e : Ext H H') : Wt mk par lev n d r S H' ps := fun p hp => ⟨(h p hp).1.ext e, (h p hp).2⟩
theorem Wt.but {mk : List V → HO} {par : Int → Int} {lev : Int → Nat} {n d r : Nat} {S : List Addr} {H H' : Hp} {ps : List (V × Tk)} {q : Addr} (h : Wt mk par lev n d r S H ps) (hq : q ∈ S) (e : But q H H') : Wt mk par lev n d r S H' ps := fun p hp => ⟨(h p hp).1.but hq e, (h p hp).2⟩
theorem mu_step {par : Int → Int} {lev : Int → Nat} {n d r : Nat} {t : Tk} (S : TkStep par lev n d r t) (W : List Tk) : tkMu (W ++ [t.tC, t.tA, t.tB]) < tkMu (W ++ [t]) ∧ tkMu (W ++ [t.tA, t.tB, t.tC]) < tkMu (W ++ [t]) := by
  have h1 := S.ha
  have h2 := S.hn
  unfold tkMu
  simp only [List.map_append, List.sum_append, List.map_cons, List.map_nil, List.sum_cons, List.sum_nil]
  have eA : t.tA.m = t.nr := rfl
  have eB : t.tB.m = t.at_ - t.nr := rfl
  have eC : t.tC.m = t.m - 1 - t.at_ := rfl
  rw [eA, eB, eC]
  omega
theorem mu_none (W : List Tk) (t : Tk) : tkMu W < tkMu (W ++ [t]) := by
  unfold tkMu
  simp only [List.map_append, List.sum_append, List.map_cons, List.map_nil, List.sum_cons, List.sum_nil]
  omega
theorem fresh_ne {H : Hp} {S : List Addr} {a : Addr} (hS : ∀ p ∈ S, H p ≠ none) (h : H a = none) : a ∉ S := fun z => hS a z h
theorem sc_index_layout : FnScope ["n", "d", "load", "table", "parents", "near", "waiting", "root", "joints", "depth", "left", "one"] ["n", "d"] (defScope s_index_layout) := ⟨rfl, rfl, rfl, by decide +kernel, rfl, by decide +kernel, by decide +kernel⟩
theorem ok_index_layout (T : Txt w K mg) : CalG P w K mg base 8 "index_layout" ["n", "d"] (spLay K) := by
  have c_BadLayout : ErrI P w K mg base "BadLayout" ["self", "what"] _ := ci_BadLayout T
  have c_bound := ok_bound (P := P) (base := base) T
  have c_least_changed := ok_least_changed (P := P) (base := base) T
  have c_halves := ok_halves (P := P) (base := base) T
  have c_hang := ok_hang (P := P) (base := base) T
  refine calG_of T.g_index_layout T.d_index_layout sc_index_layout (fun _ _ _ _ _ _ _ us hl => match us, hl with | [_, _], _ => rfl) (fun vs H Q E h => by obtain ⟨_, _, _, _, _, rfl, _⟩ := h; rfl) (fun cdv A outer s H vs Q E hr h => ?_)
  have nd := sc_index_layout.nd
  have hu := hu64 hr
  obtain ⟨n, d, par, lev, r, rfl, b1, b2, b3, b4, k⟩ := h
  refine ⟨_, (pss_cons (ps_expr (pe_cal c_bound hr (by omega) (fun σ => L2N.passAt (L2N.takes_of rfl rfl rfl rfl) σ) (pa_cons pe_str (pa_cons (pv 1) pa_nil))))
        (pss_cons (ps_expr (pe_cal c_bound hr (by omega) (fun σ => L2N.passAt (L2N.takes_of rfl rfl rfl rfl) σ) (pa_cons pe_str (pa_cons (pv 0) pa_nil))))
        (pss_cons (ps_if (pt_cmpR op_lt (pv 0) pe_int (nomark _)) (pss_one (L2N.ps_raise rfl (L2N.takes_of rfl rfl rfl rfl) (pmk_errI T.e_BadLayout c_BadLayout hr (by decide) T.g_BadLayout (pa_cons pe_str pa_nil)))) pss_nil)
        (pss_cons (ps_if (pt_cmpR op_lt (pv 1) pe_int (nomark _)) (pss_one (L2N.ps_raise rfl (L2N.takes_of rfl rfl rfl rfl) (pmk_errI T.e_BadLayout c_BadLayout hr (by decide) T.g_BadLayout (pa_cons pe_str pa_nil)))) pss_nil)
        (pss_cons (ps_set (i := 2) nd rfl (Or.inl rfl) (pe_cal c_least_changed hr (by omega) (fun σ => L2N.passAt (L2N.takes_of rfl rfl rfl rfl) σ) (pa_cons (pv 0) (pa_cons (pv 1) pa_nil))))
        (pss_cons (ps_set (i := 3) nd rfl (Or.inl rfl) (pe_cal c_halves hr (by omega) (fun σ => L2N.passAt (L2N.takes_of rfl rfl rfl rfl) σ) (pa_cons (pv 1) (pa_cons (pv 2) pa_nil))))
        (pss_cons (ps_set (i := 4) nd rfl (Or.inl rfl) (pe_op op_timesB (pe_lst (pa_cons pe_int pa_nil)) (pe_op op_sub (pv 0) pe_int)))
        (pss_cons (ps_set (i := 5) nd rfl (Or.inl rfl) (pe_callB (cr_min2 rfl) (by rfl) T.f_min (by decide +kernel) (pa_cons (pe_op op_sub (pv 0) pe_int) (pa_cons (pe_ix (ixK (K := K)) (pe_ix (ixK (K := K)) (pv 3) (pv 2) (fun _ _ => rfl)) (pv 1) (fun _ _ => rfl)) pa_nil))))
        (pss_cons (ps_set (i := 6) nd rfl (Or.inl rfl) (pe_lst (pa_cons (pe_tup (pa_cons pe_int (pa_cons (pe_listRg rfl (by rfl) T.f_list (prg_2 (by rfl) T.f_range pe_int (pe_op (plusK (K := K)) (pv 5) pe_int))) (pa_cons (pv 1) (pa_cons (pv 2) pa_nil))))) (pa_cons (pe_tup (pa_cons (pv 0) (pa_cons (pe_listDn rfl T.f_list T.f_range (pa_cons (pe_op op_sub (pv 0) pe_int) (pa_cons (pv 5) (pa_cons (pe_un un_neg pe_int) pa_nil)))) (pa_cons (pv 1) (pa_cons (pv 2) pa_nil))))) pa_nil))))
        (pss_cons (ps_while (passes_of rfl) (pt_cmpR op_gt (pe_callB (lenK (K := K)) (by rfl) T.f_len boot_len (pa_cons (pv 6) pa_nil)) pe_int (nomark _)) (pss_cons (ps_asg (peBM0 (K := K) (pe_bm0 PySem.F.plainAttrs_list PySem.F.slot_list_pop PySem.F.type_list_pop mt_pop (pv 6))) (pgT (K := K) (pg_tup rfl (pgs_cons (pg_name (i := 7) nd rfl (Or.inl rfl)) (pgs_cons (pg_name (i := 8) nd rfl (Or.inl rfl)) (pgs_cons (pg_name (i := 9) nd rfl (Or.inl rfl)) (pgs_cons (pg_name (i := 10) nd rfl (Or.inl rfl)) pgs_nil)))))))
        (pss_one (ps_if (pt_cmpR op_gt (pe_callB (lenK (K := K)) (by rfl) T.f_len boot_len (pa_cons (pv 8) pa_nil)) pe_int (nomark _)) (pss_one (ps_for (passes_of rfl) rfl (piL (K := K) (pe_cal c_hang hr (by omega) (fun σ => L2N.passAt (L2N.takes_of rfl rfl rfl rfl) σ) (pa_cons (pv 4) (pa_cons (pv 7) (pa_cons (pv 8) (pa_cons (pv 9) (pa_cons (pv 10) (pa_cons (pv 3) pa_nil)))))))) (pg_name (i := 11) nd rfl (Or.inl rfl)) (pss_one (ps_expr (peBM (K := K) (pe_bm PySem.F.plainAttrs_list PySem.F.slot_list_append PySem.F.type_list_append mt_append (pv 6) (pa_cons (pv 11) pa_nil))))))) pss_nil))))
        (pss_one (ps_ret (pv 4))))))))))))), ?_⟩
  walk_at "st"
  refine ⟨_, 6, d, rfl, by simp [kv_LIMITS], fun c => b1 c, fun c1 => ?_⟩
  walk_at "st"
  refine ⟨_, 400, n, rfl, by simp [kv_LIMITS], fun c => b2 (by omega) c, fun c2 => ?_⟩
  walk_at "st"
  refine ite_d (fun c3 => ?_) (fun c3 => ?_)
  · walk_at "st"
    exact r_mk1 (b3 (by omega) (by omega) c3)
  walk_at "st"
  refine ite_d (fun c4 => ?_) (fun c4 => ?_)
  · walk_at "st"
    exact r_mk1 (b4 (by omega) (by omega) (by omega) c4)
  obtain ⟨hl, B, kk⟩ := k (by omega) (by omega) (by omega) (by omega)
  clear b1 b2 b3 b4 k
  obtain ⟨n, rfl⟩ : ∃ m : Nat, n = m := ⟨n.toNat, by omega⟩
  obtain ⟨d, rfl⟩ : ∃ m : Nat, d = m := ⟨d.toNat, by omega⟩
  rw [Int.toNat_natCast] at kk hl B
  rw [Int.toNat_natCast] at hl B
  walk_at "st"
  refine ⟨n, d, rfl, fun c => absurd c (by omega), fun _ _ c => absurd c (by omega), fun _ _ _ c => absurd c (by omega), fun _ _ _ _ r' H1 hl' e1 => ?_⟩
  have er := hl'.uniq hl
  subst er
  have hrn := Del.least_le (by omega) hl
  walk_at "st"
  refine ⟨d, r', rfl, by omega, by omega, fun tb H2 htb e2 ht => ?_⟩
  walk_at "st"
  intro p1 H3 hp1 e3 h3
  walk_at "st"
  refine r_repL h3 (by omega) (by omega) (by simp; omega) (fun pa H4 hpa e4 h4 => ?_)
  have hA0 := flat_len ((n : Int) - 1).toNat (V.int 0)
  walk_at "st"
  have ht4 := (ht.ext e3).ext e4
  obtain ⟨xs1, a1, t1, t2, t3⟩ := ht4.get (i := r') (Nat.le_refl _)
  refine r_atL (sqL t1) (atI_nat t2) ?_
  walk_at "st"
  refine r_atL (sqL t3) (atI_nat (hrow_at (Nat.le_refl d))) ?_
  walk_at "st"
  have enear : min ((n : Int) - 1) ((Lay.hh d r' : Nat) : Int) = ((min (n - 1) (Lay.hh d r') : Nat) : Int) := by omega
  rw [enear]
  walk_at "st"
  refine r_rg ⟨by omega, by omega, by omega, by omega, by omega⟩ (fun l1 H5 hl1 e5 h5 => ?_)
  rw [rg_js] at h5
  walk_at "st"
  intro q1 H6 hq1 e6 h6
  walk_at "st"
  refine r_dn ⟨by omega, by omega, by omega, by omega, by omega⟩ (fun l2 H7 hl2 e7 h7 => ?_)
  rw [dn_js] at h7
  walk_at "st"
  intro q2 H8 hq2 e8 h8
  walk_at "st"
  intro wl H9 hwl e9 h9
  walk_at "st"
  -- what stands
  have hn1 : 1 ≤ n := by omega
  have e24 := e3.trans e4
  have e59 := e5.trans (e6.trans (e7.trans (e8.trans e9)))
  have e29 := e24.trans e59
  have hwl2 : H2 wl = none := ((e24.trans (e5.trans (e6.trans (e7.trans e8))))).none hwl
  have hpa2 : H2 pa = none := e3.none hpa
  have hpa9 : H9 pa = some (.lst (List.replicate ((n : Int) - 1).toNat [V.int 0]).flatten) := e59 _ _ h4
  have nwp : pa ≠ wl := ne_of_none (((e5.trans (e6.trans (e7.trans e8)))) _ _ h4) hwl
  have e02 := e1.trans e2
  obtain ⟨ok0, ok1⟩ := tk_start B hl.1 hn1
  have nS : ∀ {x : Addr}, H4 x = none → x ≠ wl → x ∉ [wl, pa] := fun {x} hx hw z => by
    rcases List.mem_cons.mp z with z | z
    · exact hw z
    · rw [List.mem_singleton.mp z, h4] at hx; cases hx
  have T0 : TkAt .tup H9 [wl, pa] (.ref q1) (tk0 n d r') := ⟨q1, l1, rfl, (e7.trans (e8.trans e9)) _ _ h6, (e6.trans (e7.trans (e8.trans e9))) _ _ h5, nS (e5.none hq1) (ne_of_none ((e7.trans e8) _ _ h6) hwl), nS hl1 (ne_of_none ((e6.trans (e7.trans e8)) _ _ h5) hwl)⟩
  have T1 : TkAt .tup H9 [wl, pa] (.ref q2) (tk1 n d r') := ⟨q2, l2, rfl, e9 _ _ h8, (e8.trans e9) _ _ h7, nS ((e5.trans (e6.trans e7)).none hq2) (ne_of_none h8 hwl), nS ((e5.trans e6).none hl2) (ne_of_none (e8 _ _ h7) hwl)⟩
  refine whileW (fun μ σ' H' => ∃ (ps : List (V × Tk)) (A : List V) (v1 v2 v3 v4 v5 : Option V), μ = tkMu (ps.map (·.2)) ∧ σ' = [some (.int n), some (.int d), some (.int r'), some (.ref tb), some (.ref pa), some (.int (min (n - 1) (Lay.hh d r') : Nat)), some (.ref wl), v1, v2, v3, v4, v5] ∧
      H' wl = some (.lst (ps.map (·.1))) ∧ H' pa = some (.lst A) ∧ A.length = n - 1 ∧ Arr par n 1 A (ps.map (·.2)) ∧ Wt .tup par lev n d r' [wl, pa] H' ps ∧ Ext H2 H' ∧ ps.length ≤ 2 + 3 * (tkMu [tk0 n d r', tk1 n d r'] - tkMu (ps.map (·.2))) ∧ tkMu (ps.map (·.2)) ≤ tkMu [tk0 n d r', tk1 n d r']) (tkMu [tk0 n d r', tk1 n d r'])
    ⟨[(.ref q1, tk0 n d r'), (.ref q2, tk1 n d r')], _, none, none, none, none, none, rfl, rfl, h9, hpa9, by rw [hA0]; omega, arr_start (d := d) (r := r') _ _ (by simp) (by simp), fun p hp => ?_, e29, by simp, Nat.le_refl _⟩ ?_
  · rcases List.mem_cons.mp hp with rfl | hp
    · exact ⟨T0, ok0⟩
    · rw [List.mem_singleton.mp hp]
      exact ⟨T1, ok1⟩
  have hmu0 : tkMu [tk0 n d r', tk1 n d r'] ≤ 3 * n + 5 := by
    unfold tkMu tk0 tk1
    simp only [List.map_cons, List.map_nil, List.sum_cons, List.sum_nil]
    omega
  rintro μ σ' H' ⟨ps, A, v1, v2, v3, v4, v5, rfl, rfl, hw, hpA, hA, arr, wt, eH, hps, hmu⟩
  walk_at "st"
  refine r_lenL (sqL hw) rfl ?_
  walk_at "st"
  rw [List.length_map]
  refine ite_d (fun c => r_N ?_) (fun c => ?_)
  · rcases List.eq_nil_or_concat ps with rfl | ⟨ps0, ⟨x, t⟩, rfl⟩
    · simp at c
    rw [List.concat_eq_append] at *
    rw [List.map_append] at hw arr hps hmu ⊢
    have wt0 : Wt .tup par lev n d r' [wl, pa] H' ps0 := fun p hp => wt p (List.mem_append_left _ hp)
    obtain ⟨⟨a, jl, ex, ha, hj, na, nj⟩, ok⟩ := wt (x, t) (List.mem_append_right _ List.mem_cons_self)
    dsimp only at ex ha hj ok
    subst ex
    have naw : a ≠ wl := fun z => na (by rw [z]; exact List.mem_cons_self)
    have njw : jl ≠ wl := fun z => nj (by rw [z]; exact List.mem_cons_self)
    have njp : jl ≠ pa := fun z => nj (by rw [z]; exact List.mem_cons_of_mem _ List.mem_cons_self)
    walk_at "st"
    refine ⟨.inl ⟨rfl, _, sqL hw⟩, ?_⟩
    refine r_popL (by exact hw) (fun H10 h10 n10 => ?_)
    refine r_gtup (sqT (stay n10 naw ha)) rfl ?_
    walk_at "st"
    have hj10 := stay n10 njw hj
    have hp10 := stay n10 nwp hpA
    have e10 : Ext H2 H10 := mut_ext eH hwl2 n10
    have wt10 := wt0.but (q := wl) List.mem_cons_self (.of n10)
    refine r_lenL (sqL hj10) (by rw [js_len]) ?_
    walk_at "st"
    refine ite_d (fun c2 => ?_) (fun c2 => ?_)
    · have hm : 1 ≤ t.m := by omega
      have S := ok.step hm
      obtain ⟨ms, _⟩ := mu_step S (ps0.map (·.2))
      walk_at "st"
      refine ⟨pa, jl, tb, par, lev, n, d, r', t, A, H2, rfl, ok, hm, by omega, hp10, hA, hj10, njp, ht, e10, hpa2, fun q H11 x1 x2 x3 hq b11 h11 hq11 N1 N2 N3 => ?_⟩
      have e11 : Ext H2 H11 := fun b o hb => b11 b o (ne_of_none hb hpa2) (e10 _ _ hb)
      have hS : ∀ p ∈ [wl, pa], H10 p ≠ none := fun p hp => by
        rcases List.mem_cons.mp hp with rfl | hp
        · rw [h10]; exact fun z => nomatch z
        · rw [List.mem_singleton.mp hp, hp10]; exact fun z => nomatch z
      have hw11 := b11 _ _ nwp.symm h10
      have wt11 := wt10.but (q := pa) (List.mem_cons_of_mem _ List.mem_cons_self) b11
      have nqw : q ≠ wl := fun e => by rw [e, h10] at hq; cases hq
      have nqp : q ≠ pa := fun e => by rw [e, hp10] at hq; cases hq
      refine r_li (sqL hq11) ?_
      have hsz : ps0.length ≤ 30000 := by
        have : ps0.length + 1 ≤ 2 + 3 * (tkMu [tk0 n d r', tk1 n d r'] - tkMu (ps0.map (·.2) ++ [t])) := by simpa using hps
        omega
      refine forW_list (fun i σ' H' => ∃ v : Option V, σ' = [some (.int n), some (.int d), some (.int r'), some (.ref tb), some (.ref pa), some (.int (min (n - 1) (Lay.hh d r') : Nat)), some (.ref wl), some (.int t.root), some (.ref jl), some (.int t.d), some (.int t.r), v] ∧
        H' wl = some (.lst (ps0.map (·.1) ++ [x1, x2, x3].take i)) ∧ (∀ b, b ≠ wl → H' b = H11 b)) ⟨v5, rfl, by rw [hw11, List.take_zero, List.append_nil], fun _ _ => rfl⟩ (fun i σ' H' hi ⟨_, _, _, n'⟩ => sqL (stay n' nqw hq11)) ?_ ?_
      · rintro i y σ' H12 hi ⟨v, rfl, h12, n12⟩
        walk_at "st"
        refine ⟨.inl ⟨rfl, _, sqL h12⟩, ?_⟩
        walk_at "st"
        refine r_app h12 (by rw [List.length_append, List.length_map, List.length_take]; have : ([x1, x2, x3] : List V).length = 3 := rfl; omega) (fun H13 h13 n13 => ?_)
        refine ⟨_, rfl, ?_, fun b hb => (n13 b hb).trans (n12 b hb)⟩
        rw [h13, List.append_assoc]
        congr 3
        have hi3 : i < [x1, x2, x3].length := (List.getElem?_eq_some_iff.mp hi).1
        rw [List.take_succ, hi]
        rfl
      · rintro σ' H12 ⟨v, rfl, h12, n12⟩
        have b12 : But wl H11 H12 := .of n12
        have wt12 := wt11.but (q := wl) List.mem_cons_self b12
        have hps' : (ps0.map (·.1) ++ [x1, x2, x3].take [x1, x2, x3].length) = ((ps0 ++ [(x1, t.tC), (x2, t.tA), (x3, t.tB)]).map (·.1)) := by simp
        have hmu' : (ps0 ++ [(x1, t.tC), (x2, t.tA), (x3, t.tB)]).map (·.2) = ps0.map (·.2) ++ [t.tC, t.tA, t.tB] := by simp
        rw [hps'] at h12
        refine ⟨_, ms, ps0 ++ [(x1, t.tC), (x2, t.tA), (x3, t.tB)], _, _, _, _, _, _, by rw [hmu'], rfl, h12, stay n12 nwp h11, by rw [List.length_set]; exact hA, ?_, fun p hp => ?_, mut_ext e11 hwl2 n12, ?_, ?_⟩
        · rw [hmu']
          have tt := S.t1
          have ek : t.top = ((t.top.toNat - 1 : Nat) : Int) + ((1 : Nat) : Int) := by omega
          refine Arr.set (o := 1) (k := t.top.toNat - 1) arr S (Nat.le_refl _) (Nat.le_of_eq hA.symm) hn1 ek (fun u hu => List.mem_append_left _ hu) ?_ ?_ ?_ <;> simp
        · rcases List.mem_append.mp hp with hp | hp
          · exact wt12 p hp
          · have st : ∀ {x : V} {t' : Tk}, TkNew .tup H10 H11 x t' → TkAt .tup H12 [wl, pa] x t' := fun N => (N.at_ hS).but List.mem_cons_self b12
            rcases List.mem_cons.mp hp with rfl | hp
            · exact ⟨st N1, S.c⟩
            · rcases List.mem_cons.mp hp with rfl | hp
              · exact ⟨st N2, S.a⟩
              · rw [List.mem_singleton.mp hp]
                exact ⟨st N3, S.b⟩
        · rw [hmu', List.length_append]
          have : ps0.length + 1 ≤ 2 + 3 * (tkMu [tk0 n d r', tk1 n d r'] - tkMu (ps0.map (·.2) ++ [t])) := by simpa using hps
          have hm2 : tkMu (ps0.map (·.2) ++ [t]) ≤ tkMu [tk0 n d r', tk1 n d r'] := hmu
          show ps0.length + 3 ≤ _
          omega
        · rw [hmu']
          exact Nat.le_trans (Nat.le_of_lt ms) hmu
    · have hm : t.m = 0 := by omega
      have ms := mu_none (ps0.map (·.2)) t
      walk_at "st"
      have hm2 : tkMu (ps0.map (·.2) ++ [t]) ≤ tkMu [tk0 n d r', tk1 n d r'] := hmu
      refine ⟨_, ms, ps0, A, _, _, _, _, _, rfl, rfl, h10, hp10, hA, arr.none hm, wt10, e10, ?_, by omega⟩
      have : ps0.length + 1 ≤ 2 + 3 * (tkMu [tk0 n d r', tk1 n d r'] - tkMu (ps0.map (·.2) ++ [t])) := by simpa using hps
      omega
  · walk_at "st"
    have e0 : ps = [] := List.eq_nil_of_length_eq_zero (by omega)
    subst e0
    have ea := Arr.done0 arr hA
    rw [ea] at hpA
    exact kk pa H' (e02.none hpa2) (e02.trans eH) hpA

end
end K26
set_option maxRecDepth 100000
set_option maxHeartbeats 4000000
namespace K26
open PySem PySem.Spec PyProof.Rows L2 L3
local macro_rules | `(tactic| walk_at "s1") => `(tactic| first
  | with_reducible refine r_seq ?_
  | with_reducible refine r_asgN ?_
  | with_reducible refine r_ret ?_
  | with_reducible refine r_next ?_
  | ((with_reducible refine' r_var ?hv ?_); (case hv => exact rfl))
  | with_reducible refine r_c ?_
  | with_reducible refine r_op ?_
  | with_reducible refine r_cons ?_
  | with_reducible refine r_nil ?_
  | with_reducible refine r_plusI ?_
  | with_reducible refine r_I0 ?_
  | with_reducible refine r_test ?_
  | with_reducible refine r_bl ?_
  | with_reducible refine r_ifS ?_
  | with_reducible refine r_cb ?_
  | with_reducible refine r_callS ?_
  | with_reducible refine r_and ?_
  | with_reducible refine r_or ?_
  | with_reducible refine r_not ?_
  | with_reducible refine r_B ?_
  | ((with_reducible refine' r_aug ?hv ?_); (case hv => exact rfl))
  | with_reducible refine r_augS ?_
  | with_reducible refine r_ipI ?_
  | with_reducible refine r_asg ?_
  | with_reducible refine r_sub ?_
  | with_reducible refine r_brk ?_
  | with_reducible refine r_isN1 ?_
  | with_reducible refine r_notN1 ?_
  | with_reducible refine r_intI ?_
  | with_reducible refine r_abs ?_
  | with_reducible refine r_min ?_
  | with_reducible refine r_max ?_
  | ((with_reducible refine' r_mod ?hz ?_); (case hz => omega))
  | ((with_reducible refine' r_pow ?hz ?_); (case hz => exact ⟨by decide, by decide, by decide⟩))
  | ((with_reducible refine' r_rg1 ?hz ?_); (case hz => omega))
  | ((with_reducible refine' r_rg2 ?hz ?_); (case hz => omega))
  | ((with_reducible refine' r_newL ?hz ?_); (case hz => exact Nat.le_of_ble_eq_true rfl))
  | ((with_reducible refine' r_newT ?hz ?_); (case hz => exact Nat.le_of_ble_eq_true rfl))
  | with_reducible refine r_for ?_
  | with_reducible refine r_lc ?_
  | with_reducible refine r_iR1 ?_
  | with_reducible refine r_iR2 ?_
  | with_reducible refine r_iL ?_
  | with_reducible refine r_iT ?_
  | with_reducible refine r_gname ?_
  | with_reducible refine r_gcons ?_
  | with_reducible refine r_gnil ?_
  | with_reducible refine r_yes ?_
  | with_reducible refine r_mkO ?_
  | with_reducible refine r_cont ?_
  | with_reducible refine r_drop ?_
  | with_reducible refine r_retN ?_
  | with_reducible refine r_ifC ?_
  | with_reducible refine r_ifI ?_
  | with_reducible refine r_if ?_
  | with_reducible refine r_un ?_
  | with_reducible refine r_neg ?_
  | with_reducible refine r_andV ?_
  | with_reducible refine r_orV ?_
  | with_reducible refine r_notV ?_
  | with_reducible refine r_tup ?_
  | with_reducible refine r_lst ?_
  | with_reducible refine r_bm ?_
  | with_reducible refine r_bm0 ?_
  | with_reducible refine r_sl ?_
  | with_reducible refine r_chain ?_
  | with_reducible refine r_listDn ?_
  | with_reducible refine r_listRg2 ?_
  | with_reducible refine r_revL ?_
  | with_reducible refine r_noPart ?_
  | with_reducible refine r_part ?_
  | with_reducible refine r_int ?_
  | ((with_reducible refine' r_sameS ?hs ?_); (case hs => exact rfl))
  | ((with_reducible refine' r_otherS ?hs ?_); (case hs => exact rfl))
  | with_reducible refine ite_t ?_
  | with_reducible refine ite_f ?_
  | with_reducible refine ite_nt ?_
  | with_reducible refine ite_nf ?_)
local macro_rules | `(tactic| walk_at "st") => `(tactic| repeat (walk_at "s1"))

section
variable {P : Program} {w : World} {K : PySem.W.Frag} {mg : Str → Option Value} {base : Heap}
/-! ### the law's own count -/
def spLReach : Sp := fun vs H Q _ => ∃ (d r : Nat), vs = [.int d, .int r] ∧ d ≤ 5000 ∧ r ≤ 5000 ∧ Q (.int (Del.D d r : Nat)) H
theorem tmz (d r s : Nat) (hs : s ≤ min d r) : ((Del.tm d r s : Nat) : Int) * 2 * ((d : Int) - s) * ((r : Int) - s) / (((s : Int) + 1) * ((s : Int) + 1)) = ((Del.tm d r (s + 1) : Nat) : Int) := by
  have h := Del.tm_next d r s
  have e1 : ((d : Int) - s) = ((d - s : Nat) : Int) := by omega
  have e2 : ((r : Int) - s) = ((r - s : Nat) : Int) := by omega
  have e3 : ((s : Int) + 1) * ((s : Int) + 1) = (((s + 1) * (s + 1) : Nat) : Int) := by push_cast; rfl
  have e4 : ((Del.tm d r s : Nat) : Int) * 2 * ((d - s : Nat) : Int) * ((r - s : Nat) : Int) = ((Del.tm d r s * 2 * (d - s) * (r - s) : Nat) : Int) := by push_cast; rfl
  rw [e1, e2, e3, e4, h, ← Int.natCast_ediv, Nat.mul_div_cancel _ (Nat.mul_pos (by omega) (by omega))]
theorem sc__law_reach : FnScope ["d", "r", "found", "term", "s"] ["d", "r"] (defScope s__law_reach) := ⟨rfl, rfl, rfl, by decide +kernel, rfl, by decide +kernel, by decide +kernel⟩
theorem ok_law_reach (T : Txt w K mg) : CalG P w K mg base 2 "_law_reach" ["d", "r"] spLReach := by
  refine calG_of T.g__law_reach T.d__law_reach sc__law_reach (fun _ _ _ _ _ _ _ us hl => match us, hl with | [_, _], _ => rfl) (fun vs H Q E h => by obtain ⟨c, k, rfl, _⟩ := h; rfl) (fun cdv A outer s H vs Q E hr h => ?_)
  have nd := sc__law_reach.nd
  have hu := hu64 hr
  obtain ⟨d, r, rfl, hd, hr', k⟩ := h
  refine ⟨_, (pss_cons (ps_set (i := 2) nd rfl (Or.inl rfl) pe_int)
        (pss_cons (ps_set (i := 3) nd rfl (Or.inl rfl) pe_int)
        (pss_cons (ps_for (passes_of rfl) rfl (pi_range1 (by rfl) T.f_range (pa_cons (pe_op (plusK (K := K)) (pe_callB (cr_min2 rfl) (by rfl) T.f_min (by decide +kernel) (pa_cons (pv 0) (pa_cons (pv 1) pa_nil))) pe_int) pa_nil)) (pg_name (i := 4) nd rfl (Or.inl rfl)) (pss_cons (ps_set (i := 2) nd rfl (Or.inl rfl) (pe_op (plusK (K := K)) (pv 2) (pv 3)))
        (pss_one (ps_set (i := 3) nd rfl (Or.inl rfl) (pe_op op_fdivW (pe_op op_timesB (pe_op op_timesB (pe_op op_timesB (pv 3) pe_int) (pe_op op_sub (pv 0) (pv 4))) (pe_op op_sub (pv 1) (pv 4))) (pe_op op_timesB (pe_op (plusK (K := K)) (pv 4) pe_int) (pe_op (plusK (K := K)) (pv 4) pe_int)))))))
        (pss_one (ps_ret (pv 2)))))), ?_⟩
  walk_at "st"
  have em : (min (d : Int) (r : Int) + 1).toNat = min d r + 1 := by omega
  rw [em]
  refine forW_range (fun i σ' H' => ∃ v, σ' = [some (.int d), some (.int r), some (.int (Del.sm (Del.tm d r) i : Nat)), some (.int (Del.tm d r i : Nat)), v] ∧ H' = H) ⟨none, ?_, rfl⟩ ?_ ?_
  · simp [Del.sm, Del.tm, Del.ch_0]
    rfl
  · rintro i σ' H' hi ⟨v, rfl, rfl⟩
    have hi' : i ≤ min d r := by omega
    walk_at "st"
    refine r_timesB (cmR (by decide) (by decide)) ?_
    walk_at "st"
    refine r_timesB (cmR (by omega) (by omega)) ?_
    walk_at "st"
    refine r_timesB (cmR (by omega) (by omega)) ?_
    walk_at "st"
    refine r_timesB (cmR (by omega) (by omega)) ?_
    walk_at "st"
    have hq : (0 : Int) < ((0 + (i : Int)) + 1) * ((0 + (i : Int)) + 1) := Int.mul_pos (by omega) (by omega)
    have hq2 : ((0 + (i : Int)) + 1) * ((0 + (i : Int)) + 1) < 2 ^ 250 := by
      have : ((0 + (i : Int)) + 1) * ((0 + (i : Int)) + 1) ≤ 5001 * 5001 := Int.mul_le_mul (by omega) (by omega) (by omega) (by omega)
      omega
    refine r_div (cdW hq hq2) ?_
    refine ⟨some (.int (0 + (i : Int))), ?_, rfl⟩
    show [some (V.int d), some (V.int r), some (V.int _), some (V.int _), _] = _
    have e := tmz d r i hi'
    rw [← Int.zero_add (i : Int)] at e
    rw [e]
    rw [show Del.sm (Del.tm d r) (i + 1) = Del.sm (Del.tm d r) i + Del.tm d r i from rfl]
    rw [Int.natCast_add]
  · rintro σ' H' ⟨v, rfl, rfl⟩
    walk_at "st"
    rw [← Del.D_min]
    exact k

/-! ### the layout of the law -/
theorem Wt.push {mk : List V → HO} {par : Int → Int} {lev : Int → Nat} {n d r : Nat} {S : List Addr} {H : Hp} {ps : List (V × Tk)} {x : V} {t : Tk} (h : Wt mk par lev n d r S H ps) (a : TkAt mk H S x t) (o : TkOk par lev n d r t) : Wt mk par lev n d r S H (ps ++ [(x, t)]) := fun p hp => by
  rcases List.mem_append.mp hp with hp | hp
  · exact h p hp
  · rw [List.mem_singleton.mp hp]
    exact ⟨a, o⟩
theorem js_up (root s : Int) (a k : Nat) (h : k < a) : root + s * (((a - 1 - k : Nat) : Int) + 1) = (root + s * (a + 1 : Nat)) + (-s) * ((k : Nat) + 1 : Int) := by
  rw [Int.neg_mul, ← Int.sub_eq_add_neg, Int.add_sub_assoc, ← Int.mul_sub]
  congr 2
  omega
theorem js_n (n m : Nat) : (List.range m).map (fun (k : Nat) => V.int ((n : Int) - 1 - (0 + (k : Nat)))) = js n (-1) m := by
  unfold js
  refine List.map_congr_left fun i _ => ?_
  congr 1
  omega
def spLLay (K : PySem.W.Frag) : Sp := fun vs H Q _ => ∃ (n d : Nat) (par : Int → Int) (lev : Int → Nat) (r : Nat), vs = [.int n, .int d] ∧ (1 ≤ n ∧ n ≤ 400) ∧ (1 ≤ d ∧ d ≤ 6) ∧ Del.Least n d r ∧ Lay.Built par lev n d r ∧ ∀ p H', H p = none → Ext H H' → H' p = some (.lst ((parL par n).map V.int)) → Q (.ref p) H'
theorem sc__law_layout : FnScope ["n", "d", "r", "many", "parents", "left", "root", "joints", "deep", "load", "beyond", "at", "near", "k"] ["n", "d"] (defScope s__law_layout) := ⟨rfl, rfl, rfl, by decide +kernel, rfl, by decide +kernel, by decide +kernel⟩
theorem ok_law_layout (T : Txt w K mg) : CalG P w K mg base 4 "_law_layout" ["n", "d"] (spLLay K) := by
  have c__law_reach := ok_law_reach (P := P) (base := base) T
  refine calG_of T.g__law_layout T.d__law_layout sc__law_layout (fun _ _ _ _ _ _ _ us hl => match us, hl with | [_, _], _ => rfl) (fun vs H Q E h => by obtain ⟨_, _, _, _, _, rfl, _⟩ := h; rfl) (fun cdv A outer s H vs Q E hr h => ?_)
  have nd := sc__law_layout.nd
  have hu := hu64 hr
  obtain ⟨n, d, par, lev, r, rfl, ⟨hn1, hn2⟩, ⟨hd1, hd2⟩, hl, B, k⟩ := h
  have hrn := Del.least_le hd1 hl
  refine ⟨_, (pss_cons (ps_set (i := 2) nd rfl (Or.inl rfl) pe_int)
        (pss_cons (ps_while (passes_of rfl) (pt_cmpR op_lt (pe_cal c__law_reach hr (by omega) (fun σ => L2N.passAt (L2N.takes_of rfl rfl rfl rfl) σ) (pa_cons (pv 1) (pa_cons (pv 2) pa_nil))) (pv 0) (nomark _)) (pss_one (ps_set (i := 2) nd rfl (Or.inl rfl) (pe_op (plusK (K := K)) (pv 2) pe_int))))
        (pss_cons (ps_set (i := 3) nd rfl (Or.inl rfl) (pe_callB (cr_min2 rfl) (by rfl) T.f_min (by decide +kernel) (pa_cons (pe_op op_sub (pv 0) pe_int) (pa_cons (pe_op op_fdivW (pe_op op_sub (pe_cal c__law_reach hr (by omega) (fun σ => L2N.passAt (L2N.takes_of rfl rfl rfl rfl) σ) (pa_cons (pv 1) (pa_cons (pv 2) pa_nil))) pe_int) pe_int) pa_nil))))
        (pss_cons (ps_set (i := 4) nd rfl (Or.inl rfl) (pe_op op_timesB (pe_lst (pa_cons pe_int pa_nil)) (pe_op (plusK (K := K)) (pv 0) pe_int)))
        (pss_cons (ps_set (i := 5) nd rfl (Or.inl rfl) (pe_lst (pa_cons (pe_lst (pa_cons pe_int (pa_cons (pe_listRg rfl (by rfl) T.f_list (prg_2 (by rfl) T.f_range pe_int (pe_op (plusK (K := K)) (pv 3) pe_int))) (pa_cons (pv 1) (pa_cons (pv 2) pa_nil))))) (pa_cons (pe_lst (pa_cons (pv 0) (pa_cons (pe_lc (own := [("k", 13)]) rfl nd (pi_range1 (by rfl) T.f_range (pa_cons (pe_op op_sub (pe_op op_sub (pv 0) pe_int) (pv 3)) pa_nil)) (blkOk_by (N := ["n", "d", "r", "many", "parents", "left", "root", "joints", "deep", "load", "beyond", "at", "near", "k"]) (sc := defScope s__law_layout) (by decide +kernel)) (fun _ _ _ _ _ => (pg_name (i := 13) nd rfl (Or.inl rfl))) (fun _ _ _ _ _ => pts_nil) (fun _ _ _ _ _ => (pe_op op_sub (pe_op op_sub (pv 0) pe_int) (pv 13)))) (pa_cons (pv 1) (pa_cons (pv 2) pa_nil))))) pa_nil))))
        (pss_cons (ps_while (passes_of rfl) (pt_cmpR op_gt (pe_callB (lenK (K := K)) (by rfl) T.f_len boot_len (pa_cons (pv 5) pa_nil)) pe_int (nomark _)) (pss_cons (ps_asg (peBM0 (K := K) (pe_bm0 PySem.F.plainAttrs_list PySem.F.slot_list_pop PySem.F.type_list_pop mt_pop (pv 5))) (pgL (K := K) (pg_lst rfl (pgs_cons (pg_name (i := 6) nd rfl (Or.inl rfl)) (pgs_cons (pg_name (i := 7) nd rfl (Or.inr rfl)) (pgs_cons (pg_name (i := 8) nd rfl (Or.inl rfl)) (pgs_cons (pg_name (i := 9) nd rfl (Or.inl rfl)) pgs_nil)))))))
        (pss_one (ps_if (pt_cmpR op_gt (pe_callB (lenK (K := K)) (by rfl) T.f_len boot_len (pa_cons (pv 7) pa_nil)) pe_int (nomark _)) (pss_cons (ps_set (i := 10) nd rfl (Or.inl rfl) (pe_callB (cr_min2 rfl) (by rfl) T.f_min (by decide +kernel) (pa_cons (pe_op op_sub (pe_callB (lenK (K := K)) (by rfl) T.f_len boot_len (pa_cons (pv 7) pa_nil)) pe_int) (pa_cons (pe_op op_fdivW (pe_op op_sub (pe_cal c__law_reach hr (by omega) (fun σ => L2N.passAt (L2N.takes_of rfl rfl rfl rfl) σ) (pa_cons (pe_op op_sub (pv 8) pe_int) (pa_cons (pv 9) pa_nil))) pe_int) pe_int) pa_nil))))
        (pss_cons (ps_set (i := 11) nd rfl (Or.inr rfl) (pe_op op_sub (pe_op op_sub (pe_callB (lenK (K := K)) (by rfl) T.f_len boot_len (pa_cons (pv 7) pa_nil)) pe_int) (pv 10)))
        (pss_cons (ps_set (i := 12) nd rfl (Or.inl rfl) (pe_callB (cr_min2 rfl) (by rfl) T.f_min (by decide +kernel) (pa_cons (pv 11) (pa_cons (pe_op op_fdivW (pe_op op_sub (pe_cal c__law_reach hr (by omega) (fun σ => L2N.passAt (L2N.takes_of rfl rfl rfl rfl) σ) (pa_cons (pv 8) (pa_cons (pe_op op_sub (pv 9) pe_int) pa_nil))) pe_int) pe_int) pa_nil))))
        (pss_cons (ps_asg (pv 6) (pg_sub (pv 4) (pe_ix (ixK (K := K)) (pv 7) (pv 11) (fun _ _ => rfl)) set_list))
        (pss_cons (ps_expr (peBM (K := K) (pe_bm PySem.F.plainAttrs_list PySem.F.slot_list_append PySem.F.type_list_append mt_append (pv 5) (pa_cons (pe_lst (pa_cons (pv 6) (pa_cons (pe_slice (slK (K := K)) (pv 7) po_none (po_some (pv 12))) (pa_cons (pv 8) (pa_cons (pe_op op_sub (pv 9) pe_int) pa_nil))))) pa_nil))))
        (pss_cons (ps_expr (peBM (K := K) (pe_bm PySem.F.plainAttrs_list PySem.F.slot_list_append PySem.F.type_list_append mt_append (pv 5) (pa_cons (pe_lst (pa_cons (pe_ix (ixK (K := K)) (pv 7) (pv 11) (fun _ _ => rfl)) (pa_cons (pe_lc (own := [("k", 13)]) rfl nd (pi_range1 (by rfl) T.f_range (pa_cons (pe_op op_sub (pv 11) (pv 12)) pa_nil)) (blkOk_by (N := ["n", "d", "r", "many", "parents", "left", "root", "joints", "deep", "load", "beyond", "at", "near", "k"]) (sc := defScope s__law_layout) (by decide +kernel)) (fun _ _ _ _ _ => (pg_name (i := 13) nd rfl (Or.inl rfl))) (fun _ _ _ _ _ => pts_nil) (fun _ _ _ _ _ => (pe_ix (ixK (K := K)) (pv 7) (pe_op op_sub (pe_op op_sub (pv 11) pe_int) (pv 13)) (fun _ _ => rfl)))) (pa_cons (pe_op op_sub (pv 8) pe_int) (pa_cons (pe_op op_sub (pv 9) pe_int) pa_nil))))) pa_nil))))
        (pss_one (ps_expr (peBM (K := K) (pe_bm PySem.F.plainAttrs_list PySem.F.slot_list_append PySem.F.type_list_append mt_append (pv 5) (pa_cons (pe_lst (pa_cons (pe_ix (ixK (K := K)) (pv 7) (pv 11) (fun _ _ => rfl)) (pa_cons (pe_slice (slK (K := K)) (pv 7) (po_some (pe_op (plusK (K := K)) (pv 11) pe_int)) po_none) (pa_cons (pe_op op_sub (pv 8) pe_int) (pa_cons (pv 9) pa_nil))))) pa_nil))))))))))) pss_nil))))
        (pss_one (ps_ret (pe_slice (slK (K := K)) (pv 4) (po_some pe_int) (po_some (pv 0))))))))))), ?_⟩
  walk_at "st"
  refine whileW (fun μ σ' H' => ∃ r' : Nat, μ = r - r' ∧ r' ≤ r ∧ σ' = [some (.int n), some (.int d), some (.int r'), none, none, none, none, none, none, none, none, none, none, none] ∧ H = H') r ⟨0, rfl, Nat.zero_le _, rfl, rfl⟩ ?_
  rintro μ σ' H' ⟨r', rfl, hr'r, rfl, rfl⟩
  walk_at "st"
  refine ⟨d, r', rfl, by omega, by omega, ?_⟩
  walk_at "st"
  refine ite_d (fun c => r_N ?_) (fun c => ?_)
  · walk_at "st"
    have : r' < r := by
      refine Nat.lt_of_le_of_ne hr'r fun e => ?_
      subst e
      have := hl.1
      omega
    exact ⟨r - (r' + 1), by omega, r' + 1, rfl, this, rfl, rfl⟩
  have er : r' = r := by
    refine Nat.le_antisymm hr'r (Nat.le_of_not_lt fun c2 => ?_)
    have := hl.2 r' c2
    omega
  subst er
  walk_at "st"
  refine ⟨d, r', rfl, by omega, by omega, ?_⟩
  walk_at "st"
  refine r_div (cdW (by decide) (by decide)) ?_
  rw [half_eq]
  walk_at "st"
  have enear : min ((n : Int) - 1) ((Lay.hh d r' : Nat) : Int) = ((min (n - 1) (Lay.hh d r') : Nat) : Int) := by omega
  rw [enear]
  walk_at "st"
  intro p1 H3 hp1 e3 h3
  walk_at "st"
  refine r_repL h3 (by omega) (by omega) (by simp; omega) (fun pa H4 hpa e4 h4 => ?_)
  have hA0 := flat_len ((n : Int) + 1).toNat (V.int 0)
  walk_at "st"
  refine r_rg ⟨by omega, by omega, by omega, by omega, by omega⟩ (fun l1 H5 hl1 e5 h5 => ?_)
  rw [rg_js] at h5
  walk_at "st"
  intro q1 H6 hq1 e6 h6
  walk_at "st"
  intro l2 hl2
  rw [show ((n : Int) - 1 - ((min (n - 1) (Lay.hh d r') : Nat) : Int)).toNat = n - 1 - min (n - 1) (Lay.hh d r') by omega]
  refine lcW_range (LcP H6 l2 fun k => .int ((n : Int) - 1 - (0 + (k : Nat)))) (.start hl2) (fun i H' hi p => ?_) (fun H7 p7 => ?_)
  · walk_at "st"
    refine r_lcW rfl ?_
    walk_at "st"
    exact p.push hl2 (by omega) .rfl rfl
  have h7 := p7.d
  rw [js_n] at h7
  have e7 := p7.e
  walk_at "st"
  intro q2 H8 hq2 e8 h8
  walk_at "st"
  intro wl H9 hwl e9 h9
  walk_at "st"
  have e24 := e3.trans e4
  have e59 := e5.trans (e6.trans (e7.trans (e8.trans e9)))
  have e29 := e24.trans e59
  have hwl2 : H wl = none := ((e24.trans (e5.trans (e6.trans (e7.trans e8))))).none hwl
  have hpa2 : H pa = none := e3.none hpa
  have hpa9 : H9 pa = some (.lst (List.replicate ((n : Int) + 1).toNat [V.int 0]).flatten) := e59 _ _ h4
  have nwp : pa ≠ wl := ne_of_none (((e5.trans (e6.trans (e7.trans e8)))) _ _ h4) hwl
  obtain ⟨ok0, ok1⟩ := tk_start B hl.1 hn1
  have nS : ∀ {x : Addr}, H4 x = none → x ≠ wl → x ∉ [wl, pa] := fun {x} hx hw z => by
    rcases List.mem_cons.mp z with z | z
    · exact hw z
    · rw [List.mem_singleton.mp z, h4] at hx; cases hx
  have T0 : TkAt .lst H9 [wl, pa] (.ref q1) (tk0 n d r') := ⟨q1, l1, rfl, (e7.trans (e8.trans e9)) _ _ h6, (e6.trans (e7.trans (e8.trans e9))) _ _ h5, nS (e5.none hq1) (ne_of_none ((e7.trans e8) _ _ h6) hwl), nS hl1 (ne_of_none ((e6.trans (e7.trans e8)) _ _ h5) hwl)⟩
  have T1 : TkAt .lst H9 [wl, pa] (.ref q2) (tk1 n d r') := ⟨q2, l2, rfl, e9 _ _ h8, (e8.trans e9) _ _ h7, nS ((e5.trans (e6.trans e7)).none hq2) (ne_of_none h8 hwl), nS ((e5.trans e6).none hl2) (ne_of_none (e8 _ _ h7) hwl)⟩
  refine whileW (fun μ σ' H' => ∃ (ps : List (V × Tk)) (A : List V) (v1 v2 v3 v4 v5 v6 v7 : Option V), μ = tkMu (ps.map (·.2)) ∧ σ' = [some (.int n), some (.int d), some (.int r'), some (.int (min (n - 1) (Lay.hh d r') : Nat)), some (.ref pa), some (.ref wl), v1, v2, v3, v4, v5, v6, v7, none] ∧
      H' wl = some (.lst (ps.map (·.1))) ∧ H' pa = some (.lst A) ∧ A.length = n + 1 ∧ Arr par n 0 A (ps.map (·.2)) ∧ Wt .lst par lev n d r' [wl, pa] H' ps ∧ Ext H H' ∧ ps.length ≤ 2 + 3 * (tkMu [tk0 n d r', tk1 n d r'] - tkMu (ps.map (·.2))) ∧ tkMu (ps.map (·.2)) ≤ tkMu [tk0 n d r', tk1 n d r']) (tkMu [tk0 n d r', tk1 n d r'])
    ⟨[(.ref q1, tk0 n d r'), (.ref q2, tk1 n d r')], _, none, none, none, none, none, none, none, rfl, rfl, h9, hpa9, by rw [hA0]; omega, arr_start (d := d) (r := r') _ _ (by simp) (by simp), fun p hp => ?_, e29, by simp, Nat.le_refl _⟩ ?_
  · rcases List.mem_cons.mp hp with rfl | hp
    · exact ⟨T0, ok0⟩
    · rw [List.mem_singleton.mp hp]
      exact ⟨T1, ok1⟩
  have hmu0 : tkMu [tk0 n d r', tk1 n d r'] ≤ 3 * n + 5 := by
    unfold tkMu tk0 tk1
    simp only [List.map_cons, List.map_nil, List.sum_cons, List.sum_nil]
    omega
  rintro μ σ' H' ⟨ps, A, v1, v2, v3, v4, v5, v6, v7, rfl, rfl, hw, hpA, hA, arr, wt, eH, hps, hmu⟩
  walk_at "st"
  refine r_lenL (sqL hw) rfl ?_
  walk_at "st"
  rw [List.length_map]
  refine ite_d (fun c => r_N ?_) (fun c => ?_)
  · rcases List.eq_nil_or_concat ps with rfl | ⟨ps0, ⟨x, t⟩, rfl⟩
    · simp at c
    rw [List.concat_eq_append] at *
    rw [List.map_append] at hw arr hps hmu ⊢
    have wt0 : Wt .lst par lev n d r' [wl, pa] H' ps0 := fun p hp => wt p (List.mem_append_left _ hp)
    obtain ⟨⟨a, jl, ex, ha, hj, na, nj⟩, ok⟩ := wt (x, t) (List.mem_append_right _ List.mem_cons_self)
    dsimp only at ex ha hj ok
    subst ex
    have naw : a ≠ wl := fun z => na (by rw [z]; exact List.mem_cons_self)
    have njw : jl ≠ wl := fun z => nj (by rw [z]; exact List.mem_cons_self)
    have njp : jl ≠ pa := fun z => nj (by rw [z]; exact List.mem_cons_of_mem _ List.mem_cons_self)
    walk_at "st"
    refine ⟨.inl ⟨rfl, _, sqL hw⟩, ?_⟩
    refine r_popL (by exact hw) (fun H10 h10 n10 => ?_)
    refine r_glst (sqL (stay n10 naw ha)) rfl ?_
    walk_at "st"
    have hj10 := stay n10 njw hj
    have hp10 := stay n10 nwp hpA
    have e10 : Ext H H10 := mut_ext eH hwl2 n10
    have wt10 := wt0.but (q := wl) List.mem_cons_self (.of n10)
    refine r_lenL (sqL hj10) (by rw [js_len]) ?_
    walk_at "st"
    refine ite_d (fun c2 => ?_) (fun c2 => ?_)
    · have hm : 1 ≤ t.m := by omega
      have S := ok.step hm
      have hdd := ok.hd
      have hsm : t.m ≤ n := by
        have h1 := ok.rng
        have h2 := ok.hs
        have a1 := h1 (t.root + t.s) (by unfold Lay.In; rcases h2 with e | e <;> rw [e] <;> omega)
        have a2 := h1 (t.root + t.s * t.m) (by unfold Lay.In; rcases h2 with e | e <;> rw [e] <;> omega)
        rcases h2 with e | e <;> rw [e] at a1 a2 <;> omega
      have hrr := ok.hr
      obtain ⟨_, ms⟩ := mu_step S (ps0.map (·.2))
      have ha' : Lay.sAt t.d t.r t.m < t.m := S.ha
      have hn' : Lay.sNr t.d t.r t.m ≤ Lay.sAt t.d t.r t.m := S.hn
      have d1 := S.d1
      have r1 := S.r1
      have ed : ((t.d : Int) - 1) = ((t.d - 1 : Nat) : Int) := by omega
      have er : ((t.r : Int) - 1) = ((t.r - 1 : Nat) : Int) := by omega
      walk_at "st"
      refine r_lenL (sqL hj10) (by rw [js_len]) ?_
      walk_at "st"
      refine ⟨t.d - 1, t.r, by rw [ed], by omega, by omega, ?_⟩
      walk_at "st"
      refine r_div (cdW (by decide) (by decide)) ?_
      rw [half_eq]
      walk_at "st"
      refine r_lenL (sqL hj10) (by rw [js_len]) ?_
      walk_at "st"
      rw [at_between t.d t.r t.m hm]
      walk_at "st"
      refine ⟨t.d, t.r - 1, by rw [er], by omega, by omega, ?_⟩
      walk_at "st"
      refine r_div (cdW (by decide) (by decide)) ?_
      rw [half_eq]
      walk_at "st"
      rw [at_near]
      walk_at "st"
      have etop : t.root + t.s * ((t.at_ : Nat) + 1 : Int) = t.top := by
        show _ = t.root + t.s * ((t.at_ + 1 : Nat) : Int)
        rw [Int.natCast_add]
        rfl
      have etop' : t.root + t.s * (((Lay.sAt t.d t.r t.m : Nat) : Int) + 1) = t.top := etop
      refine r_atL (sqL hj10) (atI_nat (js_at ha')) ?_
      rw [etop']
      have tt := S.t1
      have ek : t.top = ((t.top.toNat : Nat) : Int) + ((0 : Nat) : Int) := by omega
      refine r_setL (j := t.top.toNat) hp10 (by omega) (by omega) (fun H11 h11 n11 => ?_)
      have e11 : Ext H H11 := mut_ext e10 hpa2 n11
      have hw11 := stay n11 nwp.symm h10
      have hj11 := stay n11 njp hj10
      have wt11 := wt10.but (q := pa) (List.mem_cons_of_mem _ List.mem_cons_self) (.of n11)
      have hsz : ps0.length ≤ 30000 := by
        have : ps0.length + 1 ≤ 2 + 3 * (tkMu [tk0 n d r', tk1 n d r'] - tkMu (ps0.map (·.2) ++ [t])) := by simpa using hps
        omega
      have fr : ∀ {G : Hp} {x : Addr}, G wl ≠ none → G pa ≠ none → G x = none → x ∉ [wl, pa] := fun {G x} g1 g2 hx z => by
        rcases List.mem_cons.mp z with z | z
        · exact g1 (z ▸ hx)
        · exact g2 (List.mem_singleton.mp z ▸ hx)
      have nn : ∀ {G : Hp} {x : Addr} {o : HO}, G x = some o → G x ≠ none := fun h z => by rw [h] at z; cases z
      walk_at "st"
      -- the near ones
      refine ⟨.inl ⟨rfl, _, sqL hw11⟩, ?_⟩
      walk_at "st"
      refine r_slL (sqL hj11) (fun l3 H12 hl3 e12 h12 => ?_)
      rw [cut_to, js_take (Nat.le_of_lt (Nat.lt_of_le_of_lt hn' ha'))] at h12
      walk_at "st"
      intro q3 H13 hq3 e13 h13
      rw [er] at h13
      have e113 := e12.trans e13
      have tA : TkAt .lst H13 [wl, pa] (.ref q3) t.tA := ⟨q3, l3, rfl, h13, e13 _ _ h12, fr (nn hw11) (nn h11) (e12.none hq3), fr (nn hw11) (nn h11) hl3⟩
      walk_at "st"
      refine r_app (e113 _ _ hw11) (by rw [List.length_map]; omega) (fun H14 h14 n14 => ?_)
      have wt14 := ((wt11.ext e113).push tA S.a).but (q := wl) List.mem_cons_self (.of n14)
      have hp14 := stay n14 nwp (e113 _ _ h11)
      have hj14 := stay n14 njw (e113 _ _ hj11)
      have e14 : Ext H H14 := mut_ext (e11.trans e113) hwl2 n14
      walk_at "st"
      -- the ones between
      refine ⟨.inl ⟨rfl, _, sqL h14⟩, ?_⟩
      walk_at "st"
      refine r_atL (sqL hj14) (atI_nat (js_at ha')) ?_
      walk_at "st"
      intro l4 hl4
      rw [show (((Lay.sAt t.d t.r t.m : Nat) : Int) - ((Lay.sNr t.d t.r t.m : Nat) : Int)).toNat = Lay.sAt t.d t.r t.m - Lay.sNr t.d t.r t.m by omega]
      refine lcW_range (LcP H14 l4 fun k => .int ((t.root + t.s * (Lay.sAt t.d t.r t.m + 1 : Nat)) + (-t.s) * ((k : Nat) + 1 : Int))) (.start hl4) (fun i H' hi p => ?_) (fun H15 p15 => ?_)
      · walk_at "st"
        refine r_lcW rfl ?_
        walk_at "st"
        refine r_atL (sqL (p.e _ _ hj14)) (v := .int (t.root + t.s * (((Lay.sAt t.d t.r t.m - 1 - i : Nat) : Int) + 1))) ?_ ?_
        · rw [show ((Lay.sAt t.d t.r t.m : Nat) : Int) - 1 - (0 + (i : Int)) = ((Lay.sAt t.d t.r t.m - 1 - i : Nat) : Int) by omega]
          exact atI_nat (js_at (by omega))
        rw [js_up _ _ _ _ (by omega)]
        exact p.pushB hl4 (by omega) .rfl rfl
      have h15 : H15 l4 = some (.lst (js t.tB.root t.tB.s t.tB.m)) := p15.d
      have e15 := p15.e
      walk_at "st"
      intro q4 H16 hq4 e16 h16
      rw [ed, er, etop'] at h16
      have e156 := e15.trans e16
      have tB : TkAt .lst H16 [wl, pa] (.ref q4) t.tB := ⟨q4, l4, rfl, h16, e16 _ _ h15, fr (nn h14) (nn hp14) (e15.none hq4), fr (nn h14) (nn hp14) hl4⟩
      walk_at "st"
      refine r_app (e156 _ _ h14) (by rw [List.length_append, List.length_map]; show ps0.length + 1 < _; omega) (fun H17 h17 n17 => ?_)
      have wt17 := ((wt14.ext e156).push tB S.b).but (q := wl) List.mem_cons_self (.of n17)
      have hp17 := stay n17 nwp (e156 _ _ hp14)
      have hj17 := stay n17 njw (e156 _ _ hj14)
      have e17 : Ext H H17 := mut_ext (e14.trans e156) hwl2 n17
      walk_at "st"
      -- the ones beyond
      refine ⟨.inl ⟨rfl, _, sqL h17⟩, ?_⟩
      walk_at "st"
      refine r_atL (sqL hj17) (atI_nat (js_at ha')) ?_
      walk_at "st"
      refine r_slL (sqL hj17) (fun l5 H18 hl5 e18 h18 => ?_)
      rw [show ((Lay.sAt t.d t.r t.m : Nat) : Int) + 1 = ((Lay.sAt t.d t.r t.m + 1 : Nat) : Int) by omega, cut_from, js_drop ha'] at h18
      walk_at "st"
      intro q5 H19 hq5 e19 h19
      rw [ed, etop'] at h19
      have e189 := e18.trans e19
      have tC : TkAt .lst H19 [wl, pa] (.ref q5) t.tC := ⟨q5, l5, rfl, h19, e19 _ _ h18, fr (nn h17) (nn hp17) (e18.none hq5), fr (nn h17) (nn hp17) hl5⟩
      walk_at "st"
      refine r_app (e189 _ _ h17) (by rw [List.length_append, List.length_append, List.length_map]; show ps0.length + 1 + 1 < _; omega) (fun H20 h20 n20 => ?_)
      have wt20 := ((wt17.ext e189).push tC S.c).but (q := wl) List.mem_cons_self (.of n20)
      have hp20 := stay n20 nwp (e189 _ _ hp17)
      have e20 : Ext H H20 := mut_ext (e17.trans e189) hwl2 n20
      have hmu' : (ps0 ++ [(V.ref q3, t.tA)] ++ [(V.ref q4, t.tB)] ++ [(V.ref q5, t.tC)]).map (·.2) = ps0.map (·.2) ++ [t.tA, t.tB, t.tC] := by simp
      refine ⟨_, ms, ps0 ++ [(V.ref q3, t.tA)] ++ [(V.ref q4, t.tB)] ++ [(V.ref q5, t.tC)], _, _, _, _, _, _, _, _, by rw [hmu'], rfl, by rw [h20]; simp, hp20, by rw [List.length_set]; exact hA, ?_, wt20, e20, ?_, ?_⟩
      · rw [hmu']
        refine Arr.set (o := 0) (k := t.top.toNat) arr S (by omega) (by omega) hn1 ek (fun u hu => List.mem_append_left _ hu) ?_ ?_ ?_ <;> simp
      · rw [hmu']
        have : ps0.length + 1 ≤ 2 + 3 * (tkMu [tk0 n d r', tk1 n d r'] - tkMu (ps0.map (·.2) ++ [t])) := by simpa using hps
        have hm2 : tkMu (ps0.map (·.2) ++ [t]) ≤ tkMu [tk0 n d r', tk1 n d r'] := hmu
        simp only [List.length_append, List.length_cons, List.length_nil]
        omega
      · rw [hmu']
        exact Nat.le_trans (Nat.le_of_lt ms) hmu
    · have hm : t.m = 0 := by omega
      have ms := mu_none (ps0.map (·.2)) t
      walk_at "st"
      have hm2 : tkMu (ps0.map (·.2) ++ [t]) ≤ tkMu [tk0 n d r', tk1 n d r'] := hmu
      refine ⟨_, ms, ps0, A, _, _, _, _, _, _, _, rfl, rfl, h10, hp10, hA, arr.none hm, wt10, e10, ?_, by omega⟩
      have : ps0.length + 1 ≤ 2 + 3 * (tkMu [tk0 n d r', tk1 n d r'] - tkMu (ps0.map (·.2) ++ [t])) := by simpa using hps
      omega
  · walk_at "st"
    have e0 : ps = [] := List.eq_nil_of_length_eq_zero (by omega)
    subst e0
    refine r_slL (sqL hpA) (fun q H10 hq e10 h10 => ?_)
    rw [show (1 : Int) = ((1 : Nat) : Int) from rfl, cut_at, Arr.done1 arr hA hn1] at h10
    exact k q H10 (eH.none hq) (eH.trans e10) h10

end
end K26
set_option maxRecDepth 100000
set_option maxHeartbeats 4000000
namespace K26
open PySem PySem.Spec PyProof.Rows L2 L3
local macro_rules | `(tactic| walk_at "s1") => `(tactic| first
  | with_reducible refine r_seq ?_
  | with_reducible refine r_asgN ?_
  | with_reducible refine r_ret ?_
  | with_reducible refine r_next ?_
  | ((with_reducible refine' r_var ?hv ?_); (case hv => exact rfl))
  | with_reducible refine r_c ?_
  | with_reducible refine r_op ?_
  | with_reducible refine r_cons ?_
  | with_reducible refine r_nil ?_
  | with_reducible refine r_plusI ?_
  | with_reducible refine r_I0 ?_
  | with_reducible refine r_test ?_
  | with_reducible refine r_bl ?_
  | with_reducible refine r_ifS ?_
  | with_reducible refine r_cb ?_
  | with_reducible refine r_callS ?_
  | with_reducible refine r_and ?_
  | with_reducible refine r_or ?_
  | with_reducible refine r_not ?_
  | with_reducible refine r_B ?_
  | ((with_reducible refine' r_aug ?hv ?_); (case hv => exact rfl))
  | with_reducible refine r_augS ?_
  | with_reducible refine r_ipI ?_
  | with_reducible refine r_asg ?_
  | with_reducible refine r_sub ?_
  | with_reducible refine r_brk ?_
  | with_reducible refine r_isN1 ?_
  | with_reducible refine r_notN1 ?_
  | with_reducible refine r_intI ?_
  | with_reducible refine r_abs ?_
  | with_reducible refine r_min ?_
  | with_reducible refine r_max ?_
  | ((with_reducible refine' r_mod ?hz ?_); (case hz => omega))
  | ((with_reducible refine' r_pow ?hz ?_); (case hz => exact ⟨by decide, by decide, by decide⟩))
  | ((with_reducible refine' r_rg1 ?hz ?_); (case hz => omega))
  | ((with_reducible refine' r_rg2 ?hz ?_); (case hz => omega))
  | ((with_reducible refine' r_newL ?hz ?_); (case hz => exact Nat.le_of_ble_eq_true rfl))
  | ((with_reducible refine' r_newT ?hz ?_); (case hz => exact Nat.le_of_ble_eq_true rfl))
  | with_reducible refine r_for ?_
  | with_reducible refine r_lc ?_
  | with_reducible refine r_iR1 ?_
  | with_reducible refine r_iR2 ?_
  | with_reducible refine r_iL ?_
  | with_reducible refine r_iT ?_
  | with_reducible refine r_gname ?_
  | with_reducible refine r_gcons ?_
  | with_reducible refine r_gnil ?_
  | with_reducible refine r_yes ?_
  | with_reducible refine r_mkO ?_
  | with_reducible refine r_cont ?_
  | with_reducible refine r_drop ?_
  | with_reducible refine r_retN ?_
  | with_reducible refine r_ifC ?_
  | with_reducible refine r_ifI ?_
  | with_reducible refine r_if ?_
  | with_reducible refine r_un ?_
  | with_reducible refine r_neg ?_
  | with_reducible refine r_andV ?_
  | with_reducible refine r_orV ?_
  | with_reducible refine r_notV ?_
  | with_reducible refine r_tup ?_
  | with_reducible refine r_lst ?_
  | with_reducible refine r_bm ?_
  | with_reducible refine r_bm0 ?_
  | with_reducible refine r_sl ?_
  | with_reducible refine r_chain ?_
  | with_reducible refine r_listDn ?_
  | with_reducible refine r_listRg2 ?_
  | with_reducible refine r_revL ?_
  | with_reducible refine r_noPart ?_
  | with_reducible refine r_part ?_
  | with_reducible refine r_int ?_
  | ((with_reducible refine' r_sameS ?hs ?_); (case hs => exact rfl))
  | ((with_reducible refine' r_otherS ?hs ?_); (case hs => exact rfl))
  | with_reducible refine ite_t ?_
  | with_reducible refine ite_f ?_
  | with_reducible refine ite_nt ?_
  | with_reducible refine ite_nf ?_)
local macro_rules | `(tactic| walk_at "st") => `(tactic| repeat (walk_at "s1"))

section
variable {P : Program} {w : World} {K : PySem.W.Frag} {mg : Str → Option Value} {base : Heap}
/-! ### the chains and loads as the law looks at them -/
theorem parL_at {par : Int → Int} {n : Nat} {j : Int} (h1 : 1 ≤ j) (h2 : j < n) : atI ((parL par n).map V.int) (j - 1) = some (.int (par j)) := by
  obtain ⟨k, rfl⟩ : ∃ k : Nat, j = k + 1 := ⟨(j - 1).toNat, by omega⟩
  rw [show (k : Int) + 1 - 1 = (k : Int) by omega]
  refine atI_nat ?_
  unfold parL
  rw [List.getElem?_map, List.getElem?_map, List.getElem?_range (by omega)]
  rfl
theorem flat_at {m : Int} {n i : Nat} {v : V} (hm : m.toNat = n) (h : i < n) : (List.replicate m.toNat [v]).flatten[i]? = some v := by
  rw [hm, List.flatten_replicate_singleton, List.getElem?_replicate, if_pos h]
theorem set_map {n k : Nat} {f : Nat → Int} {v : Int} : (((List.range n).map fun p => V.int (f p)).set k (.int v)) = (List.range n).map fun p => V.int (if p = k then v else f p) := by
  apply List.ext_getElem?
  intro i
  by_cases c : i < n
  · by_cases e : k = i
    · subst e
      rw [List.getElem?_set_self (by simpa using c), List.getElem?_map, List.getElem?_range c]
      simp
    · rw [List.getElem?_set_ne e, List.getElem?_map, List.getElem?_map, List.getElem?_range c]
      simp
      intro z
      exact absurd z.symm e
  · rw [List.getElem?_eq_none (by simp; omega), List.getElem?_eq_none (by simp; omega)]
def spKeeps (K : PySem.W.Frag) : Sp := fun vs H Q _ => ∃ (n d : Nat) (p : Addr) (par : Int → Int) (lev : Int → Nat) (r : Nat), vs = [.int n, .int d, .ref p] ∧ (1 ≤ n ∧ n ≤ 400) ∧ (1 ≤ d ∧ d ≤ 6) ∧ Del.Least n d r ∧ Lay.Built par lev n d r ∧ SqL K H p ((parL par n).map V.int) ∧ ∀ H', Ext H H' → Q (.bl true) H'
theorem sc__law_f_keeps : FnScope ["n", "d", "parents", "r", "loads", "joint", "at", "steps", "part"] ["n", "d", "parents"] (defScope s__law_f_keeps) := ⟨rfl, rfl, rfl, by decide +kernel, rfl, by decide +kernel, by decide +kernel⟩
theorem ok_law_f_keeps (T : Txt w K mg) : CalG P w K mg base 4 "_law_f_keeps" ["n", "d", "parents"] (spKeeps K) := by
  have c__law_reach := ok_law_reach (P := P) (base := base) T
  refine calG_of T.g__law_f_keeps T.d__law_f_keeps sc__law_f_keeps (fun _ _ _ _ _ _ _ us hl => match us, hl with | [_, _, _], _ => rfl) (fun vs H Q E h => by obtain ⟨_, _, _, _, _, _, rfl, _⟩ := h; rfl) (fun cdv A outer s H vs Q E hr h => ?_)
  have nd := sc__law_f_keeps.nd
  have hu := hu64 hr
  obtain ⟨n, d, p, par, lev, r, rfl, ⟨hn1, hn2⟩, ⟨hd1, hd2⟩, hl, B, hp, k⟩ := h
  have hrn := Del.least_le hd1 hl
  have stp := B.step hl.1
  refine ⟨_, (pss_cons (ps_set (i := 3) nd rfl (Or.inl rfl) pe_int)
        (pss_cons (ps_while (passes_of rfl) (pt_cmpR op_lt (pe_cal c__law_reach hr (by omega) (fun σ => L2N.passAt (L2N.takes_of rfl rfl rfl rfl) σ) (pa_cons (pv 1) (pa_cons (pv 3) pa_nil))) (pv 0) (nomark _)) (pss_one (ps_set (i := 3) nd rfl (Or.inl rfl) (pe_op (plusK (K := K)) (pv 3) pe_int))))
        (pss_cons (ps_set (i := 4) nd rfl (Or.inl rfl) (pe_op op_timesB (pe_lst (pa_cons pe_int pa_nil)) (pv 0)))
        (pss_cons (ps_for (passes_of rfl) rfl (pi_range2 (by rfl) T.f_range (pa_cons pe_int (pa_cons (pv 0) pa_nil))) (pg_name (i := 5) nd rfl (Or.inl rfl)) (pss_cons (ps_set (i := 6) nd rfl (Or.inl rfl) (pv 5))
        (pss_cons (ps_set (i := 7) nd rfl (Or.inl rfl) pe_int)
        (C8.pss_cut (ps_while (passes_of rfl) (PW.pt (pw_and (pt_cmpR (otherK (K := K) hu) (pv 6) pe_int (nomark _)) (pw_and (pt_cmpR (otherK (K := K) hu) (pv 6) (pv 0) (nomark _)) (pw_and1 (pt_cmpR op_le (pv 7) (pv 1) (nomark _)))))) (pss_cons (ps_set (i := 6) nd rfl (Or.inl rfl) (pe_ix (ixK (K := K)) (pv 2) (pe_op op_sub (pv 6) pe_int) (fun _ _ => rfl)))
        (pss_one (ps_set (i := 7) nd rfl (Or.inl rfl) (pe_op (plusK (K := K)) (pv 7) pe_int)))))
        (pss_cons (ps_if (pt_cmpR op_gt (pv 7) (pv 1) (nomark _)) (pss_one (ps_ret pe_bl)) pss_nil)
        (pss_one (ps_for (passes_of rfl) rfl (pi_range2 (by rfl) T.f_range (pa_cons (pe_callB (cr_min2 rfl) (by rfl) T.f_min (by decide +kernel) (pa_cons (pv 5) (pa_cons (pe_ix (ixK (K := K)) (pv 2) (pe_op op_sub (pv 5) pe_int) (fun _ _ => rfl)) pa_nil))) (pa_cons (pe_callB (cr_max2 rfl) (by rfl) T.f_max (by decide +kernel) (pa_cons (pv 5) (pa_cons (pe_ix (ixK (K := K)) (pv 2) (pe_op op_sub (pv 5) pe_int) (fun _ _ => rfl)) pa_nil))) pa_nil))) (pg_name (i := 8) nd rfl (Or.inl rfl)) (pss_one (ps_asg (pe_op (plusK (K := K)) (pe_ix (ixK (K := K)) (pv 4) (pv 8) (fun _ _ => rfl)) pe_int) (pg_sub (pv 4) (pv 8) set_list))))))))))
        (pss_one (ps_ret (pe_cmpR (sameK (K := K) hu) (pe_callB (maxK (K := K) rfl) (by rfl) T.f_max (by decide +kernel) (pa_cons (pv 4) pa_nil)) (pv 3) (nomark _)))))))), ?_⟩
  walk_at "st"
  refine whileW (fun μ σ' H' => ∃ r' : Nat, μ = r - r' ∧ r' ≤ r ∧ σ' = [some (.int n), some (.int d), some (.ref p), some (.int r'), none, none, none, none, none] ∧ H = H') r ⟨0, rfl, Nat.zero_le _, rfl, rfl⟩ ?_
  rintro μ σ' H' ⟨r', rfl, hr'r, rfl, rfl⟩
  walk_at "st"
  refine ⟨d, r', rfl, by omega, by omega, ?_⟩
  walk_at "st"
  refine ite_d (fun c => r_N ?_) (fun c => ?_)
  · walk_at "st"
    have : r' < r := by
      refine Nat.lt_of_le_of_ne hr'r fun e => ?_
      subst e
      have := hl.1
      omega
    exact ⟨r - (r' + 1), by omega, r' + 1, rfl, this, rfl, rfl⟩
  have er : r' = r := by
    refine Nat.le_antisymm hr'r (Nat.le_of_not_lt fun c2 => ?_)
    have := hl.2 r' c2
    omega
  subst er
  walk_at "st"
  intro p1 H3 hp1 e3 h3
  walk_at "st"
  refine r_repL h3 (by omega) (by omega) (by simp; omega) (fun lo H4 hlo e4 h4 => ?_)
  have hlo0 : H lo = none := e3.none hlo
  have e04 := e3.trans e4
  walk_at "st"
  rw [show ((n : Int) - 1).toNat = n - 1 by omega]
  refine forW_range (fun i σ' H' => ∃ v1 v2 v3 v4, σ' = [some (.int n), some (.int d), some (.ref p), some (.int r'), some (.ref lo), v1, v2, v3, v4] ∧ Ext H H' ∧ H' lo = some (.lst ((List.range n).map fun (q : Nat) => V.int (Lay.sI (Lay.cov par q) 1 i)))) ⟨none, none, none, none, rfl, e04, ?_⟩ ?_ ?_
  · rw [h4]
    congr 2
    apply List.ext_getElem?
    intro i
    by_cases c : i < n
    · rw [List.getElem?_map, List.getElem?_range c, flat_at (by omega) c]
      rfl
    · rw [List.getElem?_eq_none (by rw [flat_len]; omega), List.getElem?_eq_none (by simp; omega)]
  · rintro i σ' H5 hi ⟨v1, v2, v3, v4, rfl, e5, h5⟩
    have hj1 : (1 : Int) ≤ 1 + (i : Int) := by omega
    have hj2 : 1 + (i : Int) < n := by omega
    obtain ⟨s1, s2, s3, s4, s5⟩ := stp _ hj1 hj2
    walk_at "st"
    refine r_cut (fun σ' H' => ∃ (a st : Int), σ' = [some (.int n), some (.int d), some (.ref p), some (.int r'), some (.ref lo), some (.int (1 + (i : Int))), some (.int a), some (.int st), v4] ∧ H5 = H' ∧ ¬ d < st) ?_ ?_
    · refine whileW (fun μ σ' H' => ∃ (a : Int) (st : Nat), μ = lev a ∧ σ' = [some (.int n), some (.int d), some (.ref p), some (.int r'), some (.ref lo), some (.int (1 + (i : Int))), some (.int a), some (.int st), v4] ∧ H5 = H' ∧ 0 ≤ a ∧ a ≤ n ∧ st + lev a = lev (1 + (i : Int))) (lev (1 + (i : Int)))
        ⟨1 + (i : Int), 0, rfl, rfl, rfl, by omega, by omega, by omega⟩ ?_
      rintro μ σ' H' ⟨a, st, rfl, rfl, rfl, a0, a1, hst⟩
      walk_at "st"
      refine ite_n (fun c1 => ?_) (fun c1 => ?_)
      · walk_at "st"
        refine ite_n (fun c2 => ?_) (fun c2 => ?_)
        · walk_at "st"
          refine ite_d (fun c3 => r_N ?_) (fun c3 => ?_)
          · have c1' : a ≠ 0 := fun e => c1 (by rw [e])
            have c2' : a ≠ n := fun e => c2 (by rw [e])
            obtain ⟨u1, u2, u3, u4, u5⟩ := stp a (by omega) (by omega)
            walk_at "st"
            refine r_atL (e5.l hp) (parL_at (by omega) (by omega)) ?_
            walk_at "st"
            exact ⟨lev (par a), by omega, par a, st + 1, rfl, rfl, rfl, u4, u5, by omega⟩
          · exact ⟨a, st, rfl, rfl, by omega⟩
        · walk_at "st"
          exact ⟨a, st, rfl, rfl, by omega⟩
      · walk_at "st"
        exact ⟨a, st, rfl, rfl, by omega⟩
    rintro σ' H6 ⟨a, st, rfl, rfl, hst⟩
    walk_at "st"
    refine ite_d (fun c => absurd c hst) (fun _ => ?_)
    walk_at "st"
    refine r_atL (e5.l hp) (parL_at hj1 hj2) ?_
    walk_at "st"
    refine r_atL (e5.l hp) (parL_at hj1 hj2) ?_
    walk_at "st"
    refine forW_range (fun t σ' H' => ∃ v, σ' = [some (.int n), some (.int d), some (.ref p), some (.int r'), some (.ref lo), some (.int (1 + (i : Int))), some (.int a), some (.int st), v] ∧ Ext H H' ∧ H' lo = some (.lst ((List.range n).map fun (q : Nat) => V.int (Lay.sI (Lay.cov par q) 1 i + if min (1 + (i : Int)) (par (1 + (i : Int))) ≤ q ∧ (q : Int) < min (1 + (i : Int)) (par (1 + (i : Int))) + t then 1 else 0)))) ⟨v4, rfl, e5, ?_⟩ ?_ ?_
    · rw [h5]
      congr 2
      refine List.map_congr_left fun q _ => ?_
      rw [if_neg (by omega), Int.add_zero]
    · rintro t σ' H7 ht ⟨v, rfl, e7, h7⟩
      generalize hmn : min (1 + (i : Int)) (par (1 + (i : Int))) = mn at *
      obtain ⟨q, hq⟩ : ∃ q : Nat, mn + (t : Int) = q := ⟨(mn + t).toNat, by omega⟩
      have hqn : q < n := by omega
      walk_at "st"
      rw [hq]
      refine r_atL (sqL h7) (atI_nat (j := q) (v := .int (Lay.sI (Lay.cov par q) 1 i + if mn ≤ q ∧ (q : Int) < mn + t then 1 else 0)) ?_) ?_
      · rw [List.getElem?_map, List.getElem?_range hqn]
        rfl
      walk_at "st"
      refine r_setL (j := q) h7 rfl (by simpa using hqn) (fun H8 h8 n8 => ?_)
      refine ⟨_, rfl, mut_ext e7 hlo0 n8, ?_⟩
      rw [h8, set_map]
      congr 2
      refine List.map_congr_left fun x _ => ?_
      by_cases c : x = q
      · subst c
        rw [if_pos rfl, if_neg (by omega), if_pos (by omega), Int.add_zero]
      · rw [if_neg c]
        congr 2
        by_cases c2 : mn ≤ x ∧ (x : Int) < mn + t
        · rw [if_pos c2, if_pos (by omega)]
        · rw [if_neg c2, if_neg (by omega)]
    · rintro σ' H7 ⟨v, rfl, e7, h7⟩
      refine ⟨_, _, _, _, rfl, e7, ?_⟩
      rw [h7]
      congr 2
      refine List.map_congr_left fun x _ => ?_
      show _ = V.int (Lay.sI (Lay.cov par x) 1 i + Lay.cov par x (1 + (i : Int)))
      congr 2
      unfold Lay.cov
      have ne : par (1 + (i : Int)) ≠ 1 + (i : Int) := fun e => by rw [e] at s3; omega
      generalize par (1 + (i : Int)) = z at *
      by_cases c : z ≤ (x : Int) ∧ (x : Int) < 1 + i ∨ 1 + (i : Int) ≤ x ∧ (x : Int) < z
      · rw [if_pos c, if_pos (by omega)]
      · rw [if_neg c, if_neg (by omega)]
  · rintro σ' H5 ⟨v1, v2, v3, v4, rfl, e5, h5⟩
    walk_at "st"
    have h5' : H5 lo = some (.lst (((List.range n).map fun (q : Nat) => Lay.load par n q).map V.int)) := by rw [h5, List.map_map]; rfl
    obtain ⟨q, hq, eq⟩ := B.ge hl hn1
    refine r_maxL (m := (r' : Int)) (sqL h5') (List.mem_map.mpr ⟨q, List.mem_range.mpr hq, eq⟩) (fun y hy => ?_) ?_
    · obtain ⟨x, _, rfl⟩ := List.mem_map.mp hy
      exact B.le hl.1 hn1 x
    walk_at "st"
    rw [show decide (V.int (r' : Int) = V.int (r' : Int)) = true from decide_eq_true rfl]
    exact k H5 e5

end
end K26
set_option maxRecDepth 100000
set_option maxHeartbeats 4000000
namespace K26
open PySem PySem.Spec PyProof.Rows L2 L3
local macro_rules | `(tactic| walk_at "s1") => `(tactic| first
  | with_reducible refine r_seq ?_
  | with_reducible refine r_asgN ?_
  | with_reducible refine r_ret ?_
  | with_reducible refine r_next ?_
  | ((with_reducible refine' r_var ?hv ?_); (case hv => exact rfl))
  | with_reducible refine r_c ?_
  | with_reducible refine r_op ?_
  | with_reducible refine r_cons ?_
  | with_reducible refine r_nil ?_
  | with_reducible refine r_plusI ?_
  | with_reducible refine r_I0 ?_
  | with_reducible refine r_test ?_
  | with_reducible refine r_bl ?_
  | with_reducible refine r_ifS ?_
  | with_reducible refine r_cb ?_
  | with_reducible refine r_callS ?_
  | with_reducible refine r_and ?_
  | with_reducible refine r_or ?_
  | with_reducible refine r_not ?_
  | with_reducible refine r_B ?_
  | ((with_reducible refine' r_aug ?hv ?_); (case hv => exact rfl))
  | with_reducible refine r_augS ?_
  | with_reducible refine r_ipI ?_
  | with_reducible refine r_asg ?_
  | with_reducible refine r_sub ?_
  | with_reducible refine r_brk ?_
  | with_reducible refine r_isN1 ?_
  | with_reducible refine r_notN1 ?_
  | with_reducible refine r_intI ?_
  | with_reducible refine r_abs ?_
  | with_reducible refine r_min ?_
  | with_reducible refine r_max ?_
  | ((with_reducible refine' r_mod ?hz ?_); (case hz => omega))
  | ((with_reducible refine' r_pow ?hz ?_); (case hz => exact ⟨by decide, by decide, by decide⟩))
  | ((with_reducible refine' r_rg1 ?hz ?_); (case hz => omega))
  | ((with_reducible refine' r_rg2 ?hz ?_); (case hz => omega))
  | ((with_reducible refine' r_newL ?hz ?_); (case hz => exact Nat.le_of_ble_eq_true rfl))
  | ((with_reducible refine' r_newT ?hz ?_); (case hz => exact Nat.le_of_ble_eq_true rfl))
  | with_reducible refine r_for ?_
  | with_reducible refine r_lc ?_
  | with_reducible refine r_iR1 ?_
  | with_reducible refine r_iR2 ?_
  | with_reducible refine r_iL ?_
  | with_reducible refine r_iT ?_
  | with_reducible refine r_gname ?_
  | with_reducible refine r_gcons ?_
  | with_reducible refine r_gnil ?_
  | with_reducible refine r_yes ?_
  | with_reducible refine r_mkO ?_
  | with_reducible refine r_cont ?_
  | with_reducible refine r_drop ?_
  | with_reducible refine r_retN ?_
  | with_reducible refine r_ifC ?_
  | with_reducible refine r_ifI ?_
  | with_reducible refine r_if ?_
  | with_reducible refine r_un ?_
  | with_reducible refine r_neg ?_
  | with_reducible refine r_andV ?_
  | with_reducible refine r_orV ?_
  | with_reducible refine r_notV ?_
  | with_reducible refine r_tup ?_
  | with_reducible refine r_lst ?_
  | with_reducible refine r_bm ?_
  | with_reducible refine r_bm0 ?_
  | with_reducible refine r_sl ?_
  | with_reducible refine r_chain ?_
  | with_reducible refine r_listDn ?_
  | with_reducible refine r_listRg2 ?_
  | with_reducible refine r_revL ?_
  | with_reducible refine r_noPart ?_
  | with_reducible refine r_part ?_
  | with_reducible refine r_int ?_
  | ((with_reducible refine' r_sameS ?hs ?_); (case hs => exact rfl))
  | ((with_reducible refine' r_otherS ?hs ?_); (case hs => exact rfl))
  | with_reducible refine ite_t ?_
  | with_reducible refine ite_f ?_
  | with_reducible refine ite_nt ?_
  | with_reducible refine ite_nf ?_)
local macro_rules | `(tactic| walk_at "st") => `(tactic| repeat (walk_at "s1"))

section
variable {P : Program} {w : World} {K : PySem.W.Frag} {mg : Str → Option Value} {base : Heap}
/-! ### draws -/
theorem sc__law_source : FnScope ["script", "at", "cell", "size", "small", "one"] ["script", "at"] (defScope s__law_source) := ⟨rfl, rfl, rfl, by decide +kernel, rfl, by decide +kernel, by decide +kernel⟩
theorem ok_law_source (T : Txt w K mg) : CalG P w K mg base 2 "_law_source" ["script", "at"] (spSource K) := by
  refine calG_of T.g__law_source T.d__law_source sc__law_source (fun _ _ _ _ _ _ _ us hl => match us, hl with | [_, _], _ => rfl) (fun vs H Q E h => by obtain ⟨c, k, n, rfl, _⟩ := h; rfl) (fun cdv A outer s H vs Q E hr h => ?_)
  have nd := sc__law_source.nd
  have hu := hu64 hr
  obtain ⟨a, ns, t, rfl, ha, hn, ht, k⟩ := h
  refine ⟨_, (C8.pss_cut (ps_set (i := 2) nd rfl (Or.inl rfl) (pe_ifExp (pt_cmpR op_lt (pv 1) (pe_callB (lenK (K := K)) (by rfl) T.f_len boot_len (pa_cons (pv 0) pa_nil)) (nomark _)) (pe_callTy cr_int (by rfl) T.f_int (by decide +kernel) (pa_cons (pe_ix (ixK (K := K)) (pv 0) (pv 1) (fun _ _ => rfl)) pa_nil)) (pe_op (plusK (K := K)) (pe_op op_timesB pe_int (pe_callB (sumK (K := K) rfl) (by rfl) T.f_sum (by decide +kernel) (pa_cons (pe_lc (own := [("one", 5)]) rfl nd (piL (K := K) (pe_slice (slK (K := K)) (pv 0) po_none (po_some pe_int))) (blkOk_by (N := ["script", "at", "cell", "size", "small", "one"]) (sc := defScope s__law_source) (by decide +kernel)) (fun _ _ _ _ _ => (pg_name (i := 5) nd rfl (Or.inl rfl))) (fun _ _ _ _ _ => pts_nil) (fun _ _ _ _ _ => (pe_op op_mod (pe_callTy cr_int (by rfl) T.f_int (by decide +kernel) (pa_cons (pv 5) pa_nil)) pe_int))) pa_nil))) pe_int)))
        (C8.pss_cut (ps_set (i := 3) nd rfl (Or.inl rfl) (pe_op op_mod (pe_callB cr_abs (by rfl) T.f_abs (by decide +kernel) (pa_cons (pv 2) pa_nil)) (pe_op op_timesB (pe_op op_pow pe_int pe_int) (pe_op op_pow pe_int pe_int))))
        (C8.pss_cut (ps_set (i := 4) nd rfl (Or.inl rfl) (pe_op op_mod (pe_callTy cr_int (by rfl) T.f_int (by decide +kernel) (pa_cons (pe_op (plusK (K := K)) (pe_op (plusK (K := K)) (pe_op (plusK (K := K)) (pe_op op_timesB pe_int (pv 3)) (pe_ifExp (pt_cmpR op_lt (pv 2) pe_int (nomark _)) pe_int pe_int)) (pe_op op_timesB (pv 1) pe_int)) pe_int) pa_nil)) pe_int))
        (pss_one (ps_ret (pe_lst (pa_cons (pe_ifExp (pt_cmpR op_ge (pv 3) (pe_op op_pow pe_int pe_int) (nomark _)) (pv 3) pe_int) (pa_cons (pe_op op_mod (pe_callTy cr_int (by rfl) T.f_int (by decide +kernel) (pa_cons (pe_op op_timesB (pe_op (plusK (K := K)) (pv 4) pe_int) (pe_op (plusK (K := K)) (pv 4) pe_int)) pa_nil)) pe_int) (pa_cons (pv 1) pa_nil))))))))), ?_⟩
  refine r_cut (fun σ' H' => ∃ cell : Int, σ' = [some (.ref a), some (.int t), some (.int cell), none, none, none] ∧ Ext H H') ?_ ?_
  · walk_at "st"
    refine r_lenL ha (by rw [List.length_map]) ?_
    walk_at "st"
    refine ite_d (fun c => ?_) (fun c => ?_)
    · obtain ⟨z, hz⟩ : ∃ z, ns[t]? = some z := ⟨ns[t]'(by omega), by simp⟩
      walk_at "st"
      refine r_atL ha (atI_nat (j := t) (v := .int z) (by rw [List.getElem?_map, hz]; rfl)) ?_
      walk_at "st"
      exact ⟨z, rfl, Ext.rfl⟩
    · walk_at "st"
      refine r_slL ha (fun l H1 hl e1 h1 => ?_)
      have hc : cutV (ns.map V.int) none (some 6) = (ns.take 6).map V.int := by rw [List.map_take]; exact cut_to _ 6
      rw [hc] at h1
      refine r_li (sqL h1) ?_
      intro Dl hD
      refine lcW_list (xs := (ns.take 6).map V.int) (LcP H1 Dl fun i => .int ((ns.take 6).getD i 0 % 999979)) (.start hD) (fun i H' _ p => p.e.l (sqL h1)) ?_ ?_
      · intro i x H' hx p
        obtain ⟨hi, rfl⟩ := ints_get hx
        have hl : (ns.take 6).length ≤ 63 := by rw [List.length_take]; omega
        walk_at "st"
        refine r_lcW rfl ?_
        walk_at "st"
        exact p.push hD (by omega) Ext.rfl rfl
      · intro H' p
        have hd := p.d
        rw [List.length_map, range_ints (ns.take 6) (fun z => z % 999979)] at hd
        walk_at "st"
        refine r_sum (sqL hd) ?_
        refine r_timesB (cmL (by decide) (by decide)) ?_
        walk_at "st"
        exact ⟨_, rfl, e1.trans p.e⟩
  rintro σ' H1 ⟨cell, rfl, e1⟩
  refine r_cut (fun σ' H' => ∃ size : Int, σ' = [some (.ref a), some (.int t), some (.int cell), some (.int size), none, none] ∧ Ext H H') ?_ ?_
  · walk_at "st"
    refine r_timesB (.inl (wide_mul (a := 250) (b := 250) bd128 bd128 (by decide) (by decide) (by decide))) ?_
    refine r_mod pos128 ?_
    exact ⟨_, rfl, e1⟩
  rintro σ' H2 ⟨size, rfl, e2⟩
  refine r_cut (fun σ' H' => ∃ small : Int, σ' = [some (.ref a), some (.int t), some (.int cell), some (.int size), some (.int small), none] ∧ Ext H H' ∧ 0 ≤ small ∧ small < 2147483629) ?_ ?_
  · walk_at "st"
    refine r_timesB (cmL (by decide) (by decide)) ?_
    walk_at "st"
    refine r_timesB (cmR (by decide) (by decide)) ?_
    walk_at "st"
    exact ⟨_, rfl, e2, bd31 _⟩
  rintro σ' H3 ⟨small, rfl, e3, s0, s1⟩
  walk_at "st"
  refine ite_d (fun c => ?_) (fun c => ?_)
  all_goals
    walk_at "st"
    refine r_timesB (cmR (by omega) (by omega)) ?_
    walk_at "st"
    intro p H4 hp e4 h4
    exact k p H4 (e3.none hp) (e3.trans e4) ⟨_, _, _, h4⟩

theorem sc__law_pick : FnScope ["source", "many", "found"] ["source", "many"] (defScope s__law_pick) := ⟨rfl, rfl, rfl, by decide +kernel, rfl, by decide +kernel, by decide +kernel⟩
theorem ok_law_pick (T : Txt w K mg) : CalG P w K mg base 2 "_law_pick" ["source", "many"] spPick := by
  refine calG_of T.g__law_pick T.d__law_pick sc__law_pick (fun _ _ _ _ _ _ _ us hl => match us, hl with | [_, _], _ => rfl) (fun vs H Q E h => by obtain ⟨c, k, rfl, _⟩ := h; rfl) (fun cdv A outer s H vs Q E hr h => ?_)
  have nd := sc__law_pick.nd
  have hu := hu64 hr
  obtain ⟨p, m, rfl, ⟨a, b, c, hp⟩, m0, m1, k⟩ := h
  refine ⟨_, (pss_cons (ps_if (pt_cmpR op_gt (pe_ix (ixK (K := K)) (pv 0) pe_int (fun _ _ => rfl)) pe_int (nomark _)) (pss_cons (ps_set (i := 2) nd rfl (Or.inl rfl) (pe_op op_mod (pe_callTy cr_int (by rfl) T.f_int (by decide +kernel) (pa_cons (pe_ix (ixK (K := K)) (pv 0) pe_int (fun _ _ => rfl)) pa_nil)) (pv 1)))
        (pss_cons (ps_asg (pe_op op_fdivW (pe_ix (ixK (K := K)) (pv 0) pe_int (fun _ _ => rfl)) (pv 1)) (pg_sub (pv 0) pe_int set_list))
        (pss_one (ps_ret (pv 2))))) pss_nil)
        (pss_cons (ps_augS (pv 0) pe_int (getLK (K := K)) pe_int ip_add set_list)
        (pss_cons (ps_asg (pe_op op_mod (pe_callTy cr_int (by rfl) T.f_int (by decide +kernel) (pa_cons (pe_op (plusK (K := K)) (pe_op op_timesB (pe_ix (ixK (K := K)) (pv 0) pe_int (fun _ _ => rfl)) pe_int) (pe_op op_timesB (pe_ix (ixK (K := K)) (pv 0) pe_int (fun _ _ => rfl)) pe_int)) pa_nil)) pe_int) (pg_sub (pv 0) pe_int set_list))
        (pss_one (ps_ret (pe_op op_mod (pe_op op_fdivW (pe_op op_mod (pe_callTy cr_int (by rfl) T.f_int (by decide +kernel) (pa_cons (pe_op (plusK (K := K)) (pe_op op_timesB (pe_ix (ixK (K := K)) (pv 0) pe_int (fun _ _ => rfl)) pe_int) (pe_op op_timesB (pe_ix (ixK (K := K)) (pv 0) pe_int (fun _ _ => rfl)) pe_int)) pa_nil)) pe_int) pe_int) (pv 1))))))), ?_⟩
  walk_at "st"
  refine r_atL (sqL hp) (atI_nat (j := 0) rfl) ?_
  walk_at "st"
  refine ite_d (fun c0 => ?_) (fun c0 => ?_)
  · walk_at "st"
    refine r_atL (sqL hp) (atI_nat (j := 0) rfl) ?_
    walk_at "st"
    refine r_atL (sqL hp) (atI_nat (j := 0) rfl) ?_
    walk_at "st"
    refine r_div (cdW m0 m1) ?_
    walk_at "st"
    refine r_setL (j := 0) hp rfl (by simp) (fun H1 h1 m1 => ?_)
    walk_at "st"
    exact k _ H1 (Int.emod_nonneg _ (by omega)) (Int.emod_lt_of_pos _ m0) ⟨_, _, _, h1⟩ m1
  · walk_at "st"
    refine r_getL (sqL hp) (by decide) rfl ?_
    walk_at "st"
    refine r_setL (j := 2) hp rfl (by simp) (fun H1 h1 n1 => ?_)
    walk_at "st"
    refine r_atL (sqL h1) (atI_nat (j := 1) rfl) ?_
    walk_at "st"
    refine r_timesB (cmR (by decide) (by decide)) ?_
    walk_at "st"
    refine r_atL (sqL h1) (atI_nat (j := 2) rfl) ?_
    walk_at "st"
    refine r_timesB (cmR (by decide) (by decide)) ?_
    walk_at "st"
    refine r_setL (j := 1) h1 rfl (by simp) (fun H2 h2 n2 => ?_)
    walk_at "st"
    refine r_atL (sqL h2) (atI_nat (j := 1) rfl) ?_
    walk_at "st"
    refine r_timesB (cmR (by decide) (by decide)) ?_
    walk_at "st"
    refine r_atL (sqL h2) (atI_nat (j := 2) rfl) ?_
    walk_at "st"
    refine r_timesB (cmR (by decide) (by decide)) ?_
    walk_at "st"
    refine r_div (cdW (by decide) (by decide)) ?_
    walk_at "st"
    exact k _ H2 (Int.emod_nonneg _ (by omega)) (Int.emod_lt_of_pos _ m0) ⟨_, _, _, h2⟩ fun b hb => (n2 b hb).trans (n1 b hb)

theorem sc__law_same : FnScope ["answer", "due", "at", "key"] ["answer", "due"] (defScope s__law_same) := ⟨rfl, rfl, rfl, by decide +kernel, rfl, by decide +kernel, by decide +kernel⟩
theorem ok_law_same (T : Txt w K mg) : ∀ n, CalG P w K mg base (n + 2) "_law_same" ["answer", "due"] (spSame K n)
  | 0 => (calG_false T.g__law_same T.d__law_same (fun _ _ _ _ _ _ _ us hl => match us, hl with | [_, _], _ => rfl)).imp fun vs H Q E ⟨_, _, _, _, _, _, z, _⟩ => z.elim
  | n + 1 => by
    have c__law_same := ok_law_same T n
    refine calG_of T.g__law_same T.d__law_same sc__law_same (fun _ _ _ _ _ _ _ us hl => match us, hl with | [_, _], _ => rfl) (fun vs H Q E h => by obtain ⟨c, k, d, rfl, _⟩ := h; rfl) (fun cdv A outer s H vs Q E hr h => ?_)
    have nd := sc__law_same.nd
    have hu := hu64 hr
    obtain ⟨x, y, d, rfl, hx, hy, hd, k⟩ := h
    refine ⟨_, (pss_cons (ps_if (pt_val (pe_callB (isiTK (K := K)) (by rfl) T.f_isinstance (by decide +kernel) (pa_cons (pv 1) (pa_cons (pe_tup (pa_cons (pe_ty T.f_list) (pa_cons (pe_ty T.f_tuple) pa_nil))) pa_nil)))) (pss_cons (ps_if (PW.pt (pw_or (pt_not (pt_val (pe_callB (isiTK (K := K)) (by rfl) T.f_isinstance (by decide +kernel) (pa_cons (pv 0) (pa_cons (pe_tup (pa_cons (pe_ty T.f_list) (pa_cons (pe_ty T.f_tuple) pa_nil))) pa_nil))))) (pw_or (pt_cmpR (otherK (K := K) hu) (pe_callB (isiK (K := K)) (by rfl) T.f_isinstance (by decide +kernel) (pa_cons (pv 0) (pa_cons (pe_ty T.f_list) pa_nil))) (pe_callB (isiK (K := K)) (by rfl) T.f_isinstance (by decide +kernel) (pa_cons (pv 1) (pa_cons (pe_ty T.f_list) pa_nil))) (nomark _)) (pw_or1 (pt_cmpR (otherK (K := K) hu) (pe_callB (lenK (K := K)) (by rfl) T.f_len boot_len (pa_cons (pv 0) pa_nil)) (pe_callB (lenK (K := K)) (by rfl) T.f_len boot_len (pa_cons (pv 1) pa_nil)) (nomark _)))))) (pss_one (ps_ret pe_bl)) pss_nil)
        (pss_one (ps_ret (pe_callB (allK (K := K) rfl) (by rfl) T.f_all (by decide +kernel) (pa_cons (pe_lc (own := [("at", 2)]) rfl nd (pi_range1 (by rfl) T.f_range (pa_cons (pe_callB (lenK (K := K)) (by rfl) T.f_len boot_len (pa_cons (pv 1) pa_nil)) pa_nil)) (blkOk_by (N := ["answer", "due", "at", "key"]) (sc := defScope s__law_same) (by decide +kernel)) (fun _ _ _ _ _ => (pg_name (i := 2) nd rfl (Or.inl rfl))) (fun _ _ _ _ _ => pts_nil) (fun _ _ _ _ _ => (pe_cal c__law_same hr (by omega) passN (pa_cons (pe_ix (ixK (K := K)) (pv 0) (pv 2) (fun _ _ => rfl)) (pa_cons (pe_ix (ixK (K := K)) (pv 1) (pv 2) (fun _ _ => rfl)) pa_nil))))) pa_nil))))) pss_nil)
        (pss_cons (ps_if (pt_val (pe_callB (isiK (K := K)) (by rfl) T.f_isinstance (by decide +kernel) (pa_cons (pv 1) (pa_cons (pe_ty T.f_dict) pa_nil)))) pss_never pss_nil)
        (pss_cons (ps_if (PW.pt (pw_or (pt_cmpR op_isN1 (pv 1) pe_non (nomark _)) (pw_or1 (pt_cmpR op_isN1 (pv 0) pe_non (nomark _))))) (pss_one (ps_ret (pe_and (pe_cmpR op_isN1 (pv 1) pe_non (nomark _)) (pe_one (pe_cmpR op_isN1 (pv 0) pe_non (nomark _)))))) pss_nil)
        (pss_cons (ps_if (PW.pt (pw_or (pt_cmpR (otherK (K := K) hu) (pe_callB (isiK (K := K)) (by rfl) T.f_isinstance (by decide +kernel) (pa_cons (pv 1) (pa_cons (pe_ty T.f_bool) pa_nil))) (pe_callB (isiK (K := K)) (by rfl) T.f_isinstance (by decide +kernel) (pa_cons (pv 0) (pa_cons (pe_ty T.f_bool) pa_nil))) (nomark _)) (pw_or1 (pt_cmpR (otherK (K := K) hu) (pe_callB (isiK (K := K)) (by rfl) T.f_isinstance (by decide +kernel) (pa_cons (pv 1) (pa_cons (pe_ty T.f_str) pa_nil))) (pe_callB (isiK (K := K)) (by rfl) T.f_isinstance (by decide +kernel) (pa_cons (pv 0) (pa_cons (pe_ty T.f_str) pa_nil))) (nomark _))))) (pss_one (ps_ret pe_bl)) pss_nil)
        (pss_one (ps_ret (pe_and (pe_callB (isiTK (K := K)) (by rfl) T.f_isinstance (by decide +kernel) (pa_cons (pv 0) (pa_cons (pe_tup (pa_cons (pe_ty T.f_bool) (pa_cons (pe_ty T.f_int) (pa_cons (pe_ty T.f_str) pa_nil)))) pa_nil))) (pe_one (pe_cmpR (sameK (K := K) hu) (pv 0) (pv 1) (nomark _)))))))))), ?_⟩
    walk_at "st"
    intro t H1 ht e1 h1
    walk_at "st"
    refine r_isi2 (e1.dp d hy) h1 (by simp) (by simp) ?_
    walk_at "st"
    cases c : (isB (tyD d) "list" || isB (tyD d) "tuple") with
    | true =>
      walk_at "st"
      intro t2 H2 ht2 e2 h2
      have e12 := e1.trans e2
      walk_at "st"
      refine r_isi2 (e12.dp d hx) h2 (by simp) (by simp) ?_
      rw [c]
      walk_at "st"
      refine r_isi (b := "list") (e12.dp d hx) (by simp) ?_
      walk_at "st"
      refine r_isi (b := "list") (e12.dp d hy) (by simp) ?_
      walk_at "st"
      refine ite_n (fun z => absurd rfl z) (fun _ => ?_)
      obtain ⟨a, xs, rfl, ha, hxs⟩ := dp_seq (e12.dp d hx) c
      obtain ⟨b, ys, rfl, hb, hys⟩ := dp_seq (e12.dp d hy) c
      have lx := dps_len hxs
      have ly := dps_len hys
      walk_at "st"
      refine r_lenA ha (by rw [lx]) ?_
      walk_at "st"
      refine r_lenA hb (by rw [ly]) ?_
      walk_at "st"
      refine ite_n (fun z => absurd rfl z) (fun _ => ?_)
      walk_at "st"
      refine r_lenA hb (by rw [ly]) ?_
      have hsz := hd.1
      walk_at "st"
      intro Dl hD
      rw [Int.toNat_natCast]
      refine lcW_range (LcP H2 Dl fun _ => .bl true) (.start hD) ?_ ?_
      · intro i H3 hi p
        have hsz2 : i < 16777216 := by omega
        obtain ⟨x, ex, hx3⟩ := dps_get (i := i) hxs (List.getElem?_eq_getElem hi)
        obtain ⟨y, ey, hy3⟩ := dps_get (i := i) hys (List.getElem?_eq_getElem hi)
        walk_at "st"
        refine r_lcW rfl ?_
        walk_at "st"
        refine r_atA (p.e.sq ha) (by rw [Int.zero_add]; exact atI_nat ex) ?_
        walk_at "st"
        refine r_atA (p.e.sq hb) (by rw [Int.zero_add]; exact atI_nat ey) ?_
        walk_at "st"
        have hm : (itemsD d)[i] ∈ itemsD d := List.getElem_mem hi
        exact ⟨x, y, _, rfl, p.e.dp _ hx3, p.e.dp _ hy3, hd.2 _ hm, fun H4 e4 => p.pushB hD hsz2 e4 rfl⟩
      · intro H3 p
        have hd := p.d
        rw [map_bl] at hd
        walk_at "st"
        refine r_all (sqL hd) ?_
        rw [bools_all]
        exact k H3 (e12.trans p.e)
    | false =>
      walk_at "st"
      refine r_isi (e1.dp d hy) (by simp) ?_
      rw [dp_nodict hy]
      walk_at "st"
      have exy := dp_det hx hy c
      subst exy
      rcases dp_flat hx c with ⟨rfl, rfl⟩ | ⟨cb, nn, sc⟩
      · walk_at "st"
        refine ite_d (fun _ => ?_) (fun z => absurd rfl z)
        walk_at "st"
        refine ite_d (fun _ => ?_) (fun z => absurd rfl z)
        walk_at "st"
        exact k H1 e1
      · refine ite_d (fun z => absurd z nn) (fun _ => ?_)
        walk_at "st"
        refine ite_d (fun z => absurd z nn) (fun _ => ?_)
        walk_at "st"
        refine r_isi (e1.dp d hy) (by simp) ?_
        walk_at "st"
        refine r_isi (e1.dp d hy) (by simp) ?_
        walk_at "st"
        refine ite_n (fun z => absurd rfl z) (fun _ => ?_)
        walk_at "st"
        refine r_isi (e1.dp d hy) (by simp) ?_
        walk_at "st"
        refine r_isi (e1.dp d hy) (by simp) ?_
        walk_at "st"
        refine ite_n (fun z => absurd rfl z) (fun _ => ?_)
        walk_at "st"
        intro t2 H2 ht2 e2 h2
        walk_at "st"
        refine r_isi3 ((e1.trans e2).dp d hy) h2 (by simp) (by simp) (by simp) ?_
        rw [cb]
        walk_at "st"
        refine r_sameS sc ?_
        have e : decide (x = x) = true := decide_eq_true rfl
        rw [e]
        exact k H2 (e1.trans e2)

theorem scf_TooMany : FnScope ["error", "found"] ["error"] (defScope s__law_fault) := ⟨rfl, rfl, rfl, by decide +kernel, rfl, by decide +kernel, by decide +kernel⟩
theorem fault_TooMany (T : Txt w K mg) {fd : FuncData} (F : FunD K "_law_fault" "_law_fault" (defArgs s__law_fault) (defBody s__law_fault) (defScope s__law_fault) [] [] (He.ga K "_law_fault") fd) : FnP P w K mg base (L2N.CX P w) 1 (He.ga K "_law_fault") fd ["error"] (onP (spFlt K "TooMany" (["what"] : List Str))) := by
  refine fnP_of F scf_TooMany (fun p vs H Q E h => by obtain ⟨dd, kv, us, rfl, _⟩ := h; rfl) (fun p cdv A outer s H vs Q E hot hr h => ?_)
  have nd := scf_TooMany.nd
  obtain ⟨dd, kv, us, rfl, hz, hd, hus, k⟩ := h
  have hf : ∃ ws, p.2.data = .fields ws := by obtain ⟨ws, e, _⟩ := hot.2; exact ⟨ws, e⟩
  obtain ⟨u0, rfl, hu0⟩ : ∃ u0, us = [u0] ∧ kv.lookup ("what" : Str) = some u0 := by
    cases us with
    | nil => simp at hus
    | cons u r =>
      cases r with
      | nil => exact ⟨u, rfl, by simpa using hus⟩
      | cons v r => simp at hus
  have hp : p ∈ (L2H.cxH (L2N.CX P w) P w K mg base ["error", "found"] "_law_fault" (defScope s__law_fault) (He.ga K "_law_fault") cdv A outer s H E p).pn := List.mem_singleton.mpr rfl
  have hu : ((L2H.cxH (L2N.CX P w) P w K mg base ["error", "found"] "_law_fault" (defScope s__law_fault) (He.ga K "_law_fault") cdv A outer s H E p).A).units + 64 < cLine := by have := hr.un; show (A.deeper _).units + 64 < cLine; omega
  have hx : ("TooMany" : Str) ∈ errs := by simp [errs]
  refine ⟨_, (pss_cons (ps_set (i := 1) nd rfl (Or.inl rfl) (pe_lst pa_nil))
        (pss_cons (ps_if (pt_val (pe_callB (call_isP T.e_TooMany.e hz hf hp) (by rfl) T.f_isinstance (by decide +kernel) (pa_cons (pv 0) (pa_cons (pe_gl T.g_TooMany) pa_nil)))) (pss_one (ps_expr (peBM (K := K) (pe_bm PySem.F.plainAttrs_list PySem.F.slot_list_append PySem.F.type_list_append mt_append (pv 1) (pa_cons (pe_tup (pa_cons pe_str (pa_cons (pe_xp T.e_TooMany.f (T.e_TooMany.no _ (by simp)) hz hf hp (pv 0)) pa_nil))) pa_nil))))) pss_nil)
        (pss_cons (ps_if (pt_val (pe_callB (call_isP T.e_TooMany.e hz hf hp) (by rfl) T.f_isinstance (by decide +kernel) (pa_cons (pv 0) (pa_cons (pe_gl T.g_BadText) pa_nil)))) pss_never pss_nil)
        (pss_cons (ps_if (pt_val (pe_callB (call_isP T.e_TooMany.e hz hf hp) (by rfl) T.f_isinstance (by decide +kernel) (pa_cons (pv 0) (pa_cons (pe_gl T.g_BadFormat) pa_nil)))) pss_never pss_nil)
        (pss_cons (ps_if (pt_val (pe_callB (call_isP T.e_TooMany.e hz hf hp) (by rfl) T.f_isinstance (by decide +kernel) (pa_cons (pv 0) (pa_cons (pe_gl T.g_BadValue) pa_nil)))) pss_never pss_nil)
        (pss_cons (ps_if (pt_val (pe_callB (call_isP T.e_TooMany.e hz hf hp) (by rfl) T.f_isinstance (by decide +kernel) (pa_cons (pv 0) (pa_cons (pe_gl T.g_BadShape) pa_nil)))) pss_never pss_nil)
        (pss_cons (ps_if (pt_val (pe_callB (call_isP T.e_TooMany.e hz hf hp) (by rfl) T.f_isinstance (by decide +kernel) (pa_cons (pv 0) (pa_cons (pe_gl T.g_BadRow) pa_nil)))) pss_never pss_nil)
        (pss_cons (ps_if (pt_val (pe_callB (call_isP T.e_TooMany.e hz hf hp) (by rfl) T.f_isinstance (by decide +kernel) (pa_cons (pv 0) (pa_cons (pe_gl T.g_BadSet) pa_nil)))) pss_never pss_nil)
        (pss_cons (ps_if (pt_val (pe_callB (call_isP T.e_TooMany.e hz hf hp) (by rfl) T.f_isinstance (by decide +kernel) (pa_cons (pv 0) (pa_cons (pe_gl T.g_BadReader) pa_nil)))) pss_never pss_nil)
        (pss_cons (ps_if (pt_val (pe_callB (call_isP T.e_TooMany.e hz hf hp) (by rfl) T.f_isinstance (by decide +kernel) (pa_cons (pv 0) (pa_cons (pe_gl T.g_BadLayout) pa_nil)))) pss_never pss_nil)
        (pss_cons (ps_if (pt_val (pe_callB (call_isP T.e_TooMany.e hz hf hp) (by rfl) T.f_isinstance (by decide +kernel) (pa_cons (pv 0) (pa_cons (pe_gl T.g_BadCheck) pa_nil)))) pss_never pss_nil)
        (pss_cons (ps_if (pt_val (pe_callB (call_isP T.e_TooMany.e hz hf hp) (by rfl) T.f_isinstance (by decide +kernel) (pa_cons (pv 0) (pa_cons (pe_gl T.g_BadCode) pa_nil)))) pss_never pss_nil)
        (pss_cons (ps_if (pt_val (pe_callB (call_isP T.e_TooMany.e hz hf hp) (by rfl) T.f_isinstance (by decide +kernel) (pa_cons (pv 0) (pa_cons (pe_gl T.g_BadFeed) pa_nil)))) pss_never pss_nil)
        (pss_cons (ps_if (pt_val (pe_callB (call_isP T.e_TooMany.e hz hf hp) (by rfl) T.f_isinstance (by decide +kernel) (pa_cons (pv 0) (pa_cons (pe_gl T.g_BadEdit) pa_nil)))) pss_never pss_nil)
        (pss_cons (ps_if (pt_val (pe_callB (call_isP T.e_TooMany.e hz hf hp) (by rfl) T.f_isinstance (by decide +kernel) (pa_cons (pv 0) (pa_cons (pe_gl T.g_BadPatch) pa_nil)))) pss_never pss_nil)
        (pss_cons (ps_if (pt_val (pe_callB (call_isP T.e_TooMany.e hz hf hp) (by rfl) T.f_isinstance (by decide +kernel) (pa_cons (pv 0) (pa_cons (pe_gl T.g_BadPaper) pa_nil)))) pss_never pss_nil)
        (pss_cons (ps_if (pt_val (pe_callB (call_isP T.e_TooMany.e hz hf hp) (by rfl) T.f_isinstance (by decide +kernel) (pa_cons (pv 0) (pa_cons (pe_gl T.g_BadDeed) pa_nil)))) pss_never pss_nil)
        (pss_cons (ps_if (PW.pt (pw_or (pt_not (pt_val (pe_callB (call_isP T.e_TooMany.e hz hf hp) (by rfl) T.f_isinstance (by decide +kernel) (pa_cons (pv 0) (pa_cons (pe_gl T.g_OutsideError) pa_nil))))) (pw_or (pt_not (pt_val (pe_callB (call_isP T.e_TooMany.e hz hf hp) (by rfl) T.f_isinstance (by decide +kernel) (pa_cons (pv 0) (pa_cons (pe_ty T.f_ValueError) pa_nil))))) (pw_or1 (pt_cmpR (otherK (K := K) hu) (pe_callB (lenK (K := K)) (by rfl) T.f_len boot_len (pa_cons (pv 1) pa_nil)) pe_int (nomark _)))))) (pss_one (ps_ret (pe_tup (pa_cons pe_str pa_nil)))) pss_nil)
        (pss_one (ps_ret (pe_ix (ixK (K := K)) (pv 1) pe_int (fun _ _ => rfl)))))))))))))))))))))), ?_⟩
  walk_at "st"
  intro l H1 hl e1 h1
  have hd1 := e1 _ _ hd
  walk_at "st"
  refine r_isP hd1 (T.kits.yes hx) ?_
  walk_at "st"
  refine ⟨.inl ⟨rfl, _, sqL h1⟩, ?_⟩
  walk_at "st"
  refine r_xp ?_
  walk_at "st"
  refine ⟨rfl, _, _, hd1, hu0, ?_⟩
  walk_at "st"
  intro q H2 hq e2 h2
  walk_at "st"
  refine r_app (e2 _ _ h1) (by decide) (fun H3 h3 m3 => ?_)
  walk_at "st"
  have nl : dd ≠ l := ne_of_none hd hl
  have nq : q ≠ l := (ne_of_none h1 hq).symm
  have hd3 := mut_at m3 nl (e2 _ _ hd1)
  have hq3 := mut_at m3 nq h2
  have e3 : Ext H H3 := mut_ext (e1.trans e2) hl m3
  walk_at "st"
  refine r_isP hd3 (T.kits.no hx (by simp [errs]) (by decide)) ?_
  walk_at "st"
  refine r_isP hd3 (T.kits.no hx (by simp [errs]) (by decide)) ?_
  walk_at "st"
  refine r_isP hd3 (T.kits.no hx (by simp [errs]) (by decide)) ?_
  walk_at "st"
  refine r_isP hd3 (T.kits.no hx (by simp [errs]) (by decide)) ?_
  walk_at "st"
  refine r_isP hd3 (T.kits.no hx (by simp [errs]) (by decide)) ?_
  walk_at "st"
  refine r_isP hd3 (T.kits.no hx (by simp [errs]) (by decide)) ?_
  walk_at "st"
  refine r_isP hd3 (T.kits.no hx (by simp [errs]) (by decide)) ?_
  walk_at "st"
  refine r_isP hd3 (T.kits.no hx (by simp [errs]) (by decide)) ?_
  walk_at "st"
  refine r_isP hd3 (T.kits.no hx (by simp [errs]) (by decide)) ?_
  walk_at "st"
  refine r_isP hd3 (T.kits.no hx (by simp [errs]) (by decide)) ?_
  walk_at "st"
  refine r_isP hd3 (T.kits.no hx (by simp [errs]) (by decide)) ?_
  walk_at "st"
  refine r_isP hd3 (T.kits.no hx (by simp [errs]) (by decide)) ?_
  walk_at "st"
  refine r_isP hd3 (T.kits.no hx (by simp [errs]) (by decide)) ?_
  walk_at "st"
  refine r_isP hd3 (T.kits.no hx (by simp [errs]) (by decide)) ?_
  walk_at "st"
  refine r_isP hd3 (T.kits.no hx (by simp [errs]) (by decide)) ?_
  walk_at "st"
  refine r_isP hd3 (T.kits.kitO _ hx) ?_
  walk_at "st"
  refine r_isPV hd3 (T.kits.kitV _ hx) ?_
  walk_at "st"
  refine r_lenL (sqL h3) rfl ?_
  walk_at "st"
  refine ite_n (fun z => absurd rfl z) (fun _ => ?_)
  walk_at "st"
  refine r_atL (sqL h3) (atI_nat (j := 0) rfl) ?_
  exact k q H3 (e1.none hq) e3 hq3
theorem scf_BadLayout : FnScope ["error", "found"] ["error"] (defScope s__law_fault) := ⟨rfl, rfl, rfl, by decide +kernel, rfl, by decide +kernel, by decide +kernel⟩
theorem fault_BadLayout (T : Txt w K mg) {fd : FuncData} (F : FunD K "_law_fault" "_law_fault" (defArgs s__law_fault) (defBody s__law_fault) (defScope s__law_fault) [] [] (He.ga K "_law_fault") fd) : FnP P w K mg base (L2N.CX P w) 1 (He.ga K "_law_fault") fd ["error"] (onP (spFlt K "BadLayout" (["what"] : List Str))) := by
  refine fnP_of F scf_BadLayout (fun p vs H Q E h => by obtain ⟨dd, kv, us, rfl, _⟩ := h; rfl) (fun p cdv A outer s H vs Q E hot hr h => ?_)
  have nd := scf_BadLayout.nd
  obtain ⟨dd, kv, us, rfl, hz, hd, hus, k⟩ := h
  have hf : ∃ ws, p.2.data = .fields ws := by obtain ⟨ws, e, _⟩ := hot.2; exact ⟨ws, e⟩
  obtain ⟨u0, rfl, hu0⟩ : ∃ u0, us = [u0] ∧ kv.lookup ("what" : Str) = some u0 := by
    cases us with
    | nil => simp at hus
    | cons u r =>
      cases r with
      | nil => exact ⟨u, rfl, by simpa using hus⟩
      | cons v r => simp at hus
  have hp : p ∈ (L2H.cxH (L2N.CX P w) P w K mg base ["error", "found"] "_law_fault" (defScope s__law_fault) (He.ga K "_law_fault") cdv A outer s H E p).pn := List.mem_singleton.mpr rfl
  have hu : ((L2H.cxH (L2N.CX P w) P w K mg base ["error", "found"] "_law_fault" (defScope s__law_fault) (He.ga K "_law_fault") cdv A outer s H E p).A).units + 64 < cLine := by have := hr.un; show (A.deeper _).units + 64 < cLine; omega
  have hx : ("BadLayout" : Str) ∈ errs := by simp [errs]
  refine ⟨_, (pss_cons (ps_set (i := 1) nd rfl (Or.inl rfl) (pe_lst pa_nil))
        (pss_cons (ps_if (pt_val (pe_callB (call_isP T.e_BadLayout.e hz hf hp) (by rfl) T.f_isinstance (by decide +kernel) (pa_cons (pv 0) (pa_cons (pe_gl T.g_TooMany) pa_nil)))) pss_never pss_nil)
        (pss_cons (ps_if (pt_val (pe_callB (call_isP T.e_BadLayout.e hz hf hp) (by rfl) T.f_isinstance (by decide +kernel) (pa_cons (pv 0) (pa_cons (pe_gl T.g_BadText) pa_nil)))) pss_never pss_nil)
        (pss_cons (ps_if (pt_val (pe_callB (call_isP T.e_BadLayout.e hz hf hp) (by rfl) T.f_isinstance (by decide +kernel) (pa_cons (pv 0) (pa_cons (pe_gl T.g_BadFormat) pa_nil)))) pss_never pss_nil)
        (pss_cons (ps_if (pt_val (pe_callB (call_isP T.e_BadLayout.e hz hf hp) (by rfl) T.f_isinstance (by decide +kernel) (pa_cons (pv 0) (pa_cons (pe_gl T.g_BadValue) pa_nil)))) pss_never pss_nil)
        (pss_cons (ps_if (pt_val (pe_callB (call_isP T.e_BadLayout.e hz hf hp) (by rfl) T.f_isinstance (by decide +kernel) (pa_cons (pv 0) (pa_cons (pe_gl T.g_BadShape) pa_nil)))) pss_never pss_nil)
        (pss_cons (ps_if (pt_val (pe_callB (call_isP T.e_BadLayout.e hz hf hp) (by rfl) T.f_isinstance (by decide +kernel) (pa_cons (pv 0) (pa_cons (pe_gl T.g_BadRow) pa_nil)))) pss_never pss_nil)
        (pss_cons (ps_if (pt_val (pe_callB (call_isP T.e_BadLayout.e hz hf hp) (by rfl) T.f_isinstance (by decide +kernel) (pa_cons (pv 0) (pa_cons (pe_gl T.g_BadSet) pa_nil)))) pss_never pss_nil)
        (pss_cons (ps_if (pt_val (pe_callB (call_isP T.e_BadLayout.e hz hf hp) (by rfl) T.f_isinstance (by decide +kernel) (pa_cons (pv 0) (pa_cons (pe_gl T.g_BadReader) pa_nil)))) pss_never pss_nil)
        (pss_cons (ps_if (pt_val (pe_callB (call_isP T.e_BadLayout.e hz hf hp) (by rfl) T.f_isinstance (by decide +kernel) (pa_cons (pv 0) (pa_cons (pe_gl T.g_BadLayout) pa_nil)))) (pss_one (ps_expr (peBM (K := K) (pe_bm PySem.F.plainAttrs_list PySem.F.slot_list_append PySem.F.type_list_append mt_append (pv 1) (pa_cons (pe_tup (pa_cons pe_str (pa_cons (pe_xp T.e_BadLayout.f (T.e_BadLayout.no _ (by simp)) hz hf hp (pv 0)) pa_nil))) pa_nil))))) pss_nil)
        (pss_cons (ps_if (pt_val (pe_callB (call_isP T.e_BadLayout.e hz hf hp) (by rfl) T.f_isinstance (by decide +kernel) (pa_cons (pv 0) (pa_cons (pe_gl T.g_BadCheck) pa_nil)))) pss_never pss_nil)
        (pss_cons (ps_if (pt_val (pe_callB (call_isP T.e_BadLayout.e hz hf hp) (by rfl) T.f_isinstance (by decide +kernel) (pa_cons (pv 0) (pa_cons (pe_gl T.g_BadCode) pa_nil)))) pss_never pss_nil)
        (pss_cons (ps_if (pt_val (pe_callB (call_isP T.e_BadLayout.e hz hf hp) (by rfl) T.f_isinstance (by decide +kernel) (pa_cons (pv 0) (pa_cons (pe_gl T.g_BadFeed) pa_nil)))) pss_never pss_nil)
        (pss_cons (ps_if (pt_val (pe_callB (call_isP T.e_BadLayout.e hz hf hp) (by rfl) T.f_isinstance (by decide +kernel) (pa_cons (pv 0) (pa_cons (pe_gl T.g_BadEdit) pa_nil)))) pss_never pss_nil)
        (pss_cons (ps_if (pt_val (pe_callB (call_isP T.e_BadLayout.e hz hf hp) (by rfl) T.f_isinstance (by decide +kernel) (pa_cons (pv 0) (pa_cons (pe_gl T.g_BadPatch) pa_nil)))) pss_never pss_nil)
        (pss_cons (ps_if (pt_val (pe_callB (call_isP T.e_BadLayout.e hz hf hp) (by rfl) T.f_isinstance (by decide +kernel) (pa_cons (pv 0) (pa_cons (pe_gl T.g_BadPaper) pa_nil)))) pss_never pss_nil)
        (pss_cons (ps_if (pt_val (pe_callB (call_isP T.e_BadLayout.e hz hf hp) (by rfl) T.f_isinstance (by decide +kernel) (pa_cons (pv 0) (pa_cons (pe_gl T.g_BadDeed) pa_nil)))) pss_never pss_nil)
        (pss_cons (ps_if (PW.pt (pw_or (pt_not (pt_val (pe_callB (call_isP T.e_BadLayout.e hz hf hp) (by rfl) T.f_isinstance (by decide +kernel) (pa_cons (pv 0) (pa_cons (pe_gl T.g_OutsideError) pa_nil))))) (pw_or (pt_not (pt_val (pe_callB (call_isP T.e_BadLayout.e hz hf hp) (by rfl) T.f_isinstance (by decide +kernel) (pa_cons (pv 0) (pa_cons (pe_ty T.f_ValueError) pa_nil))))) (pw_or1 (pt_cmpR (otherK (K := K) hu) (pe_callB (lenK (K := K)) (by rfl) T.f_len boot_len (pa_cons (pv 1) pa_nil)) pe_int (nomark _)))))) (pss_one (ps_ret (pe_tup (pa_cons pe_str pa_nil)))) pss_nil)
        (pss_one (ps_ret (pe_ix (ixK (K := K)) (pv 1) pe_int (fun _ _ => rfl)))))))))))))))))))))), ?_⟩
  walk_at "st"
  intro l H1 hl e1 h1
  have hd1 := e1 _ _ hd
  walk_at "st"
  refine r_isP hd1 (T.kits.no hx (by simp [errs]) (by decide)) ?_
  walk_at "st"
  refine r_isP hd1 (T.kits.no hx (by simp [errs]) (by decide)) ?_
  walk_at "st"
  refine r_isP hd1 (T.kits.no hx (by simp [errs]) (by decide)) ?_
  walk_at "st"
  refine r_isP hd1 (T.kits.no hx (by simp [errs]) (by decide)) ?_
  walk_at "st"
  refine r_isP hd1 (T.kits.no hx (by simp [errs]) (by decide)) ?_
  walk_at "st"
  refine r_isP hd1 (T.kits.no hx (by simp [errs]) (by decide)) ?_
  walk_at "st"
  refine r_isP hd1 (T.kits.no hx (by simp [errs]) (by decide)) ?_
  walk_at "st"
  refine r_isP hd1 (T.kits.no hx (by simp [errs]) (by decide)) ?_
  walk_at "st"
  refine r_isP hd1 (T.kits.yes hx) ?_
  walk_at "st"
  refine ⟨.inl ⟨rfl, _, sqL h1⟩, ?_⟩
  walk_at "st"
  refine r_xp ?_
  walk_at "st"
  refine ⟨rfl, _, _, hd1, hu0, ?_⟩
  walk_at "st"
  intro q H2 hq e2 h2
  walk_at "st"
  refine r_app (e2 _ _ h1) (by decide) (fun H3 h3 m3 => ?_)
  walk_at "st"
  have nl : dd ≠ l := ne_of_none hd hl
  have nq : q ≠ l := (ne_of_none h1 hq).symm
  have hd3 := mut_at m3 nl (e2 _ _ hd1)
  have hq3 := mut_at m3 nq h2
  have e3 : Ext H H3 := mut_ext (e1.trans e2) hl m3
  walk_at "st"
  refine r_isP hd3 (T.kits.no hx (by simp [errs]) (by decide)) ?_
  walk_at "st"
  refine r_isP hd3 (T.kits.no hx (by simp [errs]) (by decide)) ?_
  walk_at "st"
  refine r_isP hd3 (T.kits.no hx (by simp [errs]) (by decide)) ?_
  walk_at "st"
  refine r_isP hd3 (T.kits.no hx (by simp [errs]) (by decide)) ?_
  walk_at "st"
  refine r_isP hd3 (T.kits.no hx (by simp [errs]) (by decide)) ?_
  walk_at "st"
  refine r_isP hd3 (T.kits.no hx (by simp [errs]) (by decide)) ?_
  walk_at "st"
  refine r_isP hd3 (T.kits.no hx (by simp [errs]) (by decide)) ?_
  walk_at "st"
  refine r_isP hd3 (T.kits.kitO _ hx) ?_
  walk_at "st"
  refine r_isPV hd3 (T.kits.kitV _ hx) ?_
  walk_at "st"
  refine r_lenL (sqL h3) rfl ?_
  walk_at "st"
  refine ite_n (fun z => absurd rfl z) (fun _ => ?_)
  walk_at "st"
  refine r_atL (sqL h3) (atI_nat (j := 0) rfl) ?_
  exact k q H3 (e1.none hq) e3 hq3
def faultL : List (Str × List Str) := [("TooMany", ["what"]), ("BadLayout", ["what"])]
theorem ok_fault (T : Txt w K mg) : FaultG P w K mg base faultL := by
  obtain ⟨fd, F⟩ := T.d__law_fault
  refine ⟨T.g__law_fault, F.kp, fd, fnP_any (fun x hx => ?_), F.bindsN fun _ _ _ _ _ _ us hl => match us, hl with | [_], _ => rfl⟩
  simp only [faultL, List.mem_cons, List.not_mem_nil, or_false] at hx
  rcases hx with rfl | rfl
  · exact fault_TooMany T F
  · exact fault_BadLayout T F
/-! ### asked -/
def Tell (Q : VK) (H : Hp) (c what : Str) : Prop := ∀ q H', Ext H H' → H' q = some (.tup [.str c, .str what]) → Q (.ref q) H'
def spAsk (K : PySem.W.Frag) : Sp := fun vs H Q _ => ∃ (n d : Int) (par : Int → Int) (lev : Int → Nat) (r : Nat), vs = [.int n, .int d] ∧ (6 < d → Tell Q H "TooMany" "depth") ∧ (d ≤ 6 → 400 < n → Tell Q H "TooMany" "layout") ∧ (d ≤ 6 → n ≤ 400 → n < 1 → Tell Q H "BadLayout" "parts") ∧
  (d ≤ 6 → n ≤ 400 → 1 ≤ n → d < 1 → Tell Q H "BadLayout" "depth") ∧ (d ≤ 6 → n ≤ 400 → 1 ≤ n → 1 ≤ d → Del.Least n.toNat d.toNat r ∧ Lay.Built par lev n.toNat d.toNat r ∧
    ∀ q p H', H p = none → Ext H H' → H' p = some (.lst ((parL par n.toNat).map V.int)) → H' q = some (.tup [.str "told", .ref p]) → Q (.ref q) H')
theorem sc__law_f_asked : FnScope ["n", "d", "error"] ["n", "d"] (defScope s__law_f_asked) := ⟨rfl, rfl, rfl, by decide +kernel, rfl, by decide +kernel, by decide +kernel⟩
theorem ok_law_f_asked (T : Txt w K mg) : CalG P w K mg base 10 "_law_f_asked" ["n", "d"] (spAsk K) := by
  have c_fault : FaultG P w K mg base faultL := ok_fault T
  have c_index_layout := ok_index_layout (P := P) (base := base) T
  refine calG_of T.g__law_f_asked T.d__law_f_asked sc__law_f_asked (fun _ _ _ _ _ _ _ us hl => match us, hl with | [_, _], _ => rfl) (fun vs H Q E h => by obtain ⟨_, _, _, _, _, rfl, _⟩ := h; rfl) (fun cdv A outer s H vs Q E hr h => ?_)
  have nd := sc__law_f_asked.nd
  have hu := hu64 hr
  obtain ⟨n, d, par, lev, r, rfl, b1, b2, b3, b4, k⟩ := h
  refine ⟨_, (pss_one (ps_tryZ (i := 2) (ts := fun a cls d => tRet (tCallS (spFlts K faultL a cls d) (WE fun _ _ _ _ => False) (tCons (tVar 2) tNil))) rfl rfl nd rfl rfl ⟨rfl, by decide, Or.inl T.g_OutsideError⟩ (L2N.takes_of rfl rfl rfl rfl) (fun W z => (pss_one (ps_ret (pe_tup (pa_cons pe_str (pa_cons (pe_cal c_index_layout hr (by omega) (fun σ => L2N.passAt z.tk σ) (pa_cons (pv 0) (pa_cons (pv 1) pa_nil))) pa_nil)))))) (fun a oe cls d pn hz hf => (pss_one (ps_ret (pe_fault c_fault (L2H.roomH_mark (hr.mono (by omega)) _) hz (hotOf hz hf) (List.mem_cons_self) (pv 2))))))), ?_⟩
  have inl1 : (("TooMany" : Str), (["what"] : List Str)) ∈ faultL := by simp [faultL]
  have inl2 : (("BadLayout" : Str), (["what"] : List Str)) ∈ faultL := by simp [faultL]
  have ex1 := T.kits.exm "TooMany" (by simp [errs])
  have ex2 := T.kits.exm "BadLayout" (by simp [errs])
  intro z
  walk_at "st"
  refine ⟨n, d, par, lev, r, rfl, fun c => ?_, fun c1 c2 => ?_, fun c1 c2 c3 => ?_, fun c1 c2 c3 c4 => ?_, fun c1 c2 c3 c4 => ?_⟩
  · exact bad_tell ex1 inl1 (Nat.le_of_ble_eq_true rfl) fun q H' e h => b1 c q H' e h
  · exact bad_tell ex1 inl1 (Nat.le_of_ble_eq_true rfl) fun q H' e h => b2 c1 c2 q H' e h
  · exact bad_tell ex2 inl2 (Nat.le_of_ble_eq_true rfl) fun q H' e h => b3 c1 c2 c3 q H' e h
  · exact bad_tell ex2 inl2 (Nat.le_of_ble_eq_true rfl) fun q H' e h => b4 c1 c2 c3 c4 q H' e h
  · obtain ⟨hl, B, k⟩ := k c1 c2 c3 c4
    refine ⟨hl, B, fun p H1 hp e1 h1 => ?_⟩
    walk_at "st"
    intro q H2 hq e2 h2
    exact k q p H2 hp (e1.trans e2) (e2 _ _ h1) h2
def spSize : Sp := fun vs H Q _ => ∃ (p : Addr), vs = [.ref p] ∧ Src H p ∧ ∀ r H', 1 ≤ r → r ≤ 400 → Src H' p → (∀ b, b ≠ p → H' b = H b) → Q (.int r) H'
theorem sc__law_f_size : FnScope ["source", "near"] ["source"] (defScope s__law_f_size) := ⟨rfl, rfl, rfl, by decide +kernel, rfl, by decide +kernel, by decide +kernel⟩
theorem ok_law_f_size (T : Txt w K mg) : CalG P w K mg base 3 "_law_f_size" ["source"] spSize := by
  have c__law_pick := ok_law_pick (P := P) (base := base) T
  have c__law_reach := ok_law_reach (P := P) (base := base) T
  refine calG_of T.g__law_f_size T.d__law_f_size sc__law_f_size (fun _ _ _ _ _ _ _ us hl => match us, hl with | [_], _ => rfl) (fun vs H Q E h => by obtain ⟨c, rfl, _⟩ := h; rfl) (fun cdv A outer s H vs Q E hr h => ?_)
  have nd := sc__law_f_size.nd
  have hu := hu64 hr
  obtain ⟨p, rfl, sp, k⟩ := h
  refine ⟨_, (pss_cons (ps_if (pt_cmpR (sameK (K := K) hu) (pe_cal c__law_pick hr (by omega) (fun σ => L2N.passAt (L2N.takes_of rfl rfl rfl rfl) σ) (pa_cons (pv 0) (pa_cons pe_int pa_nil))) pe_int (nomark _)) (pss_one (ps_ret (pe_op (plusK (K := K)) pe_int (pe_cal c__law_pick hr (by omega) (fun σ => L2N.passAt (L2N.takes_of rfl rfl rfl rfl) σ) (pa_cons (pv 0) (pa_cons pe_int pa_nil)))))) pss_nil)
        (pss_cons (ps_if (pt_cmpR (sameK (K := K) hu) (pe_cal c__law_pick hr (by omega) (fun σ => L2N.passAt (L2N.takes_of rfl rfl rfl rfl) σ) (pa_cons (pv 0) (pa_cons pe_int pa_nil))) pe_int (nomark _)) (pss_cons (ps_set (i := 1) nd rfl (Or.inl rfl) (pe_op (plusK (K := K)) (pe_cal c__law_reach hr (by omega) (fun σ => L2N.passAt (L2N.takes_of rfl rfl rfl rfl) σ) (pa_cons (pe_op (plusK (K := K)) pe_int (pe_cal c__law_pick hr (by omega) (fun σ => L2N.passAt (L2N.takes_of rfl rfl rfl rfl) σ) (pa_cons (pv 0) (pa_cons pe_int pa_nil)))) (pa_cons (pe_cal c__law_pick hr (by omega) (fun σ => L2N.passAt (L2N.takes_of rfl rfl rfl rfl) σ) (pa_cons (pv 0) (pa_cons pe_int pa_nil))) pa_nil))) (pe_cal c__law_pick hr (by omega) (fun σ => L2N.passAt (L2N.takes_of rfl rfl rfl rfl) σ) (pa_cons (pv 0) (pa_cons pe_int pa_nil)))))
        (pss_one (ps_ret (pe_callB (cr_min2 rfl) (by rfl) T.f_min (by decide +kernel) (pa_cons pe_int (pa_cons (pv 1) pa_nil)))))) pss_nil)
        (pss_one (ps_ret (pe_op (plusK (K := K)) pe_int (pe_cal c__law_pick hr (by omega) (fun σ => L2N.passAt (L2N.takes_of rfl rfl rfl rfl) σ) (pa_cons (pv 0) (pa_cons pe_int pa_nil)))))))), ?_⟩
  walk_at "st"
  refine ⟨p, 6, rfl, sp, by decide, by decide, fun r H1 r0 r1 s1 n1 => ?_⟩
  walk_at "st"
  refine ite_d (fun c => ?_) (fun c => ?_)
  · walk_at "st"
    refine ⟨p, 340, rfl, s1, by decide, by decide, fun r2 H2 r20 r21 s2 n2 => ?_⟩
    walk_at "st"
    exact k _ H2 (by omega) (by omega) s2 fun b hb => (n2 b hb).trans (n1 b hb)
  walk_at "st"
  refine ⟨p, 3, rfl, s1, by decide, by decide, fun r2 H2 r20 r21 s2 n2 => ?_⟩
  walk_at "st"
  have n02 : ∀ b, b ≠ p → H2 b = H b := fun b hb => (n2 b hb).trans (n1 b hb)
  refine ite_d (fun c => ?_) (fun c => ?_)
  · walk_at "st"
    refine ⟨p, 5, rfl, s2, by decide, by decide, fun r3 H3 r30 r31 s3 n3 => ?_⟩
    walk_at "st"
    refine ⟨p, 4, rfl, s3, by decide, by decide, fun r4 H4 r40 r41 s4 n4 => ?_⟩
    walk_at "st"
    refine ⟨(1 + r3).toNat, r4.toNat, by rw [Int.toNat_of_nonneg (by omega), Int.toNat_of_nonneg r40], by omega, by omega, ?_⟩
    have dp := Del.D_pos (1 + r3).toNat r4.toNat
    walk_at "st"
    refine ⟨p, 2, rfl, s4, by decide, by decide, fun r5 H5 r50 r51 s5 n5 => ?_⟩
    walk_at "st"
    exact k _ H5 (by omega) (by omega) s5 fun b hb => (n5 b hb).trans ((n4 b hb).trans ((n3 b hb).trans (n02 b hb)))
  · walk_at "st"
    refine ⟨p, 60, rfl, s2, by decide, by decide, fun r5 H5 r50 r51 s5 n5 => ?_⟩
    walk_at "st"
    exact k _ H5 (by omega) (by omega) s5 fun b hb => (n5 b hb).trans (n02 b hb)

end
end K26
set_option maxRecDepth 100000
set_option maxHeartbeats 4000000
namespace K26
open PySem PySem.Spec PyProof.Rows L2 L3
local macro_rules | `(tactic| walk_at "s1") => `(tactic| first
  | with_reducible refine r_seq ?_
  | with_reducible refine r_asgN ?_
  | with_reducible refine r_ret ?_
  | with_reducible refine r_next ?_
  | ((with_reducible refine' r_var ?hv ?_); (case hv => exact rfl))
  | with_reducible refine r_c ?_
  | with_reducible refine r_op ?_
  | with_reducible refine r_cons ?_
  | with_reducible refine r_nil ?_
  | with_reducible refine r_plusI ?_
  | with_reducible refine r_I0 ?_
  | with_reducible refine r_test ?_
  | with_reducible refine r_bl ?_
  | with_reducible refine r_ifS ?_
  | with_reducible refine r_cb ?_
  | with_reducible refine r_callS ?_
  | with_reducible refine r_and ?_
  | with_reducible refine r_or ?_
  | with_reducible refine r_not ?_
  | with_reducible refine r_B ?_
  | ((with_reducible refine' r_aug ?hv ?_); (case hv => exact rfl))
  | with_reducible refine r_augS ?_
  | with_reducible refine r_ipI ?_
  | with_reducible refine r_asg ?_
  | with_reducible refine r_sub ?_
  | with_reducible refine r_brk ?_
  | with_reducible refine r_isN1 ?_
  | with_reducible refine r_notN1 ?_
  | with_reducible refine r_intI ?_
  | with_reducible refine r_abs ?_
  | with_reducible refine r_min ?_
  | with_reducible refine r_max ?_
  | ((with_reducible refine' r_mod ?hz ?_); (case hz => omega))
  | ((with_reducible refine' r_pow ?hz ?_); (case hz => exact ⟨by decide, by decide, by decide⟩))
  | ((with_reducible refine' r_rg1 ?hz ?_); (case hz => omega))
  | ((with_reducible refine' r_rg2 ?hz ?_); (case hz => omega))
  | ((with_reducible refine' r_newL ?hz ?_); (case hz => exact Nat.le_of_ble_eq_true rfl))
  | ((with_reducible refine' r_newT ?hz ?_); (case hz => exact Nat.le_of_ble_eq_true rfl))
  | with_reducible refine r_for ?_
  | with_reducible refine r_lc ?_
  | with_reducible refine r_iR1 ?_
  | with_reducible refine r_iR2 ?_
  | with_reducible refine r_iL ?_
  | with_reducible refine r_iT ?_
  | with_reducible refine r_gname ?_
  | with_reducible refine r_gcons ?_
  | with_reducible refine r_gnil ?_
  | with_reducible refine r_yes ?_
  | with_reducible refine r_mkO ?_
  | with_reducible refine r_cont ?_
  | with_reducible refine r_drop ?_
  | with_reducible refine r_retN ?_
  | with_reducible refine r_ifC ?_
  | with_reducible refine r_ifI ?_
  | with_reducible refine r_if ?_
  | with_reducible refine r_un ?_
  | with_reducible refine r_neg ?_
  | with_reducible refine r_andV ?_
  | with_reducible refine r_orV ?_
  | with_reducible refine r_notV ?_
  | with_reducible refine r_tup ?_
  | with_reducible refine r_lst ?_
  | with_reducible refine r_bm ?_
  | with_reducible refine r_bm0 ?_
  | with_reducible refine r_sl ?_
  | with_reducible refine r_chain ?_
  | with_reducible refine r_listDn ?_
  | with_reducible refine r_listRg2 ?_
  | with_reducible refine r_revL ?_
  | with_reducible refine r_noPart ?_
  | with_reducible refine r_part ?_
  | with_reducible refine r_int ?_
  | ((with_reducible refine' r_sameS ?hs ?_); (case hs => exact rfl))
  | ((with_reducible refine' r_otherS ?hs ?_); (case hs => exact rfl))
  | with_reducible refine ite_t ?_
  | with_reducible refine ite_f ?_
  | with_reducible refine ite_nt ?_
  | with_reducible refine ite_nf ?_)
local macro_rules | `(tactic| walk_at "st") => `(tactic| repeat (walk_at "s1"))

section
variable {P : Program} {w : World} {K : PySem.W.Frag} {mg : Str → Option Value} {base : Heap}
theorem least_ex (n d : Nat) (hd : 1 ≤ d) : ∃ r, Del.Least n d r := by
  have key : ∀ m r, r + m = n → (∀ r', r' < r → Del.D d r' < n) → ∃ r, Del.Least n d r := by
    intro m
    induction m with
    | zero => intro r h hr; exact ⟨r, by have := Del.D_ge d r hd; omega, hr⟩
    | succ m ih =>
      intro r h hr
      by_cases c : n ≤ Del.D d r
      · exact ⟨r, c, hr⟩
      · refine ih (r + 1) (by omega) fun r' h' => ?_
        by_cases e : r' = r
        · subst e; omega
        · exact hr r' (by omega)
  exact key n 0 (by omega) (fun r' h => absurd h (Nat.not_lt_zero _))
structure Pairs (p D : Addr) (ps : List (Addr × Nat × Nat)) (H : Hp) : Prop where
  l : H D = some (.lst (ps.map fun q => V.ref q.1))
  ne : D ≠ p
  it : ∀ q ∈ ps, H q.1 = some (.lst [.int q.2.1, .int q.2.2]) ∧ (1 ≤ q.2.1 ∧ q.2.1 ≤ 400) ∧ (1 ≤ q.2.2 ∧ q.2.2 ≤ 6) ∧ q.1 ≠ p ∧ q.1 ≠ D
theorem Pairs.but {p D : Addr} {ps : List (Addr × Nat × Nat)} {H H' : Hp} (h : Pairs p D ps H) (b : But p H H') : Pairs p D ps H' :=
  ⟨b _ _ h.ne h.l, h.ne, fun q hq => by
    obtain ⟨h1, h2, h3, h4, h5⟩ := h.it q hq
    exact ⟨b _ _ h4 h1, h2, h3, h4, h5⟩⟩
theorem Pairs.push {p D a : Addr} {ps : List (Addr × Nat × Nat)} {H H' H2 : Hp} {n d : Nat} (h : Pairs p D ps H) (sp : Src H p) (ha : H a = none) (e : Ext H H') (h1 : H' a = some (.lst [.int n, .int d])) (hn : 1 ≤ n ∧ n ≤ 400) (hd : 1 ≤ d ∧ d ≤ 6) (hD : H2 D = some (.lst ((ps.map fun q => V.ref q.1) ++ [.ref a]))) (n2 : ∀ b, b ≠ D → H2 b = H' b) :
    Pairs p D (ps ++ [(a, n, d)]) H2 := by
  have aD : a ≠ D := (ne_of_none h.l ha).symm
  have ap : a ≠ p := (src_ne sp ha).symm
  refine ⟨by rw [hD, List.map_append]; rfl, h.ne, fun q hq => ?_⟩
  rcases List.mem_append.mp hq with hq | hq
  · obtain ⟨h1, h2, h3, h4, h5⟩ := h.it q hq
    exact ⟨(n2 _ h5).trans (e _ _ h1), h2, h3, h4, h5⟩
  · rw [List.mem_singleton.mp hq]
    exact ⟨(n2 _ aD).trans h1, hn, hd, ap, aD⟩
def toldD (par : Int → Int) (n : Nat) : PyData := .tuple [.str "told", .list ((parL par n).map PyData.int)]
theorem told_small (par : Int → Int) (n : Nat) (h : n ≤ 400) : smallD 3 (toldD par n) := small_tup (by show 2 ≤ 100000; decide) (fun e he => by
  simp at he
  rcases he with rfl | rfl
  · exact small_str _ _
  · exact small_ints 0 (by unfold parL; rw [List.length_map, List.length_range]; omega))
theorem err_small (c x : Str) : smallD 3 (.tuple [.str c, .str x]) := small_tup (by show 2 ≤ 100000; decide) (fun e he => by
  simp at he
  rcases he with rfl | rfl
  · exact small_str _ _
  · exact small_str _ _)
theorem told_dp {par : Int → Int} {n : Nat} {q p : Addr} {H : Hp} (h : H q = some (.tup [.str "told", .ref p])) (hp : H p = some (.lst ((parL par n).map V.int))) : Dp K H (.ref q) (toldD par n) := .tup (sqT h) (.cons (.str _) (.cons (.lst (sqL hp) (dps_ints _)) .nil))
theorem err_dp {q : Addr} {H : Hp} {c x : Str} (h : H q = some (.tup [.str c, .str x])) : Dp K H (.ref q) (.tuple [.str c, .str x]) := .tup (sqT h) (.cons (.str _) (.cons (.str _) .nil))
theorem src_keep {p : Addr} {H H' : Hp} (s : Src H p) (e : Ext H H') : Src H' p := s.ext e
/-- the rows told: lists of the answers -/
def Rows (Hb : Hp) (tl : Addr) (rs : List Addr) (m : Nat) (H : Hp) : Prop := H tl = some (.lst (rs.map V.ref)) ∧ ∀ q ∈ rs, Hb q = none ∧ q ≠ tl ∧ ∃ xs, H q = some (.lst xs) ∧ xs.length ≤ m
theorem Rows.but {Hb H H' : Hp} {tl p : Addr} {rs : List Addr} {m : Nat} (h : Rows Hb tl rs m H) (sp : Hb p ≠ none) (ht : Hb tl = none) (b : But p H H') : Rows Hb tl rs m H' :=
  ⟨b _ _ (fun e => sp (e ▸ ht)) h.1, fun q hq => by
    obtain ⟨h1, h2, xs, h3, h4⟩ := h.2 q hq
    exact ⟨h1, h2, xs, b _ _ (fun e => sp (e ▸ h1)) h3, h4⟩⟩
theorem Rows.ext {Hb H H' : Hp} {tl : Addr} {rs : List Addr} {m : Nat} (h : Rows Hb tl rs m H) (b : Ext H H') : Rows Hb tl rs m H' :=
  ⟨b _ _ h.1, fun q hq => by
    obtain ⟨h1, h2, xs, h3, h4⟩ := h.2 q hq
    exact ⟨h1, h2, xs, b _ _ h3, h4⟩⟩
theorem sc_law : FnScope ["script", "source", "pairs", "told", "n", "d", "due", "answer", "rows", "turn"] ["script"] (defScope s_law) := ⟨rfl, rfl, rfl, by decide +kernel, rfl, by decide +kernel, by decide +kernel⟩
theorem ok_law (T : Txt w K mg) {fd : FuncData} (D : FunD K "law" "law" (defArgs s_law) (defBody s_law) (defScope s_law) [] [] (He.ga K "law") fd) : FnOk P w K mg base (L2N.CX P w) 12 (He.ga K "law") fd ["script"] (spLaw K) := by
  have c__law_source := ok_law_source (P := P) (base := base) T
  have c__law_pick := ok_law_pick (P := P) (base := base) T
  have c__law_same := ok_law_same (P := P) (base := base) T 3
  have c__law_layout := ok_law_layout (P := P) (base := base) T
  have c__law_f_asked := ok_law_f_asked (P := P) (base := base) T
  have c__law_f_keeps := ok_law_f_keeps (P := P) (base := base) T
  have c__law_f_size := ok_law_f_size (P := P) (base := base) T
  refine D.ok sc_law (fun vs H Q E h => by obtain ⟨c, ns, rfl, _⟩ := h; rfl) (fun cdv A outer s H vs Q E hr h => ?_)
  have nd := sc_law.nd
  have hu := hu64 hr
  obtain ⟨a0, ns, rfl, hns, hl, k⟩ := h
  refine ⟨_, (pss_cons (ps_set (i := 1) nd rfl (Or.inr rfl) (pe_cal c__law_source hr (by omega) (fun σ => L2N.passAt (L2N.takes_of rfl rfl rfl rfl) σ) (pa_cons (pv 0) (pa_cons pe_int pa_nil))))
        (pss_cons (ps_setLc (i := 2) (own := [("turn", 9)]) rfl nd rfl rfl (sw_true rfl rfl rfl (by decide +kernel)) (pi_range1 (by rfl) T.f_range (pa_cons pe_int pa_nil)) (blkOk_by (N := ["script", "source", "pairs", "told", "n", "d", "due", "answer", "rows", "turn"]) (sc := defScope s_law) (by decide +kernel)) (fun _ _ _ _ _ => (pg_name (i := 9) nd rfl (Or.inl rfl))) (fun _ _ _ _ _ => pts_nil) (fun _ _ _ _ _ => (pe_lst (pa_cons (pe_cal c__law_f_size hr (by omega) passN (pa_cons (pv 1) pa_nil)) (pa_cons (pe_op (plusK (K := K)) pe_int (pe_cal c__law_pick hr (by omega) passN (pa_cons (pv 1) (pa_cons pe_int pa_nil)))) pa_nil)))))
        (pss_cons (ps_set (i := 3) nd rfl (Or.inl rfl) (pe_lst pa_nil))
        (pss_cons (ps_for (passes_of rfl) rfl (piL (K := K) (pv 2)) (pgL (K := K) (pg_lst rfl (pgs_cons (pg_name (i := 4) nd rfl (Or.inl rfl)) (pgs_cons (pg_name (i := 5) nd rfl (Or.inl rfl)) pgs_nil)))) (pss_cons (ps_set (i := 6) nd rfl (Or.inl rfl) (pe_cal c__law_layout hr (by omega) (fun σ => L2N.passAt (L2N.takes_of rfl rfl rfl rfl) σ) (pa_cons (pv 4) (pa_cons (pv 5) pa_nil))))
        (pss_cons (ps_set (i := 7) nd rfl (Or.inl rfl) (pe_cal c__law_f_asked hr (by omega) (fun σ => L2N.passAt (L2N.takes_of rfl rfl rfl rfl) σ) (pa_cons (pv 4) (pa_cons (pv 5) pa_nil))))
        (pss_cons (ps_if (PW.pt (pw_or (pt_not (pt_val (pe_cal c__law_same hr (by omega) (fun σ => L2N.passAt (L2N.takes_of rfl rfl rfl rfl) σ) (pa_cons (pv 7) (pa_cons (pe_tup (pa_cons pe_str (pa_cons (pv 6) pa_nil))) pa_nil))))) (pw_or1 (pt_not (pt_val (pe_cal c__law_f_keeps hr (by omega) (fun σ => L2N.passAt (L2N.takes_of rfl rfl rfl rfl) σ) (pa_cons (pv 4) (pa_cons (pv 5) (pa_cons (pe_ix (ixK (K := K)) (pv 7) pe_int (fun _ _ => rfl)) pa_nil))))))))) (pss_one (ps_ret pe_bl)) pss_nil)
        (pss_one (ps_expr (peBM (K := K) (pe_bm PySem.F.plainAttrs_list PySem.F.slot_list_append PySem.F.type_list_append mt_append (pv 3) (pa_cons (pe_ix (ixK (K := K)) (pv 7) pe_int (fun _ _ => rfl)) pa_nil)))))))))
        (pss_cons (ps_for (passes_of rfl) rfl (piL (K := K) (pv 3)) (pg_name (i := 8) nd rfl (Or.inl rfl)) (pss_cons (ps_expr (peBM (K := K) (pe_bm PySem.F.plainAttrs_list PySem.F.slot_list_append PySem.F.type_list_append mt_append (pv 8) (pa_cons pe_int pa_nil))))
        (pss_one (ps_asg (pe_op (plusK (K := K)) pe_int (pe_cal c__law_pick hr (by omega) (fun σ => L2N.passAt (L2N.takes_of rfl rfl rfl rfl) σ) (pa_cons (pv 1) (pa_cons pe_int pa_nil)))) (pg_sub (pv 8) pe_int set_list)))))
        (pss_cons (ps_for (passes_of rfl) rfl (piL (K := K) (pe_slice (slK (K := K)) (pv 2) po_none (po_some pe_int))) (pgL (K := K) (pg_lst rfl (pgs_cons (pg_name (i := 4) nd rfl (Or.inl rfl)) (pgs_cons (pg_name (i := 5) nd rfl (Or.inl rfl)) pgs_nil)))) (pss_one (ps_if (pt_not (pt_val (pe_cal c__law_same hr (by omega) (fun σ => L2N.passAt (L2N.takes_of rfl rfl rfl rfl) σ) (pa_cons (pe_cal c__law_f_asked hr (by omega) (fun σ => L2N.passAt (L2N.takes_of rfl rfl rfl rfl) σ) (pa_cons (pv 4) (pa_cons (pv 5) pa_nil))) (pa_cons (pe_tup (pa_cons pe_str (pa_cons (pe_cal c__law_layout hr (by omega) (fun σ => L2N.passAt (L2N.takes_of rfl rfl rfl rfl) σ) (pa_cons (pv 4) (pa_cons (pv 5) pa_nil))) pa_nil))) pa_nil))))) (pss_one (ps_ret pe_bl)) pss_nil)))
        (pss_cons (ps_for (passes_of rfl) rfl (piL (K := K) (pe_lst (pa_cons (pe_op op_sub pe_int (pe_cal c__law_pick hr (by omega) (fun σ => L2N.passAt (L2N.takes_of rfl rfl rfl rfl) σ) (pa_cons (pv 1) (pa_cons pe_int pa_nil)))) (pa_cons pe_int (pa_cons pe_int (pa_cons pe_int (pa_cons (pe_op (plusK (K := K)) pe_int (pe_cal c__law_pick hr (by omega) (fun σ => L2N.passAt (L2N.takes_of rfl rfl rfl rfl) σ) (pa_cons (pv 1) (pa_cons (pe_op op_pow pe_int pe_int) pa_nil)))) pa_nil))))))) (pg_name (i := 4) nd rfl (Or.inl rfl)) (pss_one (ps_for (passes_of rfl) rfl (piL (K := K) (pe_lst (pa_cons (pe_op op_sub pe_int (pe_cal c__law_pick hr (by omega) (fun σ => L2N.passAt (L2N.takes_of rfl rfl rfl rfl) σ) (pa_cons (pv 1) (pa_cons pe_int pa_nil)))) (pa_cons pe_int (pa_cons (pe_op (plusK (K := K)) pe_int (pe_op op_timesB (pe_cal c__law_pick hr (by omega) (fun σ => L2N.passAt (L2N.takes_of rfl rfl rfl rfl) σ) (pa_cons (pv 1) (pa_cons pe_int pa_nil))) pe_int)) pa_nil))))) (pg_name (i := 5) nd rfl (Or.inl rfl)) (pss_cons (ps_set (i := 6) nd rfl (Or.inl rfl) (pe_tup (pa_cons pe_str (pa_cons pe_non pa_nil))))
        (C8.pss_cut (ps_if (pt_cmpR op_gt (pv 5) pe_int (nomark _)) (pss_one (ps_set (i := 6) nd rfl (Or.inl rfl) (pe_tup (pa_cons pe_str (pa_cons pe_str pa_nil))))) (pss_one (ps_if (pt_cmpR op_gt (pv 4) pe_int (nomark _)) (pss_one (ps_set (i := 6) nd rfl (Or.inl rfl) (pe_tup (pa_cons pe_str (pa_cons pe_str pa_nil))))) (pss_one (ps_if (pt_cmpR op_lt (pv 4) pe_int (nomark _)) (pss_one (ps_set (i := 6) nd rfl (Or.inl rfl) (pe_tup (pa_cons pe_str (pa_cons pe_str pa_nil))))) (pss_one (ps_if (pt_cmpR op_lt (pv 5) pe_int (nomark _)) (pss_one (ps_set (i := 6) nd rfl (Or.inl rfl) (pe_tup (pa_cons pe_str (pa_cons pe_str pa_nil))))) pss_nil)))))))
        (pss_cons (ps_set (i := 7) nd rfl (Or.inl rfl) (pe_cal c__law_f_asked hr (by omega) (fun σ => L2N.passAt (L2N.takes_of rfl rfl rfl rfl) σ) (pa_cons (pv 4) (pa_cons (pv 5) pa_nil))))
        (pss_one (ps_if (pt_cmpR (sameK (K := K) hu) (pe_ix (ixK (K := K)) (pv 6) pe_int (fun _ _ => rfl)) pe_str (nomark _)) (pss_one (ps_if (PW.pt (pw_or (pt_cmpR (otherK (K := K) hu) (pe_ix (ixK (K := K)) (pv 7) pe_int (fun _ _ => rfl)) pe_str (nomark _)) (pw_or (pt_not (pt_val (pe_callB (isiK (K := K)) (by rfl) T.f_isinstance (by decide +kernel) (pa_cons (pe_ix (ixK (K := K)) (pv 7) pe_int (fun _ _ => rfl)) (pa_cons (pe_ty T.f_list) pa_nil))))) (pw_or1 (pt_cmpR (otherK (K := K) hu) (pe_callB (lenK (K := K)) (by rfl) T.f_len boot_len (pa_cons (pe_ix (ixK (K := K)) (pv 7) pe_int (fun _ _ => rfl)) pa_nil)) (pe_op op_sub (pv 4) pe_int) (nomark _)))))) (pss_one (ps_ret pe_bl)) pss_nil)) (pss_one (ps_if (pt_not (pt_val (pe_cal c__law_same hr (by omega) (fun σ => L2N.passAt (L2N.takes_of rfl rfl rfl rfl) σ) (pa_cons (pv 7) (pa_cons (pv 6) pa_nil))))) (pss_one (ps_ret pe_bl)) pss_nil))))))))))
        (pss_one (ps_ret pe_bl))))))))), ?_⟩
  walk_at "st"
  refine ⟨a0, ns, 0, rfl, hns, hl, by decide, fun p H1 hp0 e1 s1 => ?_⟩
  walk_at "st"
  intro L hL
  refine lcW_range (fun i H' => Src H' p ∧ ∃ ps, ps.length = i ∧ Pairs p L ps H') ⟨s1.ext (Ext.new hL), [], rfl, upd_same, (src_ne s1 hL).symm, fun q hq => absurd hq (List.not_mem_nil)⟩ ?_ ?_
  · rintro i H2 hi ⟨s2, ps, hps, hP⟩
    walk_at "st"
    refine r_lcW rfl ?_
    walk_at "st"
    refine ⟨p, rfl, s2, fun r3 H3 r30 r31 s3 n3 => ?_⟩
    walk_at "st"
    refine ⟨p, 6, rfl, s3, by decide, by decide, fun r4 H4 r40 r41 s4 n4 => ?_⟩
    walk_at "st"
    intro a H5 ha e5 h5
    have hP4 := (hP.but (.of n3)).but (.of n4)
    obtain ⟨n, rfl⟩ : ∃ m : Nat, r3 = m := ⟨r3.toNat, by omega⟩
    obtain ⟨d, rfl⟩ : ∃ m : Nat, r4 = m := ⟨r4.toNat, by omega⟩
    rw [show (1 : Int) + (d : Int) = ((1 + d : Nat) : Int) by omega] at h5
    refine ⟨_, e5 _ _ hP4.l, by rw [List.length_map, sizeLine_eq]; omega, ?_, ps ++ [(a, n, 1 + d)], by rw [List.length_append, hps]; rfl, ?_⟩
    · exact (s4.ext e5).stay (.of fun b hb => upd_ne hb) hP4.ne.symm
    · exact hP4.push s4 ha e5 h5 (by omega) (by omega) upd_same fun b hb => upd_ne hb
  rintro Hb ⟨sb, ps, hps, hP⟩
  have hlp : ps.length = 3 := hps
  walk_at "st"
  intro tl H2 htl e2 h2
  walk_at "st"
  have spn : Hb p ≠ none := src_some sb
  have ntp : tl ≠ p := (src_ne sb htl).symm
  refine r_li (sqL (e2 _ _ hP.l)) ?_
  -- the answers
  refine forW_list (fun i σ' H' => ∃ v4 v5 v6 v7, σ' = [some (.ref a0), some (.ref p), some (.ref L), some (.ref tl), v4, v5, v6, v7, none, none] ∧ But p Hb H' ∧ Src H' p ∧ ∃ rs, rs.length = i ∧ Rows Hb tl rs 500 H')
    ⟨none, none, none, none, rfl, ext_but e2, sb.ext e2, [], rfl, h2, fun q hq => absurd hq (List.not_mem_nil)⟩ (fun i σ' H' hi ⟨_, _, _, _, _, b, _⟩ => sqL ((hP.but b).l)) ?_ ?_
  · rintro i x σ' H3 hx ⟨v4, v5, v6, v7, rfl, b3, s3, rs, hrs, hR⟩
    rw [List.getElem?_map] at hx
    obtain ⟨⟨a, n, d⟩, hq, rfl⟩ := Option.map_eq_some_iff.mp hx
    have hi3 : i < 3 := by have := (List.getElem?_eq_some_iff.mp hq).1; omega
    obtain ⟨h3, hn, hd, _, _⟩ := (hP.but b3).it _ (List.mem_of_getElem? hq)
    dsimp only at h3 hn hd
    obtain ⟨r, hle⟩ := least_ex n d hd.1
    obtain ⟨par, lev, B⟩ := Lay.built_ex n d r hn.1
    refine r_glst (sqL h3) rfl ?_
    walk_at "st"
    refine ⟨n, d, par, lev, r, rfl, hn, hd, hle, B, fun pd H4 hpd e4 h4 => ?_⟩
    walk_at "st"
    refine ⟨n, d, par, lev, r, rfl, fun c => absurd c (by omega), fun _ c => absurd c (by omega), fun _ _ c => absurd c (by omega), fun _ _ _ c => absurd c (by omega), fun _ _ _ _ => ⟨hle, B, fun q pa H5 hpa e5 h5 hq5 => ?_⟩⟩
    rw [Int.toNat_natCast] at h5
    walk_at "st"
    intro t H6 ht e6 h6
    walk_at "st"
    have e56 := e6
    refine ⟨.ref q, .ref t, toldD par n, rfl, told_dp (e6 _ _ hq5) (e6 _ _ h5), told_dp h6 (e6 _ _ (e5 _ _ h4)), told_small par n hn.2, fun H7 e7 => ?_⟩
    walk_at "st"
    refine r_atT (sqT (e7 _ _ (e6 _ _ hq5))) (atI_nat (j := 1) rfl) ?_
    walk_at "st"
    refine ⟨n, d, pa, par, lev, r, rfl, hn, hd, hle, B, sqL (e7 _ _ (e6 _ _ h5)), fun H8 e8 => ?_⟩
    have e38 := e4.trans (e5.trans (e6.trans (e7.trans e8)))
    have hR8 := hR.ext e38
    have e58 := e6.trans (e7.trans e8)
    walk_at "st"
    refine ⟨.inl ⟨rfl, _, sqL hR8.1⟩, ?_⟩
    walk_at "st"
    refine r_atT (sqT (e58 _ _ hq5)) (atI_nat (j := 1) rfl) ?_
    walk_at "st"
    refine r_app hR8.1 (by rw [List.length_map]; omega) (fun H9 h9 n9 => ?_)
    have npt : pa ≠ tl := fun e => by rw [e, e4 _ _ hR.1] at hpa; cases hpa
    have hbp : Hb pa = none := by
      cases e : Hb pa with
      | none => rfl
      | some o =>
        have c : pa ≠ p := fun z => by
          have s4 := s3.ext e4
          exact src_some s4 (z ▸ hpa)
        rw [e4 _ _ (b3 _ _ c e)] at hpa
        cases hpa
    refine ⟨_, _, _, _, rfl, (b3.ext e38).mut htl n9, (s3.ext e38).stay (.of n9) ntp.symm, rs ++ [pa], by rw [List.length_append, hrs]; rfl, by rw [h9, List.map_append]; rfl, fun z hz => ?_⟩
    rcases List.mem_append.mp hz with hz | hz
    · obtain ⟨g1, g2, xs, g3, g4⟩ := hR8.2 z hz
      exact ⟨g1, g2, xs, (n9 z g2).trans g3, g4⟩
    · rw [List.mem_singleton.mp hz]
      refine ⟨hbp, npt, _, (n9 pa npt).trans (e58 _ _ h5), ?_⟩
      unfold parL
      rw [List.length_map, List.length_map, List.length_range]
      omega
  rintro σ' H3 ⟨v4, v5, v6, v7, rfl, b3, s3, rs, hrs, hR3⟩
  -- the rows are changed
  walk_at "st"
  refine r_li (sqL hR3.1) ?_
  refine forW_list (fun i σ' H' => ∃ v8, σ' = [some (.ref a0), some (.ref p), some (.ref L), some (.ref tl), v4, v5, v6, v7, v8, none] ∧ But p Hb H' ∧ Src H' p ∧ Rows Hb tl rs (500 + i) H')
    ⟨none, rfl, b3, s3, hR3⟩ (fun i σ' H' hi ⟨_, _, _, _, h⟩ => sqL h.1) ?_ ?_
  · rintro i x σ' H4 hx ⟨v8, rfl, b4, s4, hR4⟩
    rw [List.getElem?_map] at hx
    obtain ⟨q, hq, rfl⟩ := Option.map_eq_some_iff.mp hx
    have hi3 : i < rs.length := (List.getElem?_eq_some_iff.mp hq).1
    rw [hrs, List.length_map] at hi3
    have hqm := List.mem_of_getElem? hq
    obtain ⟨g1, g2, xs, g3, g4⟩ := hR4.2 q hqm
    have nqp : q ≠ p := fun e => spn (e ▸ g1)
    walk_at "st"
    refine ⟨.inl ⟨rfl, _, sqL g3⟩, ?_⟩
    walk_at "st"
    refine r_app g3 (by omega) (fun H5 h5 n5 => ?_)
    have s5 : Src H5 p := s4.stay (.of n5) nqp.symm
    walk_at "st"
    refine ⟨p, 9, rfl, s5, by decide, by decide, fun r6 H6 r60 r61 s6 n6 => ?_⟩
    walk_at "st"
    have h6 := stay n6 nqp h5
    refine r_setL (j := 0) h6 rfl (by rw [List.length_append]; show 0 < xs.length + 1; omega) (fun H7 h7 n7 => ?_)
    refine ⟨_, rfl, ((b4.mut g1 n5).trans (.of n6)).mut g1 n7, s6.stay (.of n7) nqp.symm, (n7 tl (fun e => g2 e.symm)).trans ((n6 tl ntp).trans ((n5 tl (fun e => g2 e.symm)).trans hR4.1)), fun z hz => ?_⟩
    obtain ⟨f1, f2, ys, f3, f4⟩ := hR4.2 z hz
    have nzp : z ≠ p := fun e => spn (e ▸ f1)
    by_cases c : z = q
    · subst c
      refine ⟨f1, f2, _, h7, ?_⟩
      rw [List.length_set, List.length_append]
      show xs.length + 1 ≤ _
      omega
    · exact ⟨f1, f2, ys, (n7 z c).trans ((n6 z nzp).trans ((n5 z c).trans f3)), by omega⟩
  rintro σ' H4 ⟨v8, rfl, b4, s4, _⟩
  -- the first again
  walk_at "st"
  have hP4 := hP.but b4
  refine r_slL (sqL hP4.l) (fun q2 H5 hq2 e5 h5 => ?_)
  rw [show (2 : Int) = ((2 : Nat) : Int) from rfl, cut_to] at h5
  walk_at "st"
  refine r_li (sqL h5) ?_
  refine forW_list (fun i σ' H' => ∃ v4 v5, σ' = [some (.ref a0), some (.ref p), some (.ref L), some (.ref tl), v4, v5, v6, v7, v8, none] ∧ Ext H5 H') ⟨_, _, rfl, .rfl⟩ (fun i σ' H' hi ⟨_, _, _, e⟩ => sqL (e _ _ h5)) ?_ ?_
  · rintro i x σ' H6 hx ⟨v4, v5, rfl, e6⟩
    have hx' := List.mem_of_mem_take (List.mem_of_getElem? hx)
    obtain ⟨⟨a, n, d⟩, hq, rfl⟩ := List.mem_map.mp hx'
    obtain ⟨h3, hn, hd, _, _⟩ := hP4.it _ hq
    dsimp only at h3 hn hd
    obtain ⟨r, hle⟩ := least_ex n d hd.1
    obtain ⟨par, lev, B⟩ := Lay.built_ex n d r hn.1
    refine r_glst (sqL (e6 _ _ (e5 _ _ h3))) rfl ?_
    walk_at "st"
    refine ⟨n, d, par, lev, r, rfl, fun c => absurd c (by omega), fun _ c => absurd c (by omega), fun _ _ c => absurd c (by omega), fun _ _ _ c => absurd c (by omega), fun _ _ _ _ => ⟨hle, B, fun q pa H7 hpa e7 h7 hq7 => ?_⟩⟩
    rw [Int.toNat_natCast] at h7
    walk_at "st"
    refine ⟨n, d, par, lev, r, rfl, hn, hd, hle, B, fun pd H8 hpd e8 h8 => ?_⟩
    walk_at "st"
    intro t H9 ht e9 h9
    walk_at "st"
    have e79 := e8.trans e9
    refine ⟨.ref q, .ref t, toldD par n, rfl, told_dp (e79 _ _ hq7) (e79 _ _ h7), told_dp h9 (e9 _ _ h8), told_small par n hn.2, fun H10 e10 => ?_⟩
    walk_at "st"
    exact ⟨_, _, rfl, e6.trans (e7.trans (e79.trans e10))⟩
  rintro σ' H6 ⟨v4, v5, rfl, e6⟩
  have s6 := (s4.ext e5).ext e6
  -- the bounds
  walk_at "st"
  refine ⟨p, 9, rfl, s6, by decide, by decide, fun r7 H7 r70 r71 s7 n7 => ?_⟩
  walk_at "st"
  refine ⟨p, _, rfl, s7, by decide, by decide, fun r8 H8 r80 r81 s8 n8 => ?_⟩
  walk_at "st"
  intro qn H9 hqn e9 h9
  walk_at "st"
  have nqn : qn ≠ p := (src_ne s8 hqn).symm
  refine r_li (sqL h9) ?_
  refine forW_list (fun i σ' H' => ∃ v4 v5 v6 v7, σ' = [some (.ref a0), some (.ref p), some (.ref L), some (.ref tl), v4, v5, v6, v7, v8, none] ∧ Src H' p ∧ H' qn = some (.lst [.int (0 - r7), .int 1, .int 400, .int 401, .int (401 + r8)])) ⟨_, _, _, _, rfl, s8.ext e9, h9⟩ (fun i σ' H' hi ⟨_, _, _, _, _, _, h⟩ => sqL h) ?_ ?_
  · rintro i x σ' H10 hx ⟨v4, v5, v6, v7, rfl, s10, h10⟩
    obtain ⟨n, rfl⟩ : ∃ n : Int, x = .int n := by
      have := List.mem_of_getElem? hx
      simp at this
      rcases this with h | h | h | h | h <;> exact ⟨_, h⟩
    walk_at "st"
    refine ⟨p, 9, rfl, s10, by decide, by decide, fun r11 H11 r110 r111 s11 n11 => ?_⟩
    walk_at "st"
    refine ⟨p, 2, rfl, s11, by decide, by decide, fun r12 H12 r120 r121 s12 n12 => ?_⟩
    walk_at "st"
    refine r_timesB (cmR (by decide) (by decide)) ?_
    walk_at "st"
    intro qd H13 hqd e13 h13
    walk_at "st"
    have nqd : qd ≠ p := (src_ne s12 hqd).symm
    have h10' := e13 _ _ ((n12 _ nqn).trans ((n11 _ nqn).trans h10))
    refine r_li (sqL h13) ?_
    refine forW_list (fun i σ' H' => ∃ v5 v6 v7, σ' = [some (.ref a0), some (.ref p), some (.ref L), some (.ref tl), some (.int n), v5, v6, v7, v8, none] ∧ Ext H13 H') ⟨_, _, _, rfl, .rfl⟩ (fun i σ' H' hi ⟨_, _, _, _, e⟩ => sqL (e _ _ h13)) ?_ ?_
    · rintro i y σ' H14 hy ⟨v5, v6, v7, rfl, e14⟩
      obtain ⟨d, rfl⟩ : ∃ n : Int, y = .int n := by
        have := List.mem_of_getElem? hy
        simp at this
        rcases this with h | h | h <;> exact ⟨_, h⟩
      walk_at "st"
      intro t1 H15 ht1 e15 h15
      walk_at "st"
      refine r_cut (fun σ' H' => ∃ (t : Addr) (y1 : Str) (y2 : V), σ' = [some (.ref a0), some (.ref p), some (.ref L), some (.ref tl), some (.int n), some (.int d), some (.ref t), v7, v8, none] ∧ Ext H13 H' ∧ H' t = some (.tup [.str y1, y2]) ∧
        ((6 < d ∧ y1 = "TooMany" ∧ y2 = .str "depth") ∨ (d ≤ 6 ∧ 400 < n ∧ y1 = "TooMany" ∧ y2 = .str "layout") ∨ (d ≤ 6 ∧ n ≤ 400 ∧ n < 1 ∧ y1 = "BadLayout" ∧ y2 = .str "parts") ∨ (d ≤ 6 ∧ n ≤ 400 ∧ 1 ≤ n ∧ d < 1 ∧ y1 = "BadLayout" ∧ y2 = .str "depth") ∨
          (d ≤ 6 ∧ n ≤ 400 ∧ 1 ≤ n ∧ 1 ≤ d ∧ y1 = "told" ∧ y2 = .non))) ?_ ?_
      · walk_at "st"
        refine ite_d (fun c1 => ?_) (fun c1 => ?_)
        · walk_at "st"
          intro t2 H16 ht2 e16 h16
          exact ⟨t2, _, _, rfl, e14.trans (e15.trans e16), h16, .inl ⟨c1, rfl, rfl⟩⟩
        walk_at "st"
        refine ite_d (fun c2 => ?_) (fun c2 => ?_)
        · walk_at "st"
          intro t2 H16 ht2 e16 h16
          exact ⟨t2, _, _, rfl, e14.trans (e15.trans e16), h16, .inr (.inl ⟨by omega, c2, rfl, rfl⟩)⟩
        walk_at "st"
        refine ite_d (fun c3 => ?_) (fun c3 => ?_)
        · walk_at "st"
          intro t2 H16 ht2 e16 h16
          exact ⟨t2, _, _, rfl, e14.trans (e15.trans e16), h16, .inr (.inr (.inl ⟨by omega, by omega, c3, rfl, rfl⟩))⟩
        walk_at "st"
        refine ite_d (fun c4 => ?_) (fun c4 => ?_)
        · walk_at "st"
          intro t2 H16 ht2 e16 h16
          exact ⟨t2, _, _, rfl, e14.trans (e15.trans e16), h16, .inr (.inr (.inr (.inl ⟨by omega, by omega, by omega, c4, rfl, rfl⟩)))⟩
        walk_at "st"
        exact ⟨t1, _, _, rfl, e14.trans e15, h15, .inr (.inr (.inr (.inr ⟨by omega, by omega, by omega, by omega, rfl, rfl⟩)))⟩
      rintro σ' H17 ⟨t, y1, y2, rfl, e17, h17, hM⟩
      walk_at "st"
      obtain ⟨par, lev, r, hg⟩ : ∃ par lev r, 1 ≤ n → 1 ≤ d → Del.Least n.toNat d.toNat r ∧ Lay.Built par lev n.toNat d.toNat r := by
        by_cases c : 1 ≤ n ∧ 1 ≤ d
        · obtain ⟨r, hle⟩ := least_ex n.toNat d.toNat (by omega)
          obtain ⟨par, lev, B⟩ := Lay.built_ex n.toNat d.toNat r (by omega)
          exact ⟨par, lev, r, fun _ _ => ⟨hle, B⟩⟩
        · exact ⟨fun _ => 0, fun _ => 0, 0, fun c1 c2 => absurd ⟨c1, c2⟩ c⟩
      refine ⟨n, d, par, lev, r, rfl, fun c1 q H18 e18 h18 => ?_, fun c1 c2 q H18 e18 h18 => ?_, fun c1 c2 c3 q H18 e18 h18 => ?_, fun c1 c2 c3 c4 q H18 e18 h18 => ?_, fun c1 c2 c3 c4 => ⟨(hg c3 c4).1, (hg c3 c4).2, fun q pa H18 hpa e18 hpa18 h18 => ?_⟩⟩
      rotate_left 4
      · rcases hM with ⟨z, _⟩ | ⟨_, z, _⟩ | ⟨_, _, z, _⟩ | ⟨_, _, _, z, _⟩ | ⟨_, _, _, _, rfl, rfl⟩
        · omega
        · omega
        · omega
        · omega
        walk_at "st"
        refine r_atT (sqT (e18 _ _ h17)) (atI_nat (j := 0) rfl) ?_
        walk_at "st"
        refine ite_d (fun _ => ?_) (fun z => absurd rfl z)
        walk_at "st"
        refine r_atT (sqT h18) (atI_nat (j := 0) rfl) ?_
        walk_at "st"
        refine ite_n (fun z => absurd rfl z) (fun _ => ?_)
        walk_at "st"
        refine r_atT (sqT h18) (atI_nat (j := 1) rfl) ?_
        walk_at "st"
        refine r_isi (b := "list") (d := .list ((parL par n.toNat).map PyData.int)) (.lst (sqL hpa18) (dps_ints _)) (by simp) ?_
        rw [show isB (tyD (.list ((parL par n.toNat).map PyData.int))) "list" = true by simp [isB, tyD]]
        walk_at "st"
        refine r_atT (sqT h18) (atI_nat (j := 1) rfl) ?_
        walk_at "st"
        refine r_lenL (sqL hpa18) (n := n - 1) (by unfold parL; rw [List.length_map, List.length_map, List.length_range]; omega) ?_
        walk_at "st"
        refine ite_n (fun z => absurd rfl z) (fun _ => ?_)
        walk_at "st"
        exact ⟨_, _, _, rfl, e17.trans e18⟩
      all_goals
        rcases hM with ⟨z1, rfl, rfl⟩ | ⟨z1, z2, rfl, rfl⟩ | ⟨z1, z2, z3, rfl, rfl⟩ | ⟨z1, z2, z3, z4, rfl, rfl⟩ | ⟨z1, z2, z3, z4, rfl, rfl⟩
        all_goals first
          | (exfalso; omega)
          | (walk_at "st"
             refine r_atT (sqT (e18 _ _ h17)) (atI_nat (j := 0) rfl) ?_
             walk_at "st"
             refine ite_d (fun z => absurd (V.str.inj z) (by decide)) (fun _ => ?_)
             walk_at "st"
             refine ⟨_, _, _, rfl, err_dp h18, err_dp (e18 _ _ h17), err_small _ _, fun H19 e19 => ?_⟩
             walk_at "st"
             exact ⟨_, _, _, rfl, e17.trans (e18.trans e19)⟩)
    · rintro σ' H14 ⟨v5, v6, v7, rfl, e14⟩
      walk_at "st"
      exact ⟨_, _, _, _, rfl, ((s12.ext e13)).ext e14, e14 _ _ h10'⟩
  · rintro σ' H10 ⟨v4, v5, v6, v7, rfl, _⟩
    walk_at "st"
    exact k H10

end
end K26

theorem PySem.Challenge.cw_toldoutside_k26_built_layouts_holds : PySem.Challenge.rw_toldoutside_k26_built_layouts.Holds :=
  K26.law_of 12 ⟨rfl, by decide, by decide⟩ fun w K mg base _ _ T fd D => K26.ok_law T D
