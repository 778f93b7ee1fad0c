import PyProof.Rows.All
import Wide.All
import OpenK.AllK
import Wide.FinOn
import HandS.ForMost
import HandS.ForExc
import HandS.Flow
import HandS.Wide
import HandS.IsInst
import HandS.ExcCtx
import HandS.HotCalls
import HandS.ExcInit
import HandS.ExcField
import HandS.ExcIs
import HandS.WrittenGet
import HandS.HeadHook4
import HandS.HeadEnd
import HandS.HeadWalk
import HandS.Head2
import HandS.Codes
import HandS.Steps
import HandS.SortInts
import HandS.ExcInitHot
import HandS.Conv
import HandS.Iter
import HandS.Style
import HandS.Zip
import HandS.More
import PySem.Challenge.RW_toldoutside_k29_sums_and_rows_that_part
set_option Elab.async false
set_option linter.all false
set_option maxRecDepth 100000
set_option maxHeartbeats 4000000
/-! CmA: operators that take any kind of value, own errors with an __init__, what a suite's callee sees of the error. -/
namespace L3
open PySem PySem.Spec PyProof.Rows L2

/-! ### operators by any values: one rule a sign, the value tells which way -/
section
variable {X : Cx}
/-- a + b: ints, new lists, texts, tuples -/
def rPlus (K : PySem.W.Frag) : R2 := fun x y H Q => rI0 (fun i j => .int (i + j)) x y H Q ∨ rCat x y H Q ∨ (∃ i j, x = .str i ∧ y = .str j ∧ i.length + j.length ≤ sizeLine ∧ Q (.str (i ++ j)) H)
theorem op_plus : OpR X (binaryOp .Add) (rPlus X.K) := OpR.or op_add (OpR.or op_cat op_add_str)
/-- a * b: wide ints, a list so many times -/
def rTimes : R2 := fun x y H Q => rI CMulW (fun i j => .int (i * j)) x y H Q ∨ rRep x y H Q
theorem op_times : OpR X (binaryOp .Mult) rTimes := OpR.or op_mulW op_rep
/-- a == b, a != b: scalars, data of any depth -/
def rSame (K : PySem.W.Frag) : R2 := fun x y H Q => rEq x y H Q ∨ rEqD K x y H Q
theorem op_same (hu : X.A.units + 64 < cLine) : OpR X (compareOp .Eq) (rSame X.K) := OpR.or op_eq (op_eqD hu)
def rOther (K : PySem.W.Frag) : R2 := fun x y H Q => rNe x y H Q ∨ rNeD K x y H Q
theorem op_other (hu : X.A.units + 64 < cLine) : OpR X (compareOp .NotEq) (rOther X.K) := OpR.or op_ne (op_neD hu)
/-- x[i] of a list, a tuple -/
def rAt (K : PySem.W.Frag) : R2 := fun x y H Q => rIxL K x y H Q ∨ rIxT K x y H Q
theorem ix_at : IxR X (rAt X.K) := IxR.or ix_list ix_tup
end
theorem hu64 {A : Around} {k : Nat} (hr : Room k A) : A.units + 64 < cLine := by have := hr.un; omega
theorem hu1 {A : Around} {k : Nat} (hr : Room k A) : A.units + 1 < cLine := by have := hr.un; omega
end L3
set_option maxRecDepth 100000
set_option maxHeartbeats 4000000
namespace L3
open PySem PySem.Spec PyProof.Rows L2

/-! ### C(e, ..) for an own error class with its own __init__, where the maker's context is None (nothing is handled) -/
theorem pmk_err {X : Cx} {CX : CXT} {x : Str} {e : Expr} {es : List Expr} {ta : TA} {p pos : Pos} {C fI : Addr} {k : Nat} {fd : FuncData} {ps : List Str} {sp : Sp} (T : OexC X.K C)
    (iC : PySem.W.findIn X.K (.ref C) "__init__" = some (some (.ref fI))) (tI : PySem.W.typeIn X.K (.ref fI) = some (.type "function"))
    (F1 : FnOk X.prog X.w X.K X.mg X.base CX k fI fd ps sp) (hr : Room (k + 1) X.A) (hb : Binds X.K fd ps []) (hx : Passes CX X (fun _ _ _ => False)) (hg : Gl X x) (hm : X.mg x = some (.ref C)) (ha : PA X (e :: es) ta)
    (hdb : (x == ("__debug__" : Str)) = false := by decide) (he : starEach (e :: es) X.env = (false, eval e X.env) :: starEach es X.env := by rfl) (hpl : (backTo pos (starEach es X.env)).any (·.1) = false := by rfl) :
    L2N.PMk X (.Call (.Name x p) (e :: es) [] pos) (tMkO C sp [] ta) := by
  intro pins s σ H Q I h
  have TC := T.cls
  obtain ⟨nm, q, N, bs, bm, sn, sub, ab, col, dd, k0, k1, k2, k3, k5, hC, hbm⟩ := TC
  refine wpAny_Call_Name_kw (ld_glob I hg hm ?_ hdb)
  have arg := ha.run pos pins s σ H _ I h
  refine PySem.W.callWith_K (h₀ := X.base) I.ok.mod.kin T.kC (thn arg fun us s1 hh => ?_) he hpl
  obtain ⟨vs, H1, I1, r1, hz, q1⟩ := hh
  refine ⟨I1.kIn, ?_⟩
  show wpAny _ _ (call (.ref C) us) _ _ _
  obtain ⟨hp, g, dr, tk, os⟩ := s1
  have below : hp.objs.size ≤ hp.objs.size + 1 := Nat.le_succ _
  have fresh : H1 (hp.objs.size + 1) = none := I1.hok.fresh below
  have wish := q1 (hp.objs.size + 1) fresh
  have old : ∀ b o, hp.get? b = some o → ((hp.push (PySem.W.kdv_tup us)).push (PySem.HandSPX.excO C hp.objs.size)).get? b = some o := fun b o e => Heap.get?_push_of_some _ (Heap.get?_push_of_some _ e)
  have there : ((hp.push (PySem.W.kdv_tup us)).push (PySem.HandSPX.excO C hp.objs.size)).get? (hp.objs.size + 1) = some (PySem.HandSPX.excO C hp.objs.size) := by heap_get
  have I2 : Inv X pins σ (upd H1 (hp.objs.size + 1) (exo (hp.objs.size + 1) C none)) ⟨(hp.push (PySem.W.kdv_tup us)).push (PySem.HandSPX.excO C hp.objs.size), g, dr, tk, os⟩ :=
    I1.laid (t' := tk) (a := hp.objs.size + 1) (o := exo (hp.objs.size + 1) C none) old below (exo_ok there)
  have r2 : Vals (V.ref (hp.objs.size + 1) :: (vs ++ [])) (Value.ref (hp.objs.size + 1) :: (us ++ [])) := .cons rfl (r1.append .nil)
  have len : (Value.ref (hp.objs.size + 1) :: us ++ []).length = ps.length := ((F1.len _ _ _ _ wish).symm.trans r2.length).symm
  have few : us.length ≤ sizeLine := by
    rw [← Paired.length r1, sizeLine_eq]
    omega
  have init := F1.run _ X.stack _ _ ⟨Value.ref (hp.objs.size + 1) :: us, []⟩ (Value.ref (hp.objs.size + 1) :: (us ++ [])) _ _ (fun _ _ _ => False) (hr.make C us []) (I2.env0.make C us [])
    (by have z := hb _ (Value.ref (hp.objs.size + 1) :: us) I2.kIn len; rw [List.cons_append] at z; exact z) r2 wish
  refine wpAny_call (PySem.HandSPX.call_own F.excBase_ValueError (fun Y => PySem.HandSPX.refsVE_contains Y bm hbm) (I1.kIn _ _ hC) (PySem.W.looks_findIn I1.kIn iC) (fun self => PySem.W.bind_fn I1.kIn self tI) few
    (codeAny_mono init fun r s' z => ?_))
  cases r with
  | error er => exact hx pins σ _ _ er s' I2 z
  | ok fl =>
    cases fl with
    | ret u =>
      obtain ⟨v, H2, os2, bare2, un2, hok2, rv, ev, d, fs, ea, ed, hd1, q2⟩ := z
      subst ev
      obtain ⟨h2, g2, d2, t2, os'⟩ := s'
      obtain ⟨t0, G, J, kG, ge, hoe, na⟩ := mk_end0 (d2 := d2) (t2 := t2) I1 below old un2 hok2 os2 bare2 ea ed hd1
      refine ⟨rv, ⟨hp.objs.size + 1, _, _, ⟨G, g2, d2, t2, os'⟩, _, .ref C, some d, rfl, J, kG, ge, hoe, ⟨rfl, rfl, fun vs hv => ?_⟩, rfl, rfl, na, rfl, bare2, raises_own T.exC T.tyC, q2⟩⟩
      cases hv
      rfl
    | next => exact z.elim
    | brk => exact z.elim
    | cont => exact z.elim

/-! ### a def called in a suite, the handled error p among its arguments: the promise may speak of p -/
abbrev SpP := Addr × Obj → Sp
structure FnP (P : Program) (w : World) (K : PySem.W.Frag) (mg : Str → Option Value) (base : Heap) (CX : CXT) (k : Nat) (f : Addr) (fd : FuncData) (ps : List Str) (sp : SpP) : Prop where
  len : ∀ p vs H Q E, sp p vs H Q E → vs.length = ps.length
  run : ∀ (p : Addr × Obj) (A : Around) (outer : List Env) (s : Shared) (H : Hp) (args : Args) (us : List Value) (vs : List V) (Q : VK) (E : XK), L2H.RoomH k A → L2H.Hot1 A p → L2H.PinOk outer H s p → Env0 P w K mg base A outer s H →
    BindsTo s fd args (ps.zip us) → Vals vs us → sp p vs H Q E → codeAny (model P w) A (.call (.ref f) args) (CR CX outer P w H s Q E) s
/-- a body by its reading, p at hand -/
theorem fnP_of {CX : CXT} {P : Program} {w : World} {K : PySem.W.Frag} {mg : Str → Option Value} {base : Heap} {k : Nat} {f : Addr} {name qual : Str} {params : Arguments} {body : List Stmt} {scope : Scope} {fd : FuncData} {N ps : List Str} {sp : SpP}
    (FD : FunD K name qual params body scope [] [] f fd) (S : FnScope N ps scope) (len : ∀ p vs H Q E, sp p vs H Q E → vs.length = ps.length)
    (hbody : ∀ (p : Addr × Obj) (cdv : Value) (A : Around) (outer : List Env) (s : Shared) (H : Hp) (vs : List V) (Q : VK) (E : XK), L2H.Hot1 A p → L2H.RoomH k (A.deeper (envOfC qual scope s.heap.objs.size f cdv)) → sp p vs H Q E →
      ∃ t, PSs (L2H.cxH CX P w K mg base N qual scope f cdv A outer s H E p) body t ∧ t { nx := fun _ H' => Q .non H', rt := Q } (L2.start N vs) H) :
    FnP P w K mg base CX (k + 1) f fd ps sp := by
  obtain ⟨oc, od, dV, kV, doc, pm, an, cdv, ct, osl, rfl, lk, hcd, _, _⟩ := FD.ex
  refine ⟨len, fun p A outer s H args us vs Q E hr hot hpin e0 hb r hsp => ?_⟩
  -- for this p alone the library's hot promise
  let sq : Sp := fun vs' H' Q' E' => vs' = vs ∧ H' = H ∧ Q' = Q ∧ E' = E
  have hl := len _ _ _ _ _ hsp
  have KX : K.In s.heap := e0.mod.kin.keeps fun b o e => (e0.bs b o e).1
  have lim : s.heap.NoLimit := e0.mod.nolimit.keeps fun b o e => (e0.bs b o e).1
  have kinds : ∀ y ∈ ps.zip us, scope.names.lookup y.1 = some .local ∨ (scope.names.lookup y.1 = some .cell ∧ ((cellsFrom (s.heap.objs.size + 1) scope.names []).lookup y.1).isSome = true) := fun ⟨n, v⟩ hy =>
    (S.par n (List.of_mem_zip hy).1).elim Or.inl fun q => Or.inr ⟨q, PySem.W.cellsFrom_some _ _ _ (Or.inl q)⟩
  refine codeAny_call_function hr.depth (KX _ _ lk) rfl S.co S.gen rfl (PySem.W.codeRec_of KX hcd) (hb _ _ _ _ ?_)
  refine wpAny_newFunctionEnv_cells S.kind kinds fun env he s1 x => ?_
  subst he
  refine ⟨lim.keeps x.toInCall.keep, codeAny_func ?_⟩
  obtain ⟨t, ht, hq⟩ := hbody p cdv A outer s H vs Q E hot (hr.deeper _) hsp
  have I := L2H.inv_startH (CX := CX) (E := E) S hpin e0 hl r x
  refine wpAny_mono (ht.run [] s1 (L2.start N vs) H _ I hq) (fun fl s' hs => ?_) fun e s' hs => hs
  cases fl with
  | ret u =>
    obtain ⟨v, σ', H', J, rv, q⟩ := hs
    exact ⟨v, H', J.os, J.bare, J.base, J.hok, rv, q⟩
  | next =>
    obtain ⟨σ', H', J, q⟩ := hs
    exact ⟨V.non, H', J.os, J.bare, J.base, J.hok, rfl, q⟩
  | brk =>
    obtain ⟨_, _, _, q⟩ := hs
    exact q.elim
  | cont =>
    obtain ⟨_, _, _, q⟩ := hs
    exact q.elim
/-- the call in the suite: f(e, ..), the error's object known -/
theorem pe_callP {X : Cx} {CX : CXT} {k : Nat} {f : Addr} {fd : FuncData} {ps : List Str} {sp : SpP} {E : L2.St → XK} {x : Str} {q pos : Pos} {e : Expr} {es : List Expr} {t : TA} {p : Addr × Obj}
    (FP : FnP X.prog X.w X.K X.mg X.base CX k f fd ps sp) (hr : L2H.RoomH k X.A) (hot : L2H.Hot1 X.A p) (hp : p ∈ X.pn) (hg : Gl X x) (hm : X.mg x = some (.ref f)) (hk : PySem.W.keepIn X.K (.ref f) = true) (hb : Binds X.K fd ps [])
    (hx : ∀ σ, PassesAt CX X σ (E σ)) (ha : PA X (e :: es) t) (hdb : (x == ("__debug__" : Str)) = false := by decide) (he : starEach (e :: es) X.env = (false, eval e X.env) :: starEach es X.env := by rfl)
    (hpl : (backTo pos (starEach es X.env)).any (·.1) = false := by rfl) : PE X (.Call (.Name x q) (e :: es) [] pos) (tCallS (sp p) E t) := by
  refine ⟨fun pins s σ H Q I h => ?_⟩
  refine wpAny_Call_Name_kw (ld_glob I hg hm ?_ hdb)
  refine PySem.W.callWith_K (h₀ := X.base) I.ok.mod.kin hk (thn (ha.run pos pins s σ H _ I h) fun us s1 hh => ?_) he hpl
  obtain ⟨vs, H1, I1, r, w⟩ := hh
  refine ⟨I1.kIn, ?_⟩
  have hl : us.length = ps.length := r.length.symm.trans (FP.len _ _ _ _ _ w)
  have b := hb s1 us I1.kIn (by rw [List.append_nil]; exact hl)
  rw [List.append_nil] at b
  have P1 := I1.pin p (List.mem_append_left _ hp)
  have hpin : L2H.PinOk X.stack H1 s1 p := ⟨P1.1, P1.2.1, fun hm => (List.mem_cons.mp (I1.stkSub p.1 hm)).elim P1.2.2.1 P1.2.2.2.1, P1.2.2.2.2⟩
  refine wpAny_call (codeAny_mono (FP.run p X.A X.stack s1 H1 ⟨us, []⟩ us vs Q (E σ) hr hot hpin I1.env0 b r w) fun r s' hq => ?_)
  cases r with
  | error e => exact hx σ pins H1 s1 e s' I1 hq
  | ok fl =>
    cases fl with
    | ret u => exact I1.after hq
    | next => exact hq.elim
    | brk => exact hq.elim
    | cont => exact hq.elim
end L3
namespace PySem.W
open PySem PySem.Spec PySem.Calls PyProof.Rows
section
variable {prog : Program} {w : World} {A : Around} {E : Value → Shared → Prop} {s : Shared} {K : Frag} {x D : Addr} {ox od : Obj}
/-- e.__class__ of an error of an own class that has a dict -/
theorem errClass {Q : Option Value → Shared → Prop} (C : L2.ExcC K D) (X : K.In s.heap) (I : InstAt s.heap x ox D (some od)) (h : Q (some (.ref D)) { s with toks := s.toks + 1 }) :
    wpAny (model prog w) A (getAttr? (.ref x) "__class__") Q E s := by
  have some_cls : (clsIn K D).isSome = true := by
    obtain ⟨cd, hc, _⟩ := any_some C.hd
    rw [hc]
    rfl
  have fnd : findObj K D (some od) "__class__" = some (.bind (.builtin "getset_descriptor.__get__") (.builtin "object.__class__")) := findObj_data some_cls C.ha C.hn C.ht
  obtain ⟨hp, g, d, t, os⟩ := s
  have T0 := I.type (M := model prog w)
  have T1 := looks_findIn (M := model prog w) X C.hg
  have T2 := looks_findIn (M := model prog w) X C.hk
  have T3 := looks_find (M := model prog w) X I fnd
  have isB : Looks (model prog w) hp (isInstance (.ref x) (.type "BaseException")) true := T0.andThen (looks_subIn X C.hs)
  have n0 : (false && onTheHeap (Value.builtin "BaseException.__getattribute__")) = false := rfl
  have n2 : (Value.builtin "BaseException.__getattribute__" == Value.builtin "object.__getattribute__") = false := by decide +kernel
  have n1 : (onTheHeap (Value.ref D) && Value.builtin "BaseException.__getattribute__" == Value.builtin "object.__getattribute__") = false := by rw [n2]; rfl
  unfold getAttr? getAttrBy? getAttrBy
  refine wpAny_bind (wpAny_mkText (wpAny_bind (wpAny_attempt (wpAny_holding (wpAny_bind (T0.at (wpAny_bind (T1.at ?_))))))))
  show wpAny _ _ (if (onTheHeap (Value.ref D) && Value.builtin "BaseException.__getattribute__" == Value.builtin "object.__getattribute__") = true then _ else _) _ _ _
  rw [n1, if_neg Bool.false_ne_true]
  unfold getAttrByItsOwn hookBefore
  refine wpAny_bind ?_
  rw [if_pos (show onTheHeap (Value.ref D) = true from rfl)]
  refine T2.at (wpAny_bind (wpAny_attempt (wpAny_holding ?_)))
  unfold callGetattribute
  rw [n0, if_neg Bool.false_ne_true]
  unfold boundAndCalled
  rw [PySem.F.excAttr_ValueError.ga.bind (.ref x)]
  refine wpAny_bind (wpAny_pure ?_)
  show wpAny _ _ (call (.builtin "BaseException.__getattribute__") [.ref x, .str "__class__" t]) _ _ _
  refine wpAny_call (codeAny_call_builtin PySem.F.excAttr_ValueError.ga.plain PySem.F.entry_bexc_ga (@check_slot (model prog w) _ _ ⟨hp, g, d, t + 1, os⟩ "BaseException.__getattribute__" "BaseException" "__getattribute__" (.ref x) [.str "__class__" t] [] _
    (by decide +kernel) (by decide +kernel) isB (PySem.F.args_bexc_ga (.ref x) (.str "__class__" t)) ?_))
  unfold Builtin.«object.__getattribute__»
  refine wpAny_bind (wpAny_of_eq (a := ((Value.ref x : Value), [Value.str "__class__" t])) (by first | rfl | (simp only [slotArgs]; rfl)) (wpAny_bind (wpAny_pure (wpAny_bind (T0.at (wpAny_bind (T3.at ?_)))))))
  show wpAny _ _ (holding [Value.builtin "object.__class__"] (call (.builtin "getset_descriptor.__get__") [.builtin "object.__class__", .ref x, .ref D]) >>= ret) _ _ _
  refine wpAny_bind (wpAny_holding (wpAny_call (class_get (s := ⟨hp, g, d, t + 1, os⟩) (ox := ox) (od := some od) X I C.hm (wpAny_pure ?_))))
  show wpAny _ _ (handedOut (.ref D)) _ _ _
  rw [handedOut_of (v := .ref D) rfl]
  first
    | exact wpAny_pure (wpAny_pure h)
    | exact wpAny_pure h
    | exact wpAny_pure (wpAny_bind (wpAny_pure (wpAny_pure h)))
theorem errKit (C : L2.ExcC K D) : KitX K (.ref x) (.ref D) (fun h => ∃ ox od, InstAt h x ox D (some od)) where
  ty := fun _ _ _ ⟨_, _, I⟩ => I.type
  it := fun _ _ X _ => by
    obtain ⟨cd, hc, _⟩ := any_some C.hd
    unfold clsIn at hc
    split at hc
    · rename_i c' d' cd' sl' ho
      intro A' Q' E' s' k q
      unfold isType loadHead
      exact wpAny_bind (wpAny_loadPart (k _ _ (X _ _ ho)) (wpAny_pure q))
    · cases hc
  ne := fun h tp dd its n sl X htp => by
    obtain ⟨cd, hc, _⟩ := any_some C.hd
    refine Bool.eq_false_iff.mpr fun q => ?_
    have e : D = tp := Value.ref.inj (beq_iff_eq.mp q)
    subst e
    unfold clsIn at hc
    split at hc
    · rename_i c' d' cd' sl' ho
      cases (X _ _ ho).symm.trans htp
    · cases hc
  ca := fun X ⟨_, _, I⟩ k => errClass C X I k
end
end PySem.W
namespace L3
open PySem PySem.Spec PyProof.Rows L2
/-- isinstance(e, c), e the pinned error with its dict at dd -/
def rIsP (K : PySem.W.Frag) (D a dd : Addr) : List V → Hp → VK → Prop := fun xs H Q => ∃ (c : V) (cv : Value) (b : Bool) (fs : List (Str × V)), xs = [.ref a, c] ∧ H dd = some (.xd fs) ∧ (∀ u, RelV c u → u = cv) ∧ PySem.W.kitOne K (.ref D) cv = some b ∧ Q (.bl b) H
theorem call_isP {X : Cx} {a D dd : Addr} {oe : Obj} (C : ExcC X.K D) (hz : oe.cls = .ref D ∧ oe.dict = some dd) (hf : ∃ vs, oe.data = .fields vs) (hp : (a, oe) ∈ X.pn) : CallR X (.builtin "isinstance") (rIsP X.K D a dd) := by
  intro pins s σ H xs us Q I r h
  obtain ⟨c, cv, b, fs, rfl, ed, hcv, e, q⟩ := h
  cases r with
  | cons rx rr =>
    cases rr with
    | cons rt rr =>
      cases rr
      cases rx
      have ec := hcv _ rt
      subst ec
      obtain ⟨hget, _⟩ := I.pin (a, oe) (List.mem_append.mpr (.inl hp))
      have hx : ObjOk X.prog X.w H s.heap dd (.xd fs) := I.hok dd _ ed
      obtain ⟨mA, hns, hr⟩ := hx
      obtain ⟨od, ho, _⟩ := lookIn_ns hns
      obtain ⟨vs, hv⟩ := hf
      have J : PySem.W.InstAt s.heap a oe D (some od) := by
        obtain ⟨oc, odd, oda, osl⟩ := oe
        obtain ⟨h1, h2⟩ := hz
        dsimp only at h1 h2 hv
        subst h1 h2 hv
        exact ⟨hget, rfl, rfl, ho⟩
      refine PySem.W.kia_one (H := fun h => ∃ ox od, PySem.W.InstAt h a ox D (some od)) (PySem.W.errKit C) I.kIn ⟨_, _, J⟩ e (fun z => nomatch z) fun tk => ⟨.bl b, H, I.kept (t' := tk) fun _ _ z => z, rfl, q⟩
/-- e.f of the pinned error -/
def tXp (D a dd : Addr) (f : Str) (te : TE) : TE := fun σ H Q => te σ H fun x H1 => x = .ref a ∧ ∃ (fs : List (Str × V)) (v : V), H1 dd = some (.xd fs) ∧ fs.lookup f = some v ∧ Q v H1
theorem pe_xp {X : Cx} {a D dd : Addr} {oe : Obj} {e : Expr} {te : TE} {pos : Pos} {n : Str} (T : XfC X.K D) (hno : PySem.W.findIn X.K (.ref D) n = some none) (hz : oe.cls = .ref D ∧ oe.dict = some dd) (hf : ∃ vs, oe.data = .fields vs) (hp : (a, oe) ∈ X.pn)
    (he : PE X e te) (hb : attributeBase e n X.env (eval e X.env) = eval e X.env := by rfl) : PE X (.Attribute e n pos) (tXp D a dd n te) := by
  refine ⟨fun pins s σ H Q I h => attr_of hb (thn (he.run pins s σ H _ I h) fun u s1 hh => ?_)⟩
  obtain ⟨x, H1, I1, rx, ex, fs, v, ea, l, q⟩ := hh
  subst ex
  obtain rfl : u = Value.ref a := rx
  obtain ⟨ha, _⟩ := I1.pin (a, oe) (List.mem_append_left _ hp)
  obtain ⟨vs, hd⟩ := hf
  have hx : ObjOk X.prog X.w H1 s1.heap dd (.xd fs) := I1.hok dd _ ea
  obtain ⟨mA, hns, hr⟩ := hx
  obtain ⟨od, ho, hl⟩ := lookIn_ns hns
  obtain ⟨u, hu, ru⟩ := RelO.some_of (v := v) (o := mA n) (by rw [← l]; exact hr n)
  have J : PySem.W.InstAt s1.heap a oe D (some od) := ⟨ha, hz.1, by unfold PySem.W.notCls; rw [hd] <;> rfl, by rw [hz.2]; exact ho⟩
  exact HandSPX.exc_get I1.kIn J T.ga T.gg T.exC (PySem.W.findObj_own T.hdC hno rfl (by rw [hl, hu])) (handed_of ru) ⟨v, H1, I1.tok _, ru, q⟩
end L3
set_option maxRecDepth 100000
set_option maxHeartbeats 4000000
/-! CmC: what the head tells of the error classes and of the table of bounds. -/
namespace L3
open PySem PySem.Spec PyProof.Rows L2 He

def oexB (K : PySem.W.Frag) (C : Addr) : Bool := (match K.lookup C with
  | some ⟨.type t, _, .cls cd, sl⟩ => (match cd.mro, sl.toList with
    | .ref C' :: bm, [_, _, _, _, some (.builtin n), _] => decide (t = "type") && (decide (C' = C) && (decide (n = "ValueError.__new__") && (!cd.hasDel && (cd.hasDict && PySem.HandSPX.refsVE bm))))
    | _, _ => false)
  | _ => false) && (eqO (PySem.W.findIn K (.ref C) "__setattr__") (some (some (.builtin "object.__setattr__"))) && (decide (PySem.W.subIn K (.ref C) (.type "BaseException") = some true) &&
    (decide (PySem.W.typeIn K (.ref C) = some (.type "type")) && PySem.W.keepIn K (.ref C))))
theorem oexB_ok {K : PySem.W.Frag} {C : Addr} (h : oexB K C = true) : OexC K C := by
  obtain ⟨h0, h⟩ := ba h
  obtain ⟨h1, h⟩ := ba h
  obtain ⟨h2, h⟩ := ba h
  obtain ⟨h3, h4⟩ := ba h
  refine ⟨?_, eqO_ok h1, of_decide_eq_true h2, of_decide_eq_true h3, h4⟩
  split at h0
  · rename_i t dd cd sl ho
    split at h0
    · rename_i C' bm k0 k1 k2 k3 n k5 hm hs
      obtain ⟨e1, h0⟩ := ba h0
      obtain ⟨e2, h0⟩ := ba h0
      obtain ⟨e3, h0⟩ := ba h0
      obtain ⟨e4, h0⟩ := ba h0
      obtain ⟨e5, e6⟩ := ba h0
      have e1 := of_decide_eq_true e1
      have e2 := of_decide_eq_true e2
      have e3 := of_decide_eq_true e3
      subst e1 e2 e3
      obtain ⟨nm, bs, mro, ns, qn, hd, sn, sub, ab, col, del⟩ := cd
      dsimp only at hm e4 e5
      subst hm e5
      have hdel : del = false := by cases del <;> first | rfl | cases e4
      subst hdel
      have hsl : sl = #[k0, k1, k2, k3, some (.builtin "ValueError.__new__"), k5] := by
        have : sl.toList.toArray = [k0, k1, k2, k3, some (.builtin "ValueError.__new__"), k5].toArray := congrArg List.toArray hs
        simpa using this
      subst hsl
      exact ⟨nm, qn, ns, bs, bm, sn, sub, ab, col, dd, k0, k1, k2, k3, k5, ho, e6⟩
    · cases h0
  · cases h0
def excB (K : PySem.W.Frag) (D : Addr) : Bool := xfB K D && (eqO (PySem.W.findIn K (.ref D) "__class__") (some (some (.builtin "object.__class__"))) &&
  (eqO (PySem.W.specialIn K (.builtin "object.__class__") "__get__") (some (some (.builtin "getset_descriptor.__get__"))) && (decide (PySem.W.takesIn K (.builtin "object.__class__") = some true) && decide (PySem.W.mroIn K D (.type "object") = some true))))
theorem excB_ok {K : PySem.W.Frag} {D : Addr} (h : excB K D = true) : ExcC K D ∧ XfC K D := by
  obtain ⟨h0, h⟩ := ba h
  obtain ⟨h1, h⟩ := ba h
  obtain ⟨h2, h⟩ := ba h
  obtain ⟨h3, h4⟩ := ba h
  have X := xfB_ok h0
  exact ⟨⟨X.ga, X.gg, X.exC, X.hdC, eqO_ok h1, eqO_ok h2, of_decide_eq_true h3, of_decide_eq_true h4⟩, X⟩
/-- an error class x of the text, its __init__ stores the names fs -/
structure ErrC (K : PySem.W.Frag) (x : Str) (fs : List Str) : Prop where
  o : OexC K (ga K x)
  e : ExcC K (ga K x)
  f : XfC K (ga K x)
  no : ∀ y ∈ fs, PySem.W.findIn K (.ref (ga K x)) y = some none
  iC : PySem.W.findIn K (.ref (ga K x)) "__init__" = some (some (.ref (ma K (ga K x) "__init__")))
  tI : PySem.W.typeIn K (.ref (ma K (ga K x) "__init__")) = some (.type "function")
def errB (K : PySem.W.Frag) (x : Str) (fs : List Str) : Bool := oexB K (ga K x) && (excB K (ga K x) && ((fs.all fun y => eqO (PySem.W.findIn K (.ref (ga K x)) y) (some none)) &&
  (eqO (PySem.W.findIn K (.ref (ga K x)) "__init__") (some (some (.ref (ma K (ga K x) "__init__")))) && decide (PySem.W.typeIn K (.ref (ma K (ga K x) "__init__")) = some (.type "function")))))
theorem errB_ok {K : PySem.W.Frag} {x : Str} {fs : List Str} (h : errB K x fs = true) : ErrC K x fs := by
  obtain ⟨h1, h⟩ := ba h
  obtain ⟨h2, h⟩ := ba h
  obtain ⟨h3, h⟩ := ba h
  obtain ⟨h4, h5⟩ := ba h
  obtain ⟨a, b⟩ := excB_ok h2
  exact ⟨oexB_ok h1, a, b, fun y hy => eqO_ok (List.all_eq_true.mp h3 y hy), eqO_ok h4, of_decide_eq_true h5⟩
/-- which error is of which class -/
def kitXB (K : PySem.W.Frag) (x y : Str) (b : Bool) : Bool := decide (PySem.W.kitOne K (.ref (ga K x)) (.ref (ga K y)) = some b)
def kitsB (K : PySem.W.Frag) (base : Str) (xs : List Str) : Bool := xs.all fun x => (xs.all fun y => kitXB K x y (decide (x = y))) && (kitXB K x base true && (decide (PySem.W.kitOne K (.ref (ga K x)) (.type "ValueError") = some true) &&
  decide (PySem.W.exmOne K (.ref (ga K x)) (.ref (ga K base)) = some true)))
structure Kits (K : PySem.W.Frag) (base : Str) (xs : List Str) : Prop where
  kit : ∀ x ∈ xs, ∀ y ∈ xs, PySem.W.kitOne K (.ref (ga K x)) (.ref (ga K y)) = some (decide (x = y))
  kitO : ∀ x ∈ xs, PySem.W.kitOne K (.ref (ga K x)) (.ref (ga K base)) = some true
  kitV : ∀ x ∈ xs, PySem.W.kitOne K (.ref (ga K x)) (.type "ValueError") = some true
  exm : ∀ x ∈ xs, PySem.W.exmOne K (.ref (ga K x)) (.ref (ga K base)) = some true
theorem kitsB_ok {K : PySem.W.Frag} {base : Str} {xs : List Str} (h : kitsB K base xs = true) : Kits K base xs := by
  have key := fun x hx => ba (List.all_eq_true.mp h x hx)
  refine ⟨fun x hx y hy => of_decide_eq_true (List.all_eq_true.mp (key x hx).1 y hy), fun x hx => of_decide_eq_true (ba (key x hx).2).1, fun x hx => of_decide_eq_true (ba (ba (key x hx).2).2).1, fun x hx => of_decide_eq_true (ba (ba (key x hx).2).2).2⟩
/-- a table of the top with text keys and ints -/
def tabB (K : PySem.W.Frag) (x : Str) (kvs : List (Str × Int)) : Bool := valsB K (ga K x) (kvs.map fun q => (q.1, Dv.int q.2))
theorem tabB_ok {K : PySem.W.Frag} {w : World} {x : Str} {kvs : List (Str × Int)} {es : Array DictEntry} {n : Nat} (h : tabB K x kvs = true) (D : KDict K w (ga K x) es n) {k : Str} {i : Int} (hq : (k, i) ∈ kvs) : KDct K w (ga K x) k (.int i) := by
  obtain ⟨u, hu, ru⟩ := valsB_ok h (q := (k, Dv.int i)) (List.mem_map.mpr ⟨(k, i), hq, rfl⟩)
  exact ⟨es, n, u, D.at_, D.lit, hu, ru⟩
end L3
namespace L3
open PySem PySem.Spec PyProof.Rows L2
/-- a law's promise: a list of at most 63 ints in, True out -/
def spLaw (K : PySem.W.Frag) : Sp := fun vs H Q _ => ∃ (a : Addr) (ns : List Int), vs = [.ref a] ∧ SqL K H a (ns.map V.int) ∧ ns.length ≤ 63 ∧ ∀ H', Q (.bl true) H'
theorem walk_law {l : PySem.W.OpenLaw} {k : Nat} {q : Program} {loose : List Str} {XP : (Str → Option Value) → Heap → Prop} {YP : World → Heap → Prop} {d : DefRec} (hn : l.most = some 63) (hdf : d.params.defaults = []) (hr : Room k callerA)
    (F : ∀ (w : World) (mg : Str → Option Value) (fa : Addr) (h : Heap), YP w h → h.Ns mainGlobals mg → mg d.name = some (.ref fa) →
      ∃ (K : PySem.W.Frag) (fd : FuncData), K.In h ∧ (∀ (s : Shared) (u : Value), BindsTo s fd ⟨[u], []⟩ [("script", u)]) ∧
        ∀ base : Heap, K.In base → base.Ns mainGlobals mg → FnOk l.prog w K mg base (L2N.CX l.prog w) k fa fd ["script"] (spLaw K)) :
    PySem.W.WalkO q loose XP YP l.row.toRowW d [] (fun f vs => PySem.call f vs) := by
  refine Att.attach_call hn hdf fun w s₀ s₁ mg mb fa o pm cd doc a vs ns G Y ho hd hcd hmg hobj hints hlen hg => ?_
  obtain ⟨K, fd, KX, hb, hF⟩ := F w mg fa _ Y G.T.g hmg
  refine law_call KX G.T.g G.T.b G.T.builtins G.T.nolimit hg hobj hints (Nat.le_trans hlen (by decide)) hr hF hb (fun H hO hS => ⟨a, ns, rfl, hS, hlen, fun _ => rfl⟩) fun H e s' z => ?_
  obtain ⟨_, _, _, _, _, _, _, _, _, _, _, _, z⟩ := z
  exact z
theorem cx_none {P : Program} {w : World} {l : List Env} {H : Hp} {s : Shared} {e : Value} {s' : Shared} (z : L2N.CX P w l H s (fun _ _ _ => False) e s') : False := by
  obtain ⟨_, _, _, _, _, _, _, _, _, _, _, _, z⟩ := z
  exact z
end L3
set_option maxRecDepth 100000
set_option maxHeartbeats 4000000
/-! CmD: defs as callees, readings step by step. -/
namespace L3
open PySem PySem.Spec PyProof.Rows L2 He

/-! ### a def of the module that keeps a promise -/
structure CalG (P : Program) (w : World) (K : PySem.W.Frag) (mg : Str → Option Value) (base : Heap) (k : Nat) (x : Str) (ps : List Str) (sp : Sp) : Prop where
  g : mg x = some (.ref (ga K x))
  ok : ∃ fd, FnOk P w K mg base (L2N.CX P w) k (ga K x) fd ps sp ∧ Binds K fd ps []
  kp : PySem.W.keepIn K (.ref (ga K x)) = true
theorem CalG.imp {P : Program} {w : World} {K : PySem.W.Frag} {mg : Str → Option Value} {base : Heap} {k : Nat} {x : Str} {ps : List Str} {sp sp' : Sp} (c : CalG P w K mg base k x ps sp) (h : ∀ vs H Q E, sp' vs H Q E → sp vs H Q E) : CalG P w K mg base k x ps sp' := by
  obtain ⟨fd, F, b⟩ := c.ok
  exact ⟨c.g, ⟨fd, F.imp h, b⟩, c.kp⟩
theorem CalG.mono {P : Program} {w : World} {K : PySem.W.Frag} {mg : Str → Option Value} {base : Heap} {j k : Nat} {x : Str} {ps : List Str} {sp : Sp} (c : CalG P w K mg base j x ps sp) (h : j ≤ k) : CalG P w K mg base k x ps sp := by
  obtain ⟨fd, F, b⟩ := c.ok
  exact ⟨c.g, ⟨fd, F.mono h, b⟩, c.kp⟩
section
variable {P : Program} {w : World} {K : PySem.W.Frag} {mg : Str → Option Value} {base : Heap}
/-- a def keeps its promise: its body's rules and their reading -/
theorem calG_of {x : Str} {st : Stmt} {N ps : List Str} {k : Nat} {sp : Sp} (hg : mg x = some (.ref (ga K x))) (D : ∃ fd, FunD K x x (defArgs st) (defBody st) (defScope st) [] [] (ga K x) fd) (S : FnScope N ps (defScope st))
    (hb : ∀ (dV kV doc pm : Value) (an : Option Addr) (cdv ct : Value) (us : List Value), us.length = ps.length → bindArgs (PySem.W.fnOf x x (defArgs st) (defBody st) (defScope st) .none kV doc pm an cdv ct) ⟨us, []⟩ = pure (ps.zip us))
    (len : ∀ vs H Q E, sp vs H Q E → vs.length = ps.length)
    (hbody : ∀ (cdv : Value) (A : Around) (outer : List Env) (s : Shared) (H : Hp) (vs : List V) (Q : VK) (E : XK), Room k (A.deeper (envOfC x (defScope st) s.heap.objs.size (ga K x) cdv)) → sp vs H Q E →
      ∃ t, PSs (cxOf (L2N.CX P w) P w K mg base N x (defScope st) (ga K x) cdv A outer s H E) (defBody st) t ∧ t { nx := fun _ H' => Q .non H', rt := Q } (start N vs) H) : CalG P w K mg base (k + 1) x ps sp := by
  obtain ⟨fd, F⟩ := D
  exact ⟨hg, ⟨fd, F.ok S len hbody, F.bindsN fun kV doc pm an cdv ct us hl => hb .none kV doc pm an cdv ct us hl⟩, F.kp⟩
end
section
variable {X : Cx} {W : L2.WX}
/-- x(e, ..) of such a def; what it raises is wished by W -/
theorem pe_cal {k j : Nat} {x : Str} {ps : List Str} {sp : Sp} {q pos : Pos} {e : Expr} {es : List Expr} {t : TA} (c : CalG X.prog X.w X.K X.mg X.base j x ps sp) (hr : Room k X.A) (hj : j ≤ k) (hx : ∀ σ, PassesAt (L2N.CX X.prog X.w) X σ (WE W σ)) (ha : PA X (e :: es) t) (hg : Gl X x := by rfl)
    (hdb : (x == ("__debug__" : Str)) = false := by decide) (he : starEach (e :: es) X.env = (false, eval e X.env) :: starEach es X.env := by rfl) (hpl : (backTo pos (starEach es X.env)).any (·.1) = false := by rfl) :
    PE X (.Call (.Name x q) (e :: es) [] pos) (tCallS sp (WE W) t) := by
  have z : ∃ fd, FnOk X.prog X.w X.K X.mg X.base (L2N.CX X.prog X.w) j (ga X.K x) fd ps sp ∧ Binds X.K fd ps [] := c.ok
  have key := Classical.choose_spec z
  exact pe_callS key.1 (hr.mono hj) hg c.g c.kp key.2 hx ha hdb he hpl
/-- nothing is let out -/
theorem passN (σ : L2.St) : PassesAt (L2N.CX X.prog X.w) X σ (WE (fun _ _ _ _ => False) σ) := fun _ _ _ e s' I c => by
  obtain ⟨_, _, _, _, _, _, _, _, _, _, _, _, z⟩ := c
  exact z.elim
theorem pe_gl {x : Str} {pos : Pos} {a : Addr} (hm : X.mg x = some (.ref a)) (hg : Gl X x := by rfl) (hdb : (x == ("__debug__" : Str)) = false := by decide) : PE X (.Name x pos) (tC (.ref a)) :=
  pe_glob hg hm rfl hdb
end

/-! ### readings, step by step: each from what is asked next -/
section
variable {σ σ' : L2.St} {H : Hp} {Q : VK} {D : Ends} {t u : TS} {te ta tb : TE} {g : TG} {v x y : V} {K : PySem.W.Frag}
variable {nx bk ct : L2.St → Hp → Prop} {rt : VK}
theorem r_seq (k : t ⟨u ⟨nx, rt, bk, ct⟩, rt, bk, ct⟩ σ H) : tSeq t u ⟨nx, rt, bk, ct⟩ σ H := k
theorem r_asgN {i : Nat} (k : te σ H fun x H1 => nx (σ.set i (some x)) H1) : tAsg te (gName i) ⟨nx, rt, bk, ct⟩ σ H := k
theorem r_asg (k : te σ H fun x H1 => g x σ H1 nx) : tAsg te g ⟨nx, rt, bk, ct⟩ σ H := k
theorem r_ret (k : te σ H rt) : tRet te ⟨nx, rt, bk, ct⟩ σ H := k
theorem r_retN (k : rt .non H) : tRetN ⟨nx, rt, bk, ct⟩ σ H := k
theorem r_next (k : nx σ H) : tNext ⟨nx, rt, bk, ct⟩ σ H := k
theorem r_brk (k : bk σ H) : tBreak ⟨nx, rt, bk, ct⟩ σ H := k
theorem r_cont (k : ct σ H) : tCont ⟨nx, rt, bk, ct⟩ σ H := k
theorem r_drop (k : te σ H fun _ H1 => nx σ H1) : tDrop te ⟨nx, rt, bk, ct⟩ σ H := k
theorem r_aug {i : Nat} {ti : TIp} (e : σ[i]? = some (some x)) (k : te σ H fun y H1 => ti x y H1 fun z H2 => nx (σ.set i (some z)) H2) : tAug i te ti ⟨nx, rt, bk, ct⟩ σ H := ⟨x, e, k⟩
theorem r_augS {to ti : TE} {tget : V → V → Hp → VK → Prop} {tip : TIp} {tset : TSet} (k : to σ H fun o H1 => ti σ H1 fun i H2 => tget o i H2 fun x H3 => te σ H3 fun y H4 => tip x y H4 fun z H5 => tset o i z H5 fun H6 => nx σ H6) :
    tAugS to ti te tget tip tset ⟨nx, rt, bk, ct⟩ σ H := k
theorem r_sub {to ti : TE} {ts : TSet} {P : L2.St → Hp → Prop} (k : to σ H fun o H1 => ti σ H1 fun i H2 => ts o i v H2 fun H3 => P σ H3) : gSub to ti ts v σ H P := k
theorem r_ifS {c : TT} (k : c σ H fun b H1 => if b = true then t D σ H1 else u D σ H1) : tIfS c t u D σ H := k
theorem r_if {c : TT} (k : c σ H fun b H1 => if b = true then ta σ H1 Q else tb σ H1 Q) : tIf c ta tb σ H Q := k
theorem r_var {i : Nat} (e : σ[i]? = some (some v)) (k : Q v H) : tVar i σ H Q := ⟨v, e, k⟩
theorem r_c (k : Q v H) : tC v σ H Q := k
theorem r_op {r : R2} (k : ta σ H fun x H1 => tb σ H1 fun y H2 => r x y H2 Q) : tOp r ta tb σ H Q := k
theorem r_un {r : V → Hp → VK → Prop} (k : ta σ H fun x H1 => r x H1 Q) : tUn r ta σ H Q := k
theorem r_test {P : Bool → Hp → Prop} (k : te σ H fun x H' => ∃ k, x = .bl k ∧ P k H') : tTest te σ H P := k
theorem r_B {P : Bool → Hp → Prop} (k : te σ H fun x H1 => ∃ c, x = .bl c ∧ P c H1) : tB te σ H P := k
theorem r_bl {b : Bool} {P : Bool → Prop} (k : P b) : ∃ c, V.bl b = .bl c ∧ P c := ⟨b, rfl, k⟩
theorem r_and {c d : TT} {P : Bool → Hp → Prop} (k : c σ H fun b H1 => if b = true then d σ H1 P else P false H1) : tAnd c d σ H P := k
theorem r_or {c d : TT} {P : Bool → Hp → Prop} (k : c σ H fun b H1 => if b = true then P true H1 else d σ H1 P) : tOr c d σ H P := k
theorem r_not {c : TT} {P : Bool → Hp → Prop} (k : c σ H fun b H1 => P (!b) H1) : tNot c σ H P := k
theorem r_andV (k : ta σ H fun x H1 => ∃ c, x = .bl c ∧ if c = true then tb σ H1 Q else Q (.bl false) H1) : tAndV ta tb σ H Q := k
theorem r_orV (k : ta σ H fun x H1 => ∃ c, x = .bl c ∧ if c = true then Q (.bl true) H1 else tb σ H1 Q) : tOrV ta tb σ H Q := k
theorem r_notV (k : ta σ H fun x H1 => ∃ c, x = .bl c ∧ Q (.bl (!c)) H1) : tNotV ta σ H Q := k
theorem r_nil {P : List V → Hp → Prop} (k : P [] H) : tNil σ H P := k
theorem r_cons {ta : TE} {tr : TA} {P : List V → Hp → Prop} (k : ta σ H fun x H1 => tr σ H1 fun xs H2 => P (x :: xs) H2) : tCons ta tr σ H P := k
theorem r_cb {r : List V → Hp → VK → Prop} {ta : TA} (k : ta σ H fun vs H1 => r vs H1 Q) : tCB r ta σ H Q := k
theorem r_callS {sp : Sp} {E : L2.St → XK} {ta : TA} (k : ta σ H fun vs H1 => sp vs H1 Q (E σ)) : tCallS sp E ta σ H Q := k
def NewL (xs : List V) (H1 : Hp) (Q : VK) : Prop := xs.length ≤ sizeLine ∧ ∀ p, H1 p = none → Q (.ref p) (upd H1 p (.lst xs))
def NewT (xs : List V) (H1 : Hp) (Q : VK) : Prop := xs.length ≤ sizeLine ∧ ∀ p, H1 p = none → Q (.ref p) (upd H1 p (.tup xs))
theorem r_tup {ta : TA} (k : ta σ H fun xs H1 => NewT xs H1 Q) : tTup ta σ H Q := k
theorem r_lst {ta : TA} (k : ta σ H fun xs H1 => NewL xs H1 Q) : tLst ta σ H Q := k
theorem r_bm {T : String} {r : V → List V → Hp → VK → Prop} {t : TA} (k : ta σ H fun x H1 => tyV K T x H1 ∧ t σ H1 fun xs H2 => r x xs H2 Q) : tBM K T r ta t σ H Q := k
theorem r_bm0 {T : String} {r : V → List V → Hp → VK → Prop} (k : ta σ H fun x H1 => tyV K T x H1 ∧ r x [] H1 Q) : tBM0 K T r ta σ H Q := k
theorem r_sl {r : V → Option Int → Option Int → Hp → VK → Prop} {tl th : TO} (k : te σ H fun x H1 => tl σ H1 fun l H2 => th σ H2 fun u H3 => r x l u H3 Q) : tSl r te tl th σ H Q := k
theorem r_noPart {P : Option Int → Hp → Prop} (k : P none H) : tNoPart σ H P := k
theorem r_part {P : Option Int → Hp → Prop} (k : te σ H fun x H1 => ∃ i, x = .int i ∧ P (some i) H1) : tPart te σ H P := k
theorem r_int {i : Int} {P : Int → Prop} (k : P i) : ∃ j, V.int i = .int j ∧ P j := ⟨i, rfl, k⟩
/-! leaves: ints -/
theorem r_I0 {g : Int → Int → V} {i j : Int} (k : Q (g i j) H) : rI0 g (.int i) (.int j) H Q := ⟨i, j, rfl, rfl, k⟩
theorem r_I {C : Int → Int → Prop} {g : Int → Int → V} {i j : Int} (c : C i j) (k : Q (g i j) H) : rI C g (.int i) (.int j) H Q := ⟨i, j, rfl, rfl, c, k⟩
theorem r_plusI {i j : Int} (k : Q (.int (i + j)) H) : rPlus K (.int i) (.int j) H Q := .inl ⟨i, j, rfl, rfl, k⟩
theorem r_timesI {i j : Int} (c : CMulW i j) (k : Q (.int (i * j)) H) : rTimes (.int i) (.int j) H Q := .inl ⟨i, j, rfl, rfl, c, k⟩
theorem r_neg {i : Int} (k : Q (.int (-i)) H) : rU (fun i => .int (-i)) (.int i) H Q := ⟨i, rfl, k⟩
theorem r_sameS (h : scal x y = true) (k : Q (.bl (decide (x = y))) H) : rSame K x y H Q := .inl ⟨h, k⟩
theorem r_otherS (h : scal x y = true) (k : Q (.bl (!decide (x = y))) H) : rOther K x y H Q := .inl ⟨h, k⟩
theorem r_isN (k : Q (.bl (decide (x = .non))) H) : (fun x y H Q => y = .non ∧ Q (.bl (decide (x = .non))) H : R2) x .non H Q := ⟨rfl, k⟩
/-! leaves: lists -/
theorem r_atL {p : Addr} {xs : List V} {i : Int} (h : SqL K H p xs) (e : atI xs i = some v) (k : Q v H) : rAt K (.ref p) (.int i) H Q := .inl ⟨p, xs, i, v, rfl, rfl, h, e, k⟩
theorem r_atT {p : Addr} {xs : List V} {i : Int} (h : SqT K H p xs) (e : atI xs i = some v) (k : Q v H) : rAt K (.ref p) (.int i) H Q := .inr ⟨p, xs, i, v, rfl, rfl, h, e, k⟩
/-- what is known of the heap behind a new object -/
def Ext (H H' : Hp) : Prop := ∀ a o, H a = some o → H' a = some o
theorem Ext.rfl {H : Hp} : Ext H H := fun _ _ h => h
theorem Ext.trans {H H1 H2 : Hp} (a : Ext H H1) (b : Ext H1 H2) : Ext H H2 := fun x o h => b x o (a x o h)
theorem Ext.new {H : Hp} {p : Addr} {o : HO} (h : H p = none) : Ext H (upd H p o) := fun a u e => by rw [upd_ne (ne_of_none e h)]; exact e
theorem Ext.mut {H H' : Hp} {p : Addr} {o : HO} (e : Ext H H') (h : H p = none) : Ext H (upd H' p o) := fun a u ha => by rw [upd_ne (ne_of_none ha h)]; exact e a u ha
theorem Ext.none {H H' : Hp} {p : Addr} (e : Ext H H') (h : H' p = none) : H p = none := by
  cases q : H p with
  | none => exact Eq.refl _
  | some o => rw [e p o q] at h; cases h
theorem Ext.l {H H' : Hp} {a : Addr} {xs : List V} (e : Ext H H') (h : SqL K H a xs) : SqL K H' a xs := by
  rcases h with (h | ⟨o, h⟩) | h
  · exact .inl (.inl (e _ _ h))
  · exact .inl (.inr ⟨o, e _ _ h⟩)
  · exact .inr h
theorem Ext.tu {H H' : Hp} {a : Addr} {xs : List V} (e : Ext H H') (h : SqT K H a xs) : SqT K H' a xs := by
  rcases h with (h | ⟨o, h⟩) | h
  · exact .inl (.inl (e _ _ h))
  · exact .inl (.inr ⟨o, e _ _ h⟩)
  · exact .inr h
theorem sqL {a : Addr} {xs : List V} (h : H a = some (.lst xs)) : SqL K H a xs := .inl (.inl h)
theorem sqT {a : Addr} {xs : List V} (h : H a = some (.tup xs)) : SqT K H a xs := .inl (.inl h)
theorem r_newL {xs : List V} (h : xs.length ≤ 100000) (k : ∀ p H', H p = none → Ext H H' → H' p = some (.lst xs) → Q (.ref p) H') : NewL xs H Q :=
  ⟨Nat.le_trans h (by decide), fun p hp => k p _ hp (Ext.new hp) upd_same⟩
theorem r_newT {xs : List V} (h : xs.length ≤ 100000) (k : ∀ p H', H p = none → Ext H H' → H' p = some (.tup xs) → Q (.ref p) H') : NewT xs H Q :=
  ⟨Nat.le_trans h (by decide), fun p hp => k p _ hp (Ext.new hp) upd_same⟩
/-- xs.append(v), the list at l the call's own (new since H0) -/
theorem r_app {l : Addr} {xs : List V} (h : H l = some (.lst xs)) (hz : xs.length < 100000) (k : ∀ H', H' l = some (.lst (xs ++ [v])) → (∀ b, b ≠ l → H' b = H b) → Q .non H') : rAppend (.ref l) [v] H Q :=
  ⟨l, xs, v, rfl, rfl, h, Nat.lt_of_lt_of_le hz (by decide), k _ upd_same fun b hb => upd_ne hb⟩
theorem r_popL {l : Addr} {xs : List V} (h : H l = some (.lst (xs ++ [v]))) (k : ∀ H', H' l = some (.lst xs) → (∀ b, b ≠ l → H' b = H b) → Q v H') : rPop (.ref l) [] H Q :=
  ⟨l, xs ++ [v], v, rfl, rfl, h, by simp, k _ (by rw [List.dropLast_concat]; exact upd_same) fun b hb => upd_ne hb⟩
theorem tyL {a : Addr} {xs : List V} (h : SqL K H a xs) : tyV K "list" (.ref a) H := .inl ⟨rfl, xs, h⟩
theorem mut_ext {H0 H H' : Hp} {l : Addr} (e : Ext H0 H) (h0 : H0 l = none) (m : ∀ b, b ≠ l → H' b = H b) : Ext H0 H' := fun a o ha => (m a (ne_of_none ha h0)).trans (e a o ha)
theorem mut_at {H H' : Hp} {l b : Addr} {o : HO} (m : ∀ b, b ≠ l → H' b = H b) (hb : b ≠ l) (h : H b = some o) : H' b = some o := (m b hb).trans h
/-! tests -/
theorem ite_d {p A B : Prop} [Decidable p] (h1 : p → A) (h2 : ¬ p → B) : if decide p = true then A else B := by
  by_cases h : p
  · rw [if_pos (decide_eq_true h)]; exact h1 h
  · rw [if_neg (by simpa using h)]; exact h2 h
theorem ite_n {p A B : Prop} [Decidable p] (h1 : ¬ p → A) (h2 : p → B) : if (!decide p) = true then A else B := by
  by_cases h : p
  · rw [if_neg (by simpa using h)]; exact h2 h
  · rw [if_pos (by simpa using h)]; exact h1 h
theorem ite_b {b : Bool} {A B : Prop} (h1 : b = true → A) (h2 : b = false → B) : if b = true then A else B := by
  cases b
  · exact h2 rfl
  · exact h1 rfl
theorem ite_t {A B : Prop} (h : A) : if true = true then A else B := h
theorem ite_f {A B : Prop} (h : B) : if false = true then A else B := h
end
end L3
namespace L3
open PySem PySem.Spec PyProof.Rows L2
/-- xs[i] ahead of xs[i] op= e, i from the front -/
def rGetL (K : PySem.W.Frag) : R2 := fun x y H Q => ∃ p xs i v, x = .ref p ∧ y = .int i ∧ SqL K H p xs ∧ 0 ≤ i ∧ xs[i.toNat]? = some v ∧ Q v H
theorem get_list {X : Cx} : PGet X (rGetL X.K) := by
  intro pins s σ H o i ov iv Q I ro ri h
  obtain ⟨p, xs, j, z, rfl, rfl, hq, h0, e, q⟩ := h
  cases ro
  obtain ⟨t, rfl⟩ := ri
  obtain ⟨its, r, pl, hz⟩ := I.list hq
  obtain ⟨w, ew, rw'⟩ := r.get e
  have hl := r.length
  have hn := line63
  have h5 : j.toNat < xs.length := (List.getElem?_eq_some_iff.mp e).1
  exact wpAny_getItem_list pl.isList h0 (by omega) (by simpa using ew) ⟨z, H, I, rw', q⟩
theorem r_getL {K : PySem.W.Frag} {H : Hp} {Q : VK} {p : Addr} {xs : List V} {i : Int} {v : V} (h : SqL K H p xs) (h0 : 0 ≤ i) (e : xs[i.toNat]? = some v) (k : Q v H) : rGetL K (.ref p) (.int i) H Q := ⟨p, xs, i, v, rfl, rfl, h, h0, e, k⟩
theorem r_ipI {f : Int → Int → Int} {H : Hp} {Q : VK} {i j : Int} (k : Q (.int (f i j)) H) : ipI f (.int i) (.int j) H Q := ⟨i, j, rfl, rfl, k⟩
theorem ixN_of {n j : Nat} (hj : j < n) : ixN n (j : Int) = some j := by
  unfold ixN
  rw [if_pos (by omega), if_pos (by omega)]
  simp
theorem r_setL {H : Hp} {P : Hp → Prop} {p : Addr} {xs : List V} {i : Int} {j : Nat} {v : V} (h : H p = some (.lst xs)) (hi : i = (j : Int)) (hj : j < xs.length) (k : ∀ H', H' p = some (.lst (xs.set j v)) → (∀ b, b ≠ p → H' b = H b) → P H') : rSetL (.ref p) (.int i) v H P :=
  ⟨p, xs, i, j, rfl, rfl, h, by rw [hi]; exact ixN_of hj, k _ upd_same fun b hb => upd_ne hb⟩
end L3
set_option maxRecDepth 100000
set_option maxHeartbeats 4000000
/-! CmE: own errors raised; the bounds; a source of draws. -/
namespace L3
open PySem PySem.Spec PyProof.Rows L2 He
/-! ### an error's __init__ that stores one name, two names -/
def spI1 (C : Addr) (f : Str) : Sp := fun vs H Q _ => ∃ (a : Addr) (v : V), vs = [.ref a, v] ∧ H a = some (exo a C none) ∧ ∀ dx, H dx = none → dx ≠ a → Q .non (upd (upd H dx (exd dx [(f, v)])) a (exo a C (some dx)))
def spI2 (C : Addr) (f g : Str) : Sp := fun vs H Q _ => ∃ (a : Addr) (u v : V), vs = [.ref a, u, v] ∧ H a = some (exo a C none) ∧ ∀ dx, H dx = none → dx ≠ a → Q .non (upd (upd (upd H dx (exd dx [(f, u)])) a (exo a C (some dx))) dx (exd dx [(g, v), (f, u)]))
abbrev ErrI (P : Program) (w : World) (K : PySem.W.Frag) (mg : Str → Option Value) (base : Heap) (x : Str) (ps : List Str) (sp : Sp) : Prop :=
  ∃ fd, FnOk P w K mg base (L2N.CX P w) 1 (ma K (ga K x) "__init__") fd ps sp ∧ Binds K fd ps []
section
variable {P : Program} {w : World} {K : PySem.W.Frag} {mg : Str → Option Value} {base : Heap}
theorem errI_of {x q : Str} {st : Stmt} {N ps : List Str} {sp : Sp} (D : ∃ fd, FunD K "__init__" q (defArgs st) (defBody st) (defScope st) [] [] (ma K (ga K x) "__init__") fd) (S : FnScope N ps (defScope st))
    (hb : ∀ (dV kV doc pm : Value) (an : Option Addr) (cdv ct : Value) (us : List Value), us.length = ps.length → bindArgs (PySem.W.fnOf "__init__" q (defArgs st) (defBody st) (defScope st) .none kV doc pm an cdv ct) ⟨us, []⟩ = pure (ps.zip us))
    (len : ∀ vs H Q E, sp vs H Q E → vs.length = ps.length)
    (hbody : ∀ (cdv : Value) (A : Around) (outer : List Env) (s : Shared) (H : Hp) (vs : List V) (Q : VK) (E : XK), Room 0 (A.deeper (envOfC q (defScope st) s.heap.objs.size (ma K (ga K x) "__init__") cdv)) → sp vs H Q E →
      ∃ t, PSs (cxOf (L2N.CX P w) P w K mg base N q (defScope st) (ma K (ga K x) "__init__") cdv A outer s H E) (defBody st) t ∧ t { nx := fun _ H' => Q .non H', rt := Q } (start N vs) H) : ErrI P w K mg base x ps sp := by
  obtain ⟨fd, F⟩ := D
  exact ⟨fd, F.ok S len hbody, F.bindsN fun kV doc pm an cdv ct us hl => hb .none kV doc pm an cdv ct us hl⟩
theorem pmk_errI {X : Cx} {x : Str} {fs ps : List Str} {sp : Sp} {e : Expr} {es : List Expr} {ta : TA} {p pos : Pos} {k : Nat} (EC : ErrC X.K x fs) (I : ErrI X.prog X.w X.K X.mg X.base x ps sp) (hr : Room k X.A) (hk : 2 ≤ k) (hm : X.mg x = some (.ref (ga X.K x))) (ha : PA X (e :: es) ta)
    (hg : Gl X x := by rfl) (hdb : (x == ("__debug__" : Str)) = false := by decide) (he : starEach (e :: es) X.env = (false, eval e X.env) :: starEach es X.env := by rfl) (hpl : (backTo pos (starEach es X.env)).any (·.1) = false := by rfl) :
    L2N.PMk X (.Call (.Name x p) (e :: es) [] pos) (tMkO (ga X.K x) sp [] ta) := by
  have key := Classical.choose_spec I
  exact pmk_err EC.o EC.iC EC.tI key.1 (hr.mono hk) key.2 (fun _ _ _ _ _ _ _ z => by
    obtain ⟨_, _, _, _, _, _, _, _, _, _, _, _, z⟩ := z
    exact z.elim) hg hm ha hdb he hpl
/-- the reading of self.f = v in such an __init__ -/
theorem r_ost1 {σ : L2.St} {H : Hp} {f : Str} {v : V} {a C : Addr} {nx bk ct : L2.St → Hp → Prop} {rt : VK} (ho : OexC K C) (hno : PySem.W.findIn K (.ref C) f = some none) (ea : H a = some (exo a C none)) {i j : Nat} (hi : σ[i]? = some (some (.ref a))) (hj : σ[j]? = some (some v))
    (k : ∀ dx, H dx = none → dx ≠ a → nx σ (upd (upd H dx (exd dx [(f, v)])) a (exo a C (some dx)))) : tOst K f (tVar i) (tVar j) ⟨nx, rt, bk, ct⟩ σ H :=
  ⟨v, hj, .ref a, hi, a, C, rfl, ho, hno, .inl ⟨ea, k⟩⟩
theorem r_ost2 {σ : L2.St} {H : Hp} {f : Str} {v : V} {a C dx : Addr} {fs : List (Str × V)} {nx bk ct : L2.St → Hp → Prop} {rt : VK} (ho : OexC K C) (hno : PySem.W.findIn K (.ref C) f = some none) (ea : H a = some (exo a C (some dx))) (ed : H dx = some (exd dx fs)) (hf : fs.length ≤ 900)
    {i j : Nat} (hi : σ[i]? = some (some (.ref a))) (hj : σ[j]? = some (some v)) (k : nx σ (upd H dx (exd dx ((f, v) :: fs)))) : tOst K f (tVar i) (tVar j) ⟨nx, rt, bk, ct⟩ σ H :=
  ⟨v, hj, .ref a, hi, a, C, rfl, ho, hno, .inr ⟨dx, fs, ea, ed, hf, k⟩⟩
theorem exo_ne_exd {a C dx : Addr} {d : Option Addr} {fs : List (Str × V)} {H : Hp} (ha : H a = none) (hd : upd H a (exo a C d) dx = none) : dx ≠ a := fun e => by
  rw [e, upd_same] at hd; cases hd
theorem err_heap {H : Hp} {a dx C : Addr} {u o : HO} (ha : H a = none) (hd : H dx = none) (hne : dx ≠ a) : Ext H (upd (del (upd (upd (upd H a u) dx o) a u) a) dx o) ∧ (upd (del (upd (upd (upd H a u) dx o) a u) a) dx o) dx = some o :=
  ⟨fun b q e => by rw [upd_ne (ne_of_none e hd), del_ne (ne_of_none e ha), upd_ne (ne_of_none e ha), upd_ne (ne_of_none e hd), upd_ne (ne_of_none e ha)]; exact e, upd_same⟩
/-- C(v): an error with its own dict, new -/
theorem r_mk1 {H : Hp} {C : Addr} {f : Str} {v : V} {E : XK} (k : ∀ d H', H d = none → Ext H H' → H' d = some (.xd [(f, v)]) → E (.ref C) (some d) H') :
    [v].length ≤ 1000 ∧ ∀ a, H a = none → spI1 C f (.ref a :: ([v] ++ [])) (upd H a (exo a C none)) (fun v' H2 => v' = .non ∧ ∃ (d : Addr) (fs : List (Str × V)), H2 a = some (exo a C (some d)) ∧ H2 d = some (exd d fs) ∧ H d = none ∧ E (.ref C) (some d) (upd (del H2 a) d (.xd fs))) (fun _ _ _ => False) := by
  refine ⟨by show 1 ≤ 1000; decide, fun a ha => ⟨a, v, rfl, upd_same, fun dx hd hne => ⟨rfl, dx, [(f, v)], upd_same, by rw [upd_ne hne, upd_same], ?_, ?_⟩⟩⟩
  · rw [upd_ne hne] at hd; exact hd
  · rw [upd_ne hne] at hd
    refine k dx _ hd (fun b q e => ?_) upd_same
    rw [upd_ne (ne_of_none e hd), del_ne (ne_of_none e ha), upd_ne (ne_of_none e ha), upd_ne (ne_of_none e hd), upd_ne (ne_of_none e ha)]
    exact e
theorem r_mk2 {H : Hp} {C : Addr} {f g : Str} {u v : V} {E : XK} (k : ∀ d H', H d = none → Ext H H' → H' d = some (.xd [(g, v), (f, u)]) → E (.ref C) (some d) H') :
    [u, v].length ≤ 1000 ∧ ∀ a, H a = none → spI2 C f g (.ref a :: ([u, v] ++ [])) (upd H a (exo a C none)) (fun v' H2 => v' = .non ∧ ∃ (d : Addr) (fs : List (Str × V)), H2 a = some (exo a C (some d)) ∧ H2 d = some (exd d fs) ∧ H d = none ∧ E (.ref C) (some d) (upd (del H2 a) d (.xd fs))) (fun _ _ _ => False) := by
  refine ⟨by show 2 ≤ 1000; decide, fun a ha => ⟨a, u, v, rfl, upd_same, fun dx hd hne => ⟨rfl, dx, [(g, v), (f, u)], by rw [upd_ne hne.symm, upd_same], upd_same, ?_, ?_⟩⟩⟩
  · rw [upd_ne hne] at hd; exact hd
  · rw [upd_ne hne] at hd
    refine k dx _ hd (fun b q e => ?_) upd_same
    rw [upd_ne (ne_of_none e hd), del_ne (ne_of_none e ha), upd_ne (ne_of_none e hd), upd_ne (ne_of_none e ha), upd_ne (ne_of_none e hd), upd_ne (ne_of_none e ha)]
    exact e
end
/-- raise C(e, ..) -/
theorem r_mkO {sp : Sp} {ta : TA} {C : Addr} {E : XK} {σ : L2.St} {H : Hp} (k : ta σ H fun vs H1 => vs.length ≤ 1000 ∧ ∀ a, H1 a = none → sp (.ref a :: (vs ++ [])) (upd H1 a (exo a C none))
    (fun v H2 => v = .non ∧ ∃ (d : Addr) (fs : List (Str × V)), H2 a = some (exo a C (some d)) ∧ H2 d = some (exd d fs) ∧ H1 d = none ∧ E (.ref C) (some d) (upd (del H2 a) d (.xd fs))) (fun _ _ _ => False)) :
    tMkO C sp [] ta σ H E := k
/-! ### wide products: one factor small, or both below a million bits -/
def CMulB (i j : Int) : Prop := CMulW i j ∨ CMul i j
def rTimesB : R2 := fun x y H Q => rI CMulB (fun i j => .int (i * j)) x y H Q ∨ rRep x y H Q
theorem op_timesB {X : Cx} : OpR X (binaryOp .Mult) rTimesB := by
  intro pins s σ H x y u v Q I rx ry h
  rcases h with ⟨i, j, ex, ey, c, q⟩ | h
  · rcases c with c | c
    · exact op_mulW pins s σ H x y u v Q I rx ry ⟨i, j, ex, ey, c, q⟩
    · exact op_mul pins s σ H x y u v Q I rx ry ⟨i, j, ex, ey, c, q⟩
  · exact op_rep pins s σ H x y u v Q I rx ry h
theorem r_timesB {H : Hp} {Q : VK} {i j : Int} (c : CMulB i j) (k : Q (.int (i * j)) H) : rTimesB (.int i) (.int j) H Q := .inl ⟨i, j, rfl, rfl, c, k⟩
theorem cmR {i j : Int} (h1 : -(2 ^ 64) < j) (h2 : j < 2 ^ 64) : CMulB i j := .inr (.inr ⟨h1, h2⟩)
theorem cmL {i j : Int} (h1 : -(2 ^ 64) < i) (h2 : i < 2 ^ 64) : CMulB i j := .inr (.inl ⟨h1, h2⟩)
theorem cdW {i j : Int} (h : 0 < j) (h2 : j < 2 ^ 250) : CDivW i j := wide_div h (b := 250) (by omega) (by decide) (by decide)
theorem r_repL {l : Addr} {xs : List V} {H : Hp} {Q : VK} {k : Int} (h : H l = some (.lst xs)) (h1 : -(2 ^ 63) ≤ k) (h2 : k < 2 ^ 63) (h3 : xs.length * k.toNat ≤ 100000) (q : ∀ p H', H p = none → Ext H H' → H' p = some (.lst (List.replicate k.toNat xs).flatten) → Q (.ref p) H') : rTimesB (.ref l) (.int k) H Q :=
  .inr ⟨l, k, xs, rfl, rfl, h, h1, h2, Nat.le_trans h3 (by decide), fun p hp => q p _ hp (Ext.new hp) upd_same⟩
end L3
namespace L3
open PySem PySem.Spec PyProof.Rows L2 He
section
variable {K : PySem.W.Frag} {H : Hp} {Q : VK} {σ : L2.St}
/-! leaves of built-ins -/
def LenS (K : PySem.W.Frag) : List V → Hp → VK → Prop := fun xs H Q => ∃ p ys, xs = [.ref p] ∧ (SqL K H p ys ∨ SqT K H p ys) ∧ Q (.int ys.length) H
theorem cr_len {X : Cx} : CallR X (.builtin "len") (LenS X.K) := call_len_seq
theorem r_lenL {p : Addr} {ys : List V} {n : Int} (h : SqL K H p ys) (e : (ys.length : Int) = n) (k : Q (.int n) H) : LenS K [.ref p] H Q := ⟨p, ys, rfl, .inl h, by rw [e]; exact k⟩
theorem r_lenT {p : Addr} {ys : List V} {n : Int} (h : SqT K H p ys) (e : (ys.length : Int) = n) (k : Q (.int n) H) : LenS K [.ref p] H Q := ⟨p, ys, rfl, .inr h, by rw [e]; exact k⟩
def IntS : List V → Hp → VK → Prop := fun xs H Q => (∃ i, xs = [.int i] ∧ Q (.int i) H) ∨ ∃ k, xs = [.bl k] ∧ Q (.int (if k then 1 else 0)) H
theorem cr_int {X : Cx} : CallR X (.type "int") IntS := call_int1
theorem r_intI {i : Int} (k : Q (.int i) H) : IntS [.int i] H Q := .inl ⟨i, rfl, k⟩
def AbsS : List V → Hp → VK → Prop := fun xs H Q => ∃ i, xs = [.int i] ∧ Q (.int (if i < 0 then -i else i)) H
theorem cr_abs {X : Cx} : CallR X (.builtin "abs") AbsS := call_abs
theorem r_abs {i : Int} (k : Q (.int (if i < 0 then -i else i)) H) : AbsS [.int i] H Q := ⟨i, rfl, k⟩
def MinS : List V → Hp → VK → Prop := fun xs H Q => ∃ i j, xs = [.int i, .int j] ∧ Q (.int (if j < i then j else i)) H
def MaxS : List V → Hp → VK → Prop := fun xs H Q => ∃ i j, xs = [.int i, .int j] ∧ Q (.int (if j > i then j else i)) H
theorem cr_min2 {X : Cx} (hc : X.calm = true) : CallR X (.builtin "min") MinS := call_min2 hc
theorem cr_max2 {X : Cx} (hc : X.calm = true) : CallR X (.builtin "max") MaxS := call_max2 hc
theorem r_min {i j : Int} (k : Q (.int (min i j)) H) : MinS [.int i, .int j] H Q := ⟨i, j, rfl, by
  have e : (if j < i then j else i) = min i j := by split <;> omega
  rw [e]; exact k⟩
theorem r_max {i j : Int} (k : Q (.int (max i j)) H) : MaxS [.int i, .int j] H Q := ⟨i, j, rfl, by
  have e : (if j > i then j else i) = max i j := by split <;> omega
  rw [e]; exact k⟩
def ListS (K : PySem.W.Frag) : List V → Hp → VK → Prop := fun xs H Q => ∃ p ys, xs = [.ref p] ∧ (SqL K H p ys ∨ SqT K H p ys) ∧ ∀ l, H l = none → Q (.ref l) (upd H l (.lst ys))
theorem cr_list {X : Cx} : CallR X (.type "list") (ListS X.K) := call_list_of
theorem r_listL {p : Addr} {ys : List V} (h : SqL K H p ys) (k : ∀ l H', H l = none → Ext H H' → H' l = some (.lst ys) → Q (.ref l) H') : ListS K [.ref p] H Q := ⟨p, ys, rfl, .inl h, fun l hl => k l _ hl (Ext.new hl) upd_same⟩
theorem r_listT {p : Addr} {ys : List V} (h : SqT K H p ys) (k : ∀ l H', H l = none → Ext H H' → H' l = some (.lst ys) → Q (.ref l) H') : ListS K [.ref p] H Q := ⟨p, ys, rfl, .inr h, fun l hl => k l _ hl (Ext.new hl) upd_same⟩
theorem r_sum {p : Addr} {ns : List Int} (h : SqL K H p (ns.map V.int)) (k : Q (.int ns.sum) H) : rSum K [.ref p] H Q := ⟨p, ns, rfl, h, k⟩
theorem r_slL {p : Addr} {xs : List V} {lo hi : Option Int} (h : SqL K H p xs) (k : ∀ l H', H l = none → Ext H H' → H' l = some (.lst (cutV xs lo hi)) → Q (.ref l) H') : rSlL K (.ref p) lo hi H Q := ⟨p, xs, rfl, h, fun l hl => k l _ hl (Ext.new hl) upd_same⟩
theorem r_catL {l b : Addr} {xs zs : List V} (h1 : H l = some (.lst xs)) (h2 : H b = some (.lst zs)) (hz : xs.length + zs.length ≤ 100000) (k : ∀ p H', H p = none → Ext H H' → H' p = some (.lst (xs ++ zs)) → Q (.ref p) H') : rPlus K (.ref l) (.ref b) H Q :=
  .inr (.inl ⟨l, b, xs, zs, rfl, rfl, h1, h2, Nat.le_trans hz (by decide), fun p hp => k p _ hp (Ext.new hp) upd_same⟩)
theorem r_popAt {l : Addr} {xs : List V} {i : Int} {j : Nat} {v : V} (h : H l = some (.lst xs)) (ei : i = (j : Int)) (hj : j < 100000) (e : xs[j]? = some v) (k : ∀ H', H' l = some (.lst (xs.eraseIdx j)) → (∀ b, b ≠ l → H' b = H b) → Q v H') : rPopAt (.ref l) [.int i] H Q := by
  subst ei
  have hl : j < xs.length := (List.getElem?_eq_some_iff.mp e).1
  exact ⟨l, xs, (j : Int), j, v, rfl, rfl, h, by omega, by omega, seqIndex_of (by omega) (by omega), e, k _ upd_same fun b hb => upd_ne hb⟩
theorem r_pow {i j : Int} (h : 0 ≤ j ∧ j ≤ 1000000 ∧ i.natAbs < 2 ^ 64) (k : Q (.int (i ^ j.toNat)) H) : rI CPow (fun i j => .int (i ^ j.toNat)) (.int i) (.int j) H Q := ⟨i, j, rfl, rfl, h, k⟩
theorem r_mod {i j : Int} (h : 0 < j) (k : Q (.int (i % j)) H) : rI (fun _ j => 0 < j) (fun i j => .int (i % j)) (.int i) (.int j) H Q := ⟨i, j, rfl, rfl, h, k⟩
theorem r_div {i j : Int} (h : CDivW i j) (k : Q (.int (i / j)) H) : rI CDivW (fun i j => .int (i / j)) (.int i) (.int j) H Q := ⟨i, j, rfl, rfl, h, k⟩
end
end L3
set_option maxRecDepth 100000
set_option maxHeartbeats 4000000
/-! CmF: loops and comprehensions, read by an invariant. -/
namespace L3
open PySem PySem.Spec PyProof.Rows L2 He
def ForW (J : It) (g : TG) (tb : TS) (D : Ends) (σ : L2.St) (H1 : Hp) : Prop := ∃ W : Nat → Nat → L2.St → Hp → Prop, (∃ m, W 0 m σ H1) ∧ ∀ i m σ H, W i m σ H →
  (J.stop i H ∧ D.nx σ H) ∨ (J.go i H ∧ ∃ N : L2.St → Hp → Prop, (∀ σ' H', N σ' H' → ∃ m', m' < m ∧ W (i + 1) m' σ' H') ∧ ∀ x H', J.yld i H x H' → g x σ H' fun σ2 H2 => tb { D with nx := N, ct := N, bk := D.nx } σ2 H2)
def LcW (J : It) (g : TG) (tt : TT) (te : TE) (vs : List Nat) (σ : L2.St) (D : Addr) (Qd : Hp → Prop) (H1 : Hp) : Prop := ∃ W : Nat → Nat → Hp → Prop, (∃ m, W 0 m (upd H1 D (.lst []))) ∧ ∀ i m H, W i m H →
  (J.stop i H ∧ Qd H) ∨ (J.go i H ∧ ∃ Nx : Hp → Prop, (∀ H', Nx H' → ∃ m', m' < m ∧ W (i + 1) m' H') ∧ ∀ x H', J.yld i H x H' → g x (wipe σ vs) H' fun σ2 H2 => wipe σ2 vs = wipe σ vs ∧ tt σ2 H2 fun b H3 =>
    if b = true then te σ2 H3 fun y H4 => ∃ acc, H4 D = some (.lst acc) ∧ acc.length < sizeLine ∧ Nx (upd H4 D (.lst (acc ++ [y]))) else Nx H3)
section
variable {σ : L2.St} {H : Hp} {D : Ends} {K : PySem.W.Frag} {g : TG} {tb : TS} {wi : TI} {ta : TA} {tl te : TE} {tt : TT} {R : It → Hp → Prop} {nx bk ct : L2.St → Hp → Prop} {rt : VK} {Q : VK}
theorem r_for (k : wi σ H fun J H1 => ForW J g tb D σ H1) : tFor wi g tb D σ H := k
theorem r_lc {vs : List Nat} (k : wi σ H fun J H1 => ∀ D, H1 D = none → LcW J g tt te vs σ D (fun H => Q (.ref D) H) H1) : tLc wi g tt te vs σ H Q := k
def Rg1 (vs : List V) (H1 : Hp) (R : It → Hp → Prop) : Prop := ∃ j : Int, vs = [.int j] ∧ -(2 ^ 62) ≤ j ∧ j < 2 ^ 62 ∧ R (Itr 0 j.toNat) H1
def Rg2 (vs : List V) (H1 : Hp) (R : It → Hp → Prop) : Prop := ∃ i j : Int, vs = [.int i, .int j] ∧ (-(2 ^ 62) ≤ i ∧ i < 2 ^ 62 ∧ -(2 ^ 62) ≤ j ∧ j < 2 ^ 62) ∧ R (Itr i (j - i).toNat) H1
def LiI (K : PySem.W.Frag) (x : V) (H1 : Hp) (R : It → Hp → Prop) : Prop := ∃ a, x = .ref a ∧ (∃ xs, SqL K H1 a xs) ∧ R (Itl K a) H1
def TiI (K : PySem.W.Frag) (x : V) (H1 : Hp) (R : It → Hp → Prop) : Prop := ∃ a, x = .ref a ∧ (∃ xs, SqT K H1 a xs) ∧ R (Itt K a) H1
theorem r_iR1 (k : ta σ H fun vs H1 => Rg1 vs H1 R) : iRng1 ta σ H R := k
theorem r_rg1 {j : Int} (h : -(2 ^ 62) ≤ j ∧ j < 2 ^ 62) (k : R (Itr 0 j.toNat) H) : Rg1 [V.int j] H R := ⟨j, rfl, h.1, h.2, k⟩
theorem r_iR2 (k : ta σ H fun vs H1 => Rg2 vs H1 R) : iRng2 ta σ H R := k
theorem r_rg2 {i j : Int} (h : -(2 ^ 62) ≤ i ∧ i < 2 ^ 62 ∧ -(2 ^ 62) ≤ j ∧ j < 2 ^ 62) (k : R (Itr i (j - i).toNat) H) : Rg2 [V.int i, V.int j] H R := ⟨i, j, rfl, h, k⟩
theorem r_iL (k : tl σ H fun x H1 => LiI K x H1 R) : iList K tl σ H R := k
theorem r_iT (k : tl σ H fun x H1 => TiI K x H1 R) : iTup K tl σ H R := k
theorem r_li {a : Addr} {xs : List V} (h : SqL K H a xs) (k : R (Itl K a) H) : LiI K (.ref a) H R := ⟨a, rfl, ⟨xs, h⟩, k⟩
theorem r_ti {a : Addr} {xs : List V} (h : SqT K H a xs) (k : R (Itt K a) H) : TiI K (.ref a) H R := ⟨a, rfl, ⟨xs, h⟩, k⟩
/-- for over a range: Pv of the turn, the slots, the heap -/
theorem forW_range {lo : Int} {n : Nat} (Pv : Nat → L2.St → Hp → Prop) (h0 : Pv 0 σ H) (hs : ∀ i σ H, i < n → Pv i σ H → g (.int (lo + i)) σ H fun σ2 H2 => tb ⟨Pv (i + 1), rt, nx, Pv (i + 1)⟩ σ2 H2) (hd : ∀ σ H, Pv n σ H → nx σ H) : ForW (Itr lo n) g tb ⟨nx, rt, bk, ct⟩ σ H :=
  for_range (D := ⟨nx, rt, bk, ct⟩) Pv h0 hs hd
theorem forW_list {a : Addr} {xs : List V} (Pv : Nat → L2.St → Hp → Prop) (h0 : Pv 0 σ H) (hl : ∀ i σ H, i ≤ xs.length → Pv i σ H → SqL K H a xs) (hs : ∀ i x σ H, xs[i]? = some x → Pv i σ H → g x σ H fun σ2 H2 => tb ⟨Pv (i + 1), rt, nx, Pv (i + 1)⟩ σ2 H2)
    (hd : ∀ σ H, Pv xs.length σ H → nx σ H) : ForW (Itl K a) g tb ⟨nx, rt, bk, ct⟩ σ H := for_list (D := ⟨nx, rt, bk, ct⟩) Pv h0 hl hs hd
theorem forW_tup {a : Addr} {xs : List V} (Pv : Nat → L2.St → Hp → Prop) (h0 : Pv 0 σ H) (hl : ∀ i σ H, i ≤ xs.length → Pv i σ H → SqT K H a xs) (hs : ∀ i x σ H, xs[i]? = some x → Pv i σ H → g x σ H fun σ2 H2 => tb ⟨Pv (i + 1), rt, nx, Pv (i + 1)⟩ σ2 H2)
    (hd : ∀ σ H, Pv xs.length σ H → nx σ H) : ForW (Itt K a) g tb ⟨nx, rt, bk, ct⟩ σ H := for_tup (D := ⟨nx, rt, bk, ct⟩) Pv h0 hl hs hd
/-- while, by a word that falls -/
theorem whileW {c : TT} (W : Nat → L2.St → Hp → Prop) (m0 : Nat) (h0 : W m0 σ H)
    (hs : ∀ m σ H, W m σ H → c σ H fun b H1 => if b = true then ∃ N : L2.St → Hp → Prop, (∀ σ' H', N σ' H' → ∃ m', m' < m ∧ W m' σ' H') ∧ tb ⟨N, rt, nx, N⟩ σ H1 else nx σ H1) : tWhile c tb ⟨nx, rt, bk, ct⟩ σ H := ⟨W, ⟨m0, h0⟩, hs⟩
theorem r_N {W : Nat → L2.St → Hp → Prop} {m : Nat} (k : tb ⟨fun σ' H' => ∃ m', m' < m ∧ W m' σ' H', rt, nx, fun σ' H' => ∃ m', m' < m ∧ W m' σ' H'⟩ σ H) :
    ∃ N : L2.St → Hp → Prop, (∀ σ' H', N σ' H' → ∃ m', m' < m ∧ W m' σ' H') ∧ tb ⟨N, rt, nx, N⟩ σ H := ⟨_, fun _ _ h => h, k⟩
theorem r_gname {i : Nat} {v : V} {P : L2.St → Hp → Prop} (k : P (σ.set i (some v)) H) : gName i v σ H P := k
theorem r_gtup {n : Nat} {t : TGs} {a : Addr} {xs : List V} {P : L2.St → Hp → Prop} (h : SqT K H a xs) (hn : xs.length = n) (k : t xs σ H P) : gTup K n t (.ref a) σ H P := ⟨a, xs, rfl, h, hn, k⟩
theorem r_glst {n : Nat} {t : TGs} {a : Addr} {xs : List V} {P : L2.St → Hp → Prop} (h : SqL K H a xs) (hn : xs.length = n) (k : t xs σ H P) : gLst K n t (.ref a) σ H P := ⟨a, xs, rfl, h, hn, k⟩
theorem r_gcons {t : TG} {u : TGs} {v : V} {r : List V} {P : L2.St → Hp → Prop} (k : t v σ H fun σ' H' => u r σ' H' P) : gCons t u (v :: r) σ H P := ⟨v, r, rfl, k⟩
theorem r_gnil {P : L2.St → Hp → Prop} (k : P σ H) : gNil [] σ H P := ⟨rfl, k⟩
/-! comprehensions -/
theorem lcW_range {lo : Int} {n : Nat} {vs : List Nat} {Dl : Addr} {Qd : Hp → Prop} (Pv : Nat → Hp → Prop) (h0 : Pv 0 (upd H Dl (.lst []))) (hs : ∀ i H, i < n → Pv i H → g (.int (lo + i)) (wipe σ vs) H fun σ2 H2 => wipe σ2 vs = wipe σ vs ∧ tt σ2 H2 fun b H3 =>
      if b = true then te σ2 H3 fun y H4 => ∃ acc, H4 Dl = some (.lst acc) ∧ acc.length < sizeLine ∧ Pv (i + 1) (upd H4 Dl (.lst (acc ++ [y]))) else Pv (i + 1) H3) (hd : ∀ H, Pv n H → Qd H) : LcW (Itr lo n) g tt te vs σ Dl Qd H := lc_range Pv h0 hs hd
theorem lcW_list {a : Addr} {xs : List V} {vs : List Nat} {Dl : Addr} {Qd : Hp → Prop} (Pv : Nat → Hp → Prop) (h0 : Pv 0 (upd H Dl (.lst []))) (hl : ∀ i H, i ≤ xs.length → Pv i H → SqL K H a xs)
    (hs : ∀ i x H, xs[i]? = some x → Pv i H → g x (wipe σ vs) H fun σ2 H2 => wipe σ2 vs = wipe σ vs ∧ tt σ2 H2 fun b H3 =>
      if b = true then te σ2 H3 fun y H4 => ∃ acc, H4 Dl = some (.lst acc) ∧ acc.length < sizeLine ∧ Pv (i + 1) (upd H4 Dl (.lst (acc ++ [y]))) else Pv (i + 1) H3) (hd : ∀ H, Pv xs.length H → Qd H) : LcW (Itl K a) g tt te vs σ Dl Qd H := lc_list Pv h0 hl hs hd
/-- what has been made so far: one value a turn -/
structure LcP (H1 : Hp) (Dl : Addr) (f : Nat → V) (i : Nat) (H' : Hp) : Prop where
  e : Ext H1 H'
  d : H' Dl = some (.lst ((List.range i).map f))
theorem LcP.start {H1 : Hp} {Dl : Addr} {f : Nat → V} (hD : H1 Dl = none) : LcP H1 Dl f 0 (upd H1 Dl (.lst [])) := ⟨Ext.new hD, upd_same⟩
theorem LcP.push {H1 H' H4 : Hp} {Dl : Addr} {f : Nat → V} {i : Nat} {y : V} (p : LcP H1 Dl f i H') (hD : H1 Dl = none) (hi : i < 100000) (e : Ext H' H4) (ey : y = f i) : ∃ acc, H4 Dl = some (.lst acc) ∧ acc.length < sizeLine ∧ LcP H1 Dl f (i + 1) (upd H4 Dl (.lst (acc ++ [y]))) := by
  refine ⟨_, e _ _ p.d, ?_, Ext.mut (p.e.trans e) hD, ?_⟩
  · rw [List.length_map, List.length_range]
    exact Nat.lt_of_lt_of_le hi (by decide)
  · rw [upd_same, List.range_succ, List.map_append, ey]
    rfl
theorem r_yes {P : Bool → Hp → Prop} (k : P true H) : tYes σ H P := k
theorem r_lcW {vs : List Nat} {σ2 : L2.St} {P : Prop} (e : wipe σ2 vs = wipe σ vs) (k : P) : wipe σ2 vs = wipe σ vs ∧ P := ⟨e, k⟩
end
end L3
namespace L3
open PySem PySem.Spec PyProof.Rows L2 He
/-- a statement, then the rest, with a word between -/
theorem r_cut {t u : TS} {nx bk ct : L2.St → Hp → Prop} {rt : VK} {σ : L2.St} {H : Hp} (M : L2.St → Hp → Prop) (h1 : t ⟨M, rt, bk, ct⟩ σ H) (h2 : ∀ σ' H', M σ' H' → u ⟨nx, rt, bk, ct⟩ σ' H') : C8.tCut t u ⟨nx, rt, bk, ct⟩ σ H := ⟨M, h1, h2⟩
theorem ifI {b : Bool} {x y : Int} {Q : VK} {H : Hp} (k : Q (.int (if b = true then x else y)) H) : if b = true then Q (.int x) H else Q (.int y) H := by cases b <;> exact k
end L3
namespace L3
open PySem PySem.Spec PyProof.Rows L2 He
theorem cut_to (xs : List V) (k : Nat) : cutV xs none (some (k : Int)) = xs.take k := by
  unfold cutV
  rw [HT.sIx_none, HT.sIx_nat, List.drop_zero, Nat.sub_zero]
  by_cases h : k ≤ xs.length
  · rw [Nat.min_eq_left h]
  · rw [Nat.min_eq_right (by omega), List.take_of_length_le (Nat.le_refl _), List.take_of_length_le (by omega)]
theorem cut_from (xs : List V) (k : Nat) : cutV xs (some (k : Int)) none = xs.drop k := by
  unfold cutV
  rw [HT.sIx_none, HT.sIx_nat]
  by_cases h : k ≤ xs.length
  · rw [Nat.min_eq_left h, List.take_of_length_le (by rw [List.length_drop] <;> omega)]
  · rw [Nat.min_eq_right (Nat.le_of_lt (Nat.lt_of_not_le h)), List.drop_of_length_le (Nat.le_refl _), List.drop_of_length_le (Nat.le_of_lt (Nat.lt_of_not_le h)), List.take_nil]
theorem cut_at (xs : List V) (i j : Nat) : cutV xs (some (i : Int)) (some (j : Int)) = (xs.drop i).take (j - i) := by
  unfold cutV
  rw [HT.sIx_nat, HT.sIx_nat]
  by_cases h : i ≤ xs.length
  · rw [Nat.min_eq_left h]
    by_cases h2 : j ≤ xs.length
    · rw [Nat.min_eq_left h2]
    · rw [Nat.min_eq_right (by omega), List.take_of_length_le (by rw [List.length_drop] <;> omega), List.take_of_length_le (by rw [List.length_drop] <;> omega)]
  · rw [Nat.min_eq_right (a := i) (Nat.le_of_lt (Nat.lt_of_not_le h)), List.drop_of_length_le (Nat.le_refl _), List.drop_of_length_le (Nat.le_of_lt (Nat.lt_of_not_le h)), List.take_nil, List.take_nil]
theorem range_ints (ns : List Int) (g : Int → Int) : (List.range ns.length).map (fun i => V.int (g (ns.getD i 0))) = (ns.map g).map V.int := by
  apply List.ext_getElem
  · simp
  · intro i h1 h2
    simp at h1 h2 ⊢
    simp [h1]
theorem ints_get {ns : List Int} {i : Nat} {x : V} (h : (ns.map V.int)[i]? = some x) : i < ns.length ∧ x = .int (ns.getD i 0) := by
  rw [List.getElem?_map] at h
  cases e : ns[i]? with
  | none => rw [e] at h; cases h
  | some z =>
    rw [e] at h
    obtain ⟨h1, h2⟩ := List.getElem?_eq_some_iff.mp e
    refine ⟨h1, ?_⟩
    have : x = .int z := (Option.some.inj h).symm
    rw [this, List.getD_eq_getElem?_getD, e]
    rfl
end L3
namespace L3
open PySem PySem.Spec PyProof.Rows L2 He
/-- x if c else y, both written ints; if b then .. -/
def IfI (b : Bool) (x y : Int) (H : Hp) (Q : VK) : Prop := Q (.int (if b = true then x else y)) H
theorem mono_ifC {b : Bool} {x y : Int} {H : Hp} {Q : VK} (k : IfI b x y H Q) : if b = true then tC (.int x) [] H Q else tC (.int y) [] H Q := by cases b <;> exact k
def tIfC (c : TT) (x y : Int) : TE := fun σ H Q => c σ H fun b H1 => IfI b x y H1 Q
theorem r_ifI {b : Bool} {x y : Int} {H : Hp} {Q : VK} (k : Q (.int (if b = true then x else y)) H) : IfI b x y H Q := k
theorem tIfC_eq (c : TT) (x y : Int) : tIfC c x y = tIf c (tC (.int x)) (tC (.int y)) := by
  funext σ H Q
  unfold tIfC tIf IfI tC
  have e : (fun (b : Bool) (H1 : Hp) => Q (.int (if b = true then x else y)) H1) = fun b H1 => if b = true then Q (.int x) H1 else Q (.int y) H1 := by
    funext b H1
    cases b <;> rfl
  rw [e]
theorem r_ifC {c : TT} {x y : Int} {σ : L2.St} {H : Hp} {Q : VK} (k : c σ H fun b H1 => IfI b x y H1 Q) : tIf c (tC (.int x)) (tC (.int y)) σ H Q := by
  rw [← tIfC_eq]
  exact k
end L3
set_option maxRecDepth 100000
set_option maxHeartbeats 4000000
/-! CmG: sources of draws; what stays when one object changes. -/
namespace L3
open PySem PySem.Spec PyProof.Rows L2 He
/-- a source of draws: three ints -/
def Src (H : Hp) (p : Addr) : Prop := ∃ a b c : Int, H p = some (.lst [.int a, .int b, .int c])
theorem Src.ext {H H' : Hp} {p : Addr} (s : Src H p) (e : Ext H H') : Src H' p := by obtain ⟨a, b, c, h⟩ := s; exact ⟨a, b, c, e _ _ h⟩
def spSource (K : PySem.W.Frag) : Sp := fun vs H Q _ => ∃ (a : Addr) (ns : List Int) (t : Nat), vs = [.ref a, .int t] ∧ SqL K H a (ns.map V.int) ∧ ns.length ≤ 63 ∧ t ≤ 1000 ∧ ∀ p H', H p = none → Ext H H' → Src H' p → Q (.ref p) H'
theorem pos128 : (0 : Int) < 10 ^ (64 : Int).toNat * 10 ^ (64 : Int).toNat := by decide
theorem bd128 : ((10 : Int) ^ (64 : Int).toNat).natAbs < 2 ^ 250 := by decide
theorem bd31 (x : Int) : 0 ≤ x % 2147483629 ∧ x % 2147483629 < 2147483629 := ⟨Int.emod_nonneg _ (by decide), Int.emod_lt_of_pos _ (by decide)⟩
/-- a draw below many: any number below it, only the source changes -/
def spPick : Sp := fun vs H Q _ => ∃ (p : Addr) (m : Int), vs = [.ref p, .int m] ∧ Src H p ∧ 0 < m ∧ m < 2 ^ 250 ∧ ∀ r H', 0 ≤ r → r < m → Src H' p → (∀ b, b ≠ p → H' b = H b) → Q (.int r) H'
/-- an address b of the heap stays when only p changes -/
theorem stay {H H' : Hp} {p b : Addr} {o : HO} (n : ∀ b, b ≠ p → H' b = H b) (hb : b ≠ p) (h : H b = some o) : H' b = some o := (n b hb).trans h
/-- all but p as it was -/
def But (p : Addr) (H H' : Hp) : Prop := ∀ b o, b ≠ p → H b = some o → H' b = some o
theorem But.rfl {p : Addr} {H : Hp} : But p H H := fun _ _ _ h => h
theorem But.of {p : Addr} {H H' : Hp} (n : ∀ b, b ≠ p → H' b = H b) : But p H H' := fun b o hb h => (n b hb).trans h
theorem But.ext {p : Addr} {H H1 H2 : Hp} (b : But p H H1) (e : Ext H1 H2) : But p H H2 := fun c o hc h => e _ _ (b c o hc h)
theorem ext_but {p : Addr} {H H1 : Hp} (e : Ext H H1) : But p H H1 := fun c o _ h => e _ _ h
theorem But.trans {p : Addr} {H H1 H2 : Hp} (a : But p H H1) (b : But p H1 H2) : But p H H2 := fun c o hc h => b c o hc (a c o hc h)
theorem But.mut {p q : Addr} {H H1 H2 : Hp} (a : But p H H1) (hq : H q = none) (n : ∀ b, b ≠ q → H2 b = H1 b) : But p H H2 := fun c o hc h => (n c (ne_of_none h hq)).trans (a c o hc h)
theorem But.l {K : PySem.W.Frag} {p a : Addr} {H H' : Hp} {xs : List V} (b : But p H H') (ha : a ≠ p) (h : SqL K H a xs) : SqL K H' a xs := by
  rcases h with (h | ⟨o, h⟩) | h
  · exact .inl (.inl (b _ _ ha h))
  · exact .inl (.inr ⟨o, b _ _ ha h⟩)
  · exact .inr h
theorem sq_ne {K : PySem.W.Frag} {p a : Addr} {H : Hp} {xs ys : List V} (h : H p = some (.lst ys)) (ha : SqL K H a xs) (e : xs ≠ ys) : a ≠ p ∨ ∃ o, K.lookup a = some o := by
  rcases ha with (q | ⟨o, q⟩) | ⟨o, _, _, q, _⟩
  · refine .inl fun z => ?_
    rw [z, h] at q
    exact e (by injection (Option.some.inj q) with z; exact z.symm)
  · refine .inl fun z => ?_
    rw [z, h] at q
    cases q
  · exact .inr ⟨o, q⟩
theorem src_ne {p q : Addr} {H : Hp} (s : Src H p) (h : H q = none) : p ≠ q := by
  obtain ⟨a, b, c, e⟩ := s
  exact ne_of_none e h
theorem eraseIdx_perm {α : Type} : ∀ {xs : List α} {j : Nat} {x : α}, xs[j]? = some x → (x :: xs.eraseIdx j).Perm xs
  | [], j, x, h => by simp at h
  | y :: xs, 0, x, h => by simp at h; subst h; exact .refl _
  | y :: xs, j + 1, x, h => by
    have h' : xs[j]? = some x := by simpa using h
    show (x :: y :: xs.eraseIdx j).Perm (y :: xs)
    exact (List.Perm.swap _ _ _).trans ((eraseIdx_perm h').cons y)
def spShuf (K : PySem.W.Frag) : Sp := fun vs H Q _ => ∃ (p t : Addr) (xs : List V), vs = [.ref p, .ref t] ∧ Src H p ∧ SqL K H t xs ∧ xs.length ≤ 10000 ∧
  ∀ q H' (ys : List V), H q = none → ys.Perm xs → Src H' p → H' q = some (.lst ys) → But p H H' → Q (.ref q) H'
end L3
set_option maxRecDepth 100000
set_option maxHeartbeats 4000000
/-! CmH: data of any depth; isinstance of it. -/
namespace L3
open PySem PySem.Spec PyProof.Rows L2 He
theorem pe_ty {X : Cx} {n : String} {pos : Pos} (hm : X.mg (Str.ofString n) = none) (hg : Gl X (Str.ofString n) := by rfl) (hv : bootBuiltins (Str.ofString n) = some (.type n) := by decide +kernel) (hn : Str.ofString n ≠ "__name__" := by decide) (hd : (Str.ofString n == ("__debug__" : Str)) = false := by decide) :
    PE X (.Name (Str.ofString n) pos) (tC (.ty n)) := pe_bltn hg hm hv rfl hn hd
/-- a def's promise that asks what cannot be -/
theorem calG_false {P : Program} {w : World} {K : PySem.W.Frag} {mg : Str → Option Value} {base : Heap} {k : Nat} {x : Str} {st : Stmt} {ps : List Str} (hg : mg x = some (.ref (ga K x))) (D : ∃ fd, FunD K x x (defArgs st) (defBody st) (defScope st) [] [] (ga K x) fd)
    (hb : ∀ (dV kV doc pm : Value) (an : Option Addr) (cdv ct : Value) (us : List Value), us.length = ps.length → bindArgs (PySem.W.fnOf x x (defArgs st) (defBody st) (defScope st) .none kV doc pm an cdv ct) ⟨us, []⟩ = pure (ps.zip us)) : CalG P w K mg base k x ps (fun _ _ _ _ => False) := by
  obtain ⟨fd, F⟩ := D
  exact ⟨hg, ⟨fd, ⟨fun _ _ _ _ z => z.elim, fun _ _ _ _ _ _ _ _ _ _ _ _ _ z => z.elim⟩, F.bindsN fun kV doc pm an cdv ct us hl => hb .none kV doc pm an cdv ct us hl⟩, F.kp⟩
section
variable {K : PySem.W.Frag} {H H' : Hp}
mutual
theorem Ext.dp (e : Ext H H') : ∀ (d : PyData) {x : V}, Dp K H x d → Dp K H' x d
  | .none, _, .non => .non
  | .bool b, _, .bl _ => .bl b
  | .int i, _, .int _ => .int i
  | .str s, _, .str _ => .str s
  | .list ds, _, .lst h hs => .lst (e.l h) (Ext.dps e ds hs)
  | .tuple ds, _, .tup h hs => .tup (e.tu h) (Ext.dps e ds hs)
theorem Ext.dps (e : Ext H H') : ∀ (ds : List PyData) {xs : List V}, DpAll K H xs ds → DpAll K H' xs ds
  | [], _, .nil => .nil
  | d :: ds, _, .cons h hs => .cons (Ext.dp e d h) (Ext.dps e ds hs)
end
theorem dps_len : ∀ {xs : List V} {ds : List PyData}, DpAll K H xs ds → xs.length = ds.length
  | _, _, .nil => rfl
  | _, _, .cons _ h => by rw [List.length_cons, List.length_cons, dps_len h]
theorem dps_get : ∀ {xs : List V} {ds : List PyData} {i : Nat} {d : PyData}, DpAll K H xs ds → ds[i]? = some d → ∃ x, xs[i]? = some x ∧ Dp K H x d
  | _, _, i, d, .nil, e => by simp at e
  | _, _, 0, d, .cons h _, e => by simp at e; subst e; exact ⟨_, rfl, h⟩
  | _, _, i + 1, d, .cons _ h, e => by
    obtain ⟨x, e1, h1⟩ := dps_get (i := i) h (by simpa using e)
    exact ⟨x, by simpa using e1, h1⟩
theorem dps_ints : ∀ (ns : List Int), DpAll K H (ns.map V.int) (ns.map PyData.int)
  | [] => .nil
  | n :: ns => .cons (.int n) (dps_ints ns)
theorem dps_append : ∀ {xs ys : List V} {ds es : List PyData}, DpAll K H xs ds → DpAll K H ys es → DpAll K H (xs ++ ys) (ds ++ es)
  | _, _, _, _, .nil, h => h
  | _, _, _, _, .cons h t, g => .cons h (dps_append t g)
/-- the type's name -/
def tyD : PyData → String
  | .none => "NoneType"
  | .bool _ => "bool"
  | .int _ => "int"
  | .str _ => "str"
  | .list _ => "list"
  | .tuple _ => "tuple"
  | .dict _ => "dict"
theorem dp_ty {x : V} {d : PyData} (h : Dp K H x d) : TyX K H x (.type (tyD d)) := by
  cases h with
  | non => exact .base .non
  | bl b => exact .base (.bl b)
  | int i => exact .base (.int i)
  | str s => exact .base (.str s)
  | lst h _ =>
    rcases h with (h | ⟨o, h⟩) | ⟨o, _, _, h, c, _⟩
    · exact .base (.lst h)
    · exact .base (.frz h)
    · exact .kList h c
  | tup h _ =>
    rcases h with (h | ⟨o, h⟩) | ⟨o, _, _, h, c, _⟩
    · exact .base (.tup h)
    · exact .fTuple h
    · exact .kTuple h c
def tys : List String := ["NoneType", "bool", "int", "str", "list", "tuple"]
def isB (a b : String) : Bool := decide (a = b) || (decide (a = "bool") && decide (b = "int"))
theorem kit6 : ∀ a ∈ tys, ∀ b ∈ ["list", "tuple", "dict", "bool", "str", "int"], kitB a b = some (isB a b) := by decide +kernel
theorem ty_in {x : V} {d : PyData} (h : Dp K H x d) : tyD d ∈ tys := by cases h <;> simp [tyD, tys]
theorem kit_is {x : V} {d : PyData} (h : Dp K H x d) {b : String} (hb : b ∈ ["list", "tuple", "dict", "bool", "str", "int"]) : PySem.W.kitOne K (.type (tyD d)) (.type b) = some (isB (tyD d) b) := kit_ty (kit6 _ (ty_in h) _ hb)
variable {Q : VK}
/-- isinstance(x, T) -/
theorem r_isi {x : V} {d : PyData} {b : String} (h : Dp K H x d) (hb : b ∈ ["list", "tuple", "dict", "bool", "str", "int"]) (k : Q (.bl (isB (tyD d) b)) H) : rIsi K [x, .ty b] H Q := ⟨x, _, _, _, _, rfl, .ty b, dp_ty h, kit_is h hb, k⟩
theorem kitAny2 {a b c : String} {p q : Bool} (h1 : PySem.W.kitOne K (.type a) (.type b) = some p) (h2 : PySem.W.kitOne K (.type a) (.type c) = some q) : PySem.W.kitAny K (.type a) [.type b, .type c] = some (p || q) := by
  unfold PySem.W.kitAny
  rw [h1]
  cases p
  · show PySem.W.kitAny K (.type a) [.type c] = some q
    unfold PySem.W.kitAny
    rw [h2]
    cases q <;> rfl
  · rfl
theorem kitAny3 {a b c d : String} {p q r : Bool} (h1 : PySem.W.kitOne K (.type a) (.type b) = some p) (h2 : PySem.W.kitOne K (.type a) (.type c) = some q) (h3 : PySem.W.kitOne K (.type a) (.type d) = some r) : PySem.W.kitAny K (.type a) [.type b, .type c, .type d] = some (p || (q || r)) := by
  unfold PySem.W.kitAny
  rw [h1]
  cases p
  · show PySem.W.kitAny K (.type a) [.type c, .type d] = some (q || r)
    exact kitAny2 h2 h3
  · rfl
/-- isinstance(x, (T, U)) -/
theorem r_isi2 {x : V} {d : PyData} {b c : String} {t : Addr} (h : Dp K H x d) (ht : H t = some (.tup [.ty b, .ty c])) (hb : b ∈ ["list", "tuple", "dict", "bool", "str", "int"]) (hc : c ∈ ["list", "tuple", "dict", "bool", "str", "int"])
    (k : Q (.bl (isB (tyD d) b || isB (tyD d) c)) H) : rIsiT K [x, .ref t] H Q := ⟨x, t, _, _, _, _, rfl, ht, .cons (.ty b) (.cons (.ty c) .nil), dp_ty h, kitAny2 (kit_is h hb) (kit_is h hc), k⟩
theorem r_isi3 {x : V} {d : PyData} {b c e : String} {t : Addr} (h : Dp K H x d) (ht : H t = some (.tup [.ty b, .ty c, .ty e])) (hb : b ∈ ["list", "tuple", "dict", "bool", "str", "int"]) (hc : c ∈ ["list", "tuple", "dict", "bool", "str", "int"]) (he : e ∈ ["list", "tuple", "dict", "bool", "str", "int"])
    (k : Q (.bl (isB (tyD d) b || (isB (tyD d) c || isB (tyD d) e))) H) : rIsiT K [x, .ref t] H Q := ⟨x, t, _, _, _, _, rfl, ht, .cons (.ty b) (.cons (.ty c) (.cons (.ty e) .nil)), dp_ty h, kitAny3 (kit_is h hb) (kit_is h hc) (kit_is h he), k⟩
theorem r_all {p : Addr} {bs : List Bool} (h : SqL K H p (bs.map V.bl)) (k : Q (.bl (bs.all id)) H) : rAll K [.ref p] H Q := ⟨p, bs, rfl, h, k⟩
theorem r_any {p : Addr} {bs : List Bool} (h : SqL K H p (bs.map V.bl)) (k : Q (.bl (bs.any id)) H) : rAny K [.ref p] H Q := ⟨p, bs, rfl, h, k⟩
theorem r_isN1 {x : V} (k : Q (.bl (decide (x = .non))) H) : rIsN x .non H Q := ⟨rfl, k⟩
theorem r_notN1 {x : V} (k : Q (.bl (!decide (x = .non))) H) : rNotN x .non H Q := ⟨rfl, k⟩
end
end L3
set_option maxRecDepth 100000
set_option maxHeartbeats 4000000
/-! CmI: the rules with the written part named, so that a reading within a comprehension does not hang on its frame. -/
namespace L3
open PySem PySem.Spec PyProof.Rows L2 He
section
variable {X : Cx} {K : PySem.W.Frag}
theorem ixK (hK : X.K = K := by rfl) : IxR X (rAt K) := hK ▸ ix_at
theorem plusK (hK : X.K = K := by rfl) : OpR X (binaryOp .Add) (rPlus K) := hK ▸ op_plus
theorem sameK (hu : X.A.units + 64 < cLine) (hK : X.K = K := by rfl) : OpR X (compareOp .Eq) (rSame K) := hK ▸ op_same hu
theorem otherK (hu : X.A.units + 64 < cLine) (hK : X.K = K := by rfl) : OpR X (compareOp .NotEq) (rOther K) := hK ▸ op_other hu
theorem inK (hK : X.K = K := by rfl) : OpR X (compareOp .In) (rIn K false) := hK ▸ op_in_seq
theorem notInK (hK : X.K = K := by rfl) : OpR X (compareOp .NotIn) (rIn K true) := hK ▸ op_notIn_seq
theorem lenK (hK : X.K = K := by rfl) : CallR X (.builtin "len") (LenS K) := hK ▸ cr_len
theorem isiK (hK : X.K = K := by rfl) : CallR X (.builtin "isinstance") (rIsi K) := hK ▸ call_isi
theorem isiTK (hK : X.K = K := by rfl) : CallR X (.builtin "isinstance") (rIsiT K) := hK ▸ call_isiT
theorem listK (hK : X.K = K := by rfl) : CallR X (.type "list") (ListS K) := hK ▸ cr_list
def TupS (K : PySem.W.Frag) : List V → Hp → VK → Prop := fun xs H Q => ∃ p ys, xs = [.ref p] ∧ ((SqL K H p ys ∧ ∀ l, H l = none → Q (.ref l) (upd H l (.tup ys))) ∨ (SqT K H p ys ∧ Q (.ref p) H))
theorem tupK (hK : X.K = K := by rfl) : CallR X (.type "tuple") (TupS K) := hK ▸ call_tuple_of
theorem sumK (hc : X.calm = true) (hK : X.K = K := by rfl) : CallR X (.builtin "sum") (rSum K) := hK ▸ cr_sum hc
theorem maxK (hc : X.calm = true) (hK : X.K = K := by rfl) : CallR X (.builtin "max") (rMax K) := hK ▸ cr_max hc
theorem minK (hc : X.calm = true) (hK : X.K = K := by rfl) : CallR X (.builtin "min") (rMin K) := hK ▸ cr_min hc
theorem allK (hc : X.calm = true) (hK : X.K = K := by rfl) : CallR X (.builtin "all") (rAll K) := hK ▸ cr_all hc
theorem anyK (hc : X.calm = true) (hK : X.K = K := by rfl) : CallR X (.builtin "any") (rAny K) := hK ▸ cr_any hc
theorem sortedK (hK : X.K = K := by rfl) : CallR X (.builtin "sorted") (rSortedI K) := hK ▸ cr_sortedI
theorem slK (hK : X.K = K := by rfl) : SlR X (rSlL K) := hK ▸ sl_list
theorem kdictK (hK : X.K = K := by rfl) : IxR X (rIxD K X.w) := hK ▸ ix_kdict
theorem getLK (hK : X.K = K := by rfl) : PGet X (rGetL K) := hK ▸ get_list
theorem indexK (hK : X.K = K := by rfl) : MtR X "list.index" (rIndex K) := hK ▸ mt_index
theorem peBM {T : String} {r : V → List V → Hp → VK → Prop} {to : TE} {t : TA} {e : Expr} (h : PE X e (tBM X.K T r to t)) (hK : X.K = K := by rfl) : PE X e (tBM K T r to t) := hK ▸ h
theorem peBM0 {T : String} {r : V → List V → Hp → VK → Prop} {to : TE} {e : Expr} (h : PE X e (tBM0 X.K T r to)) (hK : X.K = K := by rfl) : PE X e (tBM0 K T r to) := hK ▸ h
theorem piL {tg l : Expr} {tl : TE} (hl : PE X l tl) (hK : X.K = K := by rfl) : PI X tg l (iList K tl) := hK ▸ pi_list hl
theorem piT {tg l : Expr} {tl : TE} (hl : PE X l tl) (hK : X.K = K := by rfl) : PI X tg l (iTup K tl) := hK ▸ pi_tup hl
theorem pgT {es : List Expr} {k : Nat} {t : TGs} {n : Nat} {pos : Pos} (h : PG X (.Tuple es k pos) (gTup X.K n t)) (hK : X.K = K := by rfl) : PG X (.Tuple es k pos) (gTup K n t) := hK ▸ h
theorem pgL {es : List Expr} {k : Nat} {t : TGs} {n : Nat} {pos : Pos} (h : PG X (.Tuple es k pos) (gLst X.K n t)) (hK : X.K = K := by rfl) : PG X (.Tuple es k pos) (gLst K n t) := hK ▸ h
end
end L3
namespace L3
open PySem PySem.Spec PyProof.Rows L2 He
section
variable {K : PySem.W.Frag} {H H' : Hp} {Q : VK}
theorem ite_nt {A B : Prop} (h : B) : if (!true) = true then A else B := h
theorem ite_nf {A B : Prop} (h : A) : if (!false) = true then A else B := h
/-- a list or a tuple of these -/
def Seq (K : PySem.W.Frag) (H : Hp) (a : Addr) (xs : List V) : Prop := SqL K H a xs ∨ SqT K H a xs
theorem Ext.sq {a : Addr} {xs : List V} (e : Ext H H') (h : Seq K H a xs) : Seq K H' a xs := h.elim (fun h => .inl (e.l h)) fun h => .inr (e.tu h)
theorem r_lenA {p : Addr} {ys : List V} {n : Int} (h : Seq K H p ys) (e : (ys.length : Int) = n) (k : Q (.int n) H) : LenS K [.ref p] H Q := ⟨p, ys, rfl, h, by rw [e]; exact k⟩
theorem r_atA {p : Addr} {xs : List V} {i : Int} {v : V} (h : Seq K H p xs) (e : atI xs i = some v) (k : Q v H) : rAt K (.ref p) (.int i) H Q := h.elim (fun h => r_atL h e k) fun h => r_atT h e k
def itemsD : PyData → List PyData
  | .list ds => ds
  | .tuple ds => ds
  | _ => []
theorem dp_seq {x : V} {d : PyData} (h : Dp K H x d) (c : (isB (tyD d) "list" || isB (tyD d) "tuple") = true) : ∃ a xs, x = .ref a ∧ Seq K H a xs ∧ DpAll K H xs (itemsD d) := by
  cases h with
  | lst h hs => exact ⟨_, _, rfl, .inl h, hs⟩
  | tup h hs => exact ⟨_, _, rfl, .inr h, hs⟩
  | _ => simp [isB, tyD] at c
/-- n deep at most, each list short -/
def smallD : Nat → PyData → Prop
  | 0, _ => False
  | n + 1, d => (itemsD d).length ≤ 100000 ∧ ∀ e ∈ itemsD d, smallD n e
theorem small_int (n : Nat) (i : Int) : smallD (n + 1) (.int i) := ⟨Nat.zero_le _, fun _ h => absurd h (List.not_mem_nil)⟩
theorem small_str (n : Nat) (i : Str) : smallD (n + 1) (.str i) := ⟨Nat.zero_le _, fun _ h => absurd h (List.not_mem_nil)⟩
theorem small_bool (n : Nat) (i : Bool) : smallD (n + 1) (.bool i) := ⟨Nat.zero_le _, fun _ h => absurd h (List.not_mem_nil)⟩
theorem small_none (n : Nat) : smallD (n + 1) .none := ⟨Nat.zero_le _, fun _ h => absurd h (List.not_mem_nil)⟩
theorem small_ints (n : Nat) {ns : List Int} (h : ns.length ≤ 100000) : smallD (n + 2) (.list (ns.map PyData.int)) := ⟨by show (ns.map PyData.int).length ≤ _; rw [List.length_map]; exact h, fun e he => by
  obtain ⟨i, _, rfl⟩ := List.mem_map.mp he
  exact small_int n i⟩
theorem small_tup {n : Nat} {ds : List PyData} (h : ds.length ≤ 100000) (k : ∀ e ∈ ds, smallD n e) : smallD (n + 1) (.tuple ds) := ⟨h, k⟩
theorem small_list {n : Nat} {ds : List PyData} (h : ds.length ≤ 100000) (k : ∀ e ∈ ds, smallD n e) : smallD (n + 1) (.list ds) := ⟨h, k⟩
theorem small_mono : ∀ {n m : Nat} {d : PyData}, n ≤ m → smallD n d → smallD m d
  | 0, _, _, _, h => h.elim
  | n + 1, m + 1, d, hm, h => ⟨h.1, fun e he => small_mono (by omega) (h.2 e he)⟩
/-- the same data twice -/
def spSame (K : PySem.W.Frag) (n : Nat) : Sp := fun vs H Q _ => ∃ (x y : V) (d : PyData), vs = [x, y] ∧ Dp K H x d ∧ Dp K H y d ∧ smallD n d ∧ ∀ H', Ext H H' → Q (.bl true) H'
theorem dp_flat {x : V} {d : PyData} (h : Dp K H x d) (c : (isB (tyD d) "list" || isB (tyD d) "tuple") = false) : (d = .none ∧ x = .non) ∨ ((isB (tyD d) "bool" || (isB (tyD d) "int" || isB (tyD d) "str")) = true ∧ x ≠ .non ∧ scal x x = true) := by
  cases h with
  | lst h hs => simp [isB, tyD] at c
  | tup h hs => simp [isB, tyD] at c
  | non => exact .inl ⟨rfl, rfl⟩
  | bl b => exact .inr ⟨by simp [isB, tyD], by simp, rfl⟩
  | int b => exact .inr ⟨by simp [isB, tyD], by simp, rfl⟩
  | str b => exact .inr ⟨by simp [isB, tyD], by simp, rfl⟩
theorem dp_det {x y : V} {d : PyData} (hx : Dp K H x d) (hy : Dp K H y d) (c : (isB (tyD d) "list" || isB (tyD d) "tuple") = false) : x = y := by
  cases hx <;> cases hy <;> first | rfl | simp [isB, tyD] at c
theorem dp_nodict {x : V} {d : PyData} (h : Dp K H x d) : isB (tyD d) "dict" = false := by cases h <;> simp [isB, tyD]
theorem bools_all (n : Nat) : ((List.range n).map fun _ => true).all id = true := by simp
theorem map_bl (n : Nat) : (List.range n).map (fun _ => V.bl true) = ((List.range n).map fun _ => true).map V.bl := by simp
end
end L3
namespace L3
open PySem PySem.Spec PyProof.Rows L2 He
/-- up to the line of sizes -/
theorem LcP.pushB {H1 H' H4 : Hp} {Dl : Addr} {f : Nat → V} {i : Nat} {y : V} (p : LcP H1 Dl f i H') (hD : H1 Dl = none) (hi : i < 16777216) (e : Ext H' H4) (ey : y = f i) : ∃ acc, H4 Dl = some (.lst acc) ∧ acc.length < sizeLine ∧ LcP H1 Dl f (i + 1) (upd H4 Dl (.lst (acc ++ [y]))) := by
  refine ⟨_, e _ _ p.d, ?_, Ext.mut (p.e.trans e) hD, ?_⟩
  · rw [List.length_map, List.length_range, sizeLine_eq]
    exact hi
  · rw [upd_same, List.range_succ, List.map_append, ey]
    rfl
end L3
namespace L3
open PySem PySem.Spec PyProof.Rows L2 He
/-! ### the def that tells an error, called in a suite -/
theorem Kits.yes {K : PySem.W.Frag} {b : Str} {xs : List Str} (k : Kits K b xs) {x : Str} (hx : x ∈ xs) : PySem.W.kitOne K (.ref (ga K x)) (.ref (ga K x)) = some true := by
  have h := k.kit x hx x hx
  rwa [show decide (x = x) = true from decide_eq_true rfl] at h
theorem Kits.no {K : PySem.W.Frag} {b : Str} {xs : List Str} (k : Kits K b xs) {x y : Str} (hx : x ∈ xs) (hy : y ∈ xs) (n : x ≠ y) : PySem.W.kitOne K (.ref (ga K x)) (.ref (ga K y)) = some false := by
  have h := k.kit x hx y hy
  rwa [show decide (x = y) = false from decide_eq_false n] at h
theorem r_isP {K : PySem.W.Frag} {D a dd C : Addr} {b : Bool} {fs : List (Str × V)} {H : Hp} {Q : VK} (hd : H dd = some (.xd fs)) (hk : PySem.W.kitOne K (.ref D) (.ref C) = some b) (k : Q (.bl b) H) : rIsP K D a dd [.ref a, .ref C] H Q :=
  ⟨_, .ref C, b, fs, rfl, hd, fun _ r => r, hk, k⟩
theorem r_isPV {K : PySem.W.Frag} {D a dd : Addr} {n : String} {b : Bool} {fs : List (Str × V)} {H : Hp} {Q : VK} (hd : H dd = some (.xd fs)) (hk : PySem.W.kitOne K (.ref D) (.type n) = some b) (k : Q (.bl b) H) : rIsP K D a dd [.ref a, .ty n] H Q :=
  ⟨_, .type n, b, fs, rfl, hd, fun _ r => r, hk, k⟩
theorem r_xp {D a dd : Addr} {f : Str} {te : TE} {σ : L2.St} {H : Hp} {Q : VK} (k : te σ H fun x H1 => x = .ref a ∧ ∃ (fs : List (Str × V)) (v : V), H1 dd = some (.xd fs) ∧ fs.lookup f = some v ∧ Q v H1) : tXp D a dd f te σ H Q := k
/-- what a def called in a suite promises of the handled error: its place, its class, its dict -/
abbrev SpF := Addr → Value → Option Addr → Sp
def onP (s : SpF) : SpP := fun p => s p.1 p.2.cls p.2.dict
/-- tells of an error of the class x: the tuple of its name and its fields -/
def spFlt (K : PySem.W.Frag) (x : Str) (fs : List Str) : SpF := fun a cls d vs H Q _ => ∃ (dd : Addr) (kv : List (Str × V)) (us : List V), vs = [.ref a] ∧ (cls = .ref (ga K x) ∧ d = some dd) ∧ H dd = some (.xd kv) ∧ fs.map (fun f => kv.lookup f) = us.map some ∧
  ∀ q H', H q = none → Ext H H' → H' q = some (.tup (.str x :: us)) → Q (.ref q) H'
def spFlts (K : PySem.W.Frag) (l : List (Str × List Str)) : SpF := fun a cls d vs H Q E => ∃ x ∈ l, spFlt K x.1 x.2 a cls d vs H Q E
theorem fnP_any {P : Program} {w : World} {K : PySem.W.Frag} {mg : Str → Option Value} {base : Heap} {CX : CXT} {k : Nat} {f : Addr} {fd : FuncData} {ps : List Str} {l : List (Str × List Str)} (h : ∀ x ∈ l, FnP P w K mg base CX k f fd ps (onP (spFlt K x.1 x.2))) :
    FnP P w K mg base CX k f fd ps (onP (spFlts K l)) :=
  ⟨fun p vs H Q E ⟨x, hx, z⟩ => (h x hx).len p vs H Q E z, fun p A outer s H args us vs Q E h1 h2 h3 h4 h5 h6 ⟨x, hx, z⟩ => (h x hx).run p A outer s H args us vs Q E h1 h2 h3 h4 h5 h6 z⟩
structure FaultG (P : Program) (w : World) (K : PySem.W.Frag) (mg : Str → Option Value) (base : Heap) (l : List (Str × List Str)) : Prop where
  g : mg "_law_fault" = some (.ref (ga K "_law_fault"))
  kp : PySem.W.keepIn K (.ref (ga K "_law_fault")) = true
  ok : ∃ fd, FnP P w K mg base (L2N.CX P w) 1 (ga K "_law_fault") fd ["error"] (onP (spFlts K l)) ∧ Binds K fd ["error"] []
theorem hotOf {A : Around} {a : Addr} {oe : Obj} {cls : Value} {d : Option Addr} (hz : L2N.Zn cls d oe) (hf : ∃ vs, oe.data = .fields vs) : L2H.Hot1 (A.mark (some (.ref a))) (a, oe) := by
  obtain ⟨vs, e⟩ := hf
  exact ⟨rfl, vs, e, hz.2.2 vs e⟩
/-- _law_fault(error) in the suite -/
theorem pe_fault {X : Cx} {l : List (Str × List Str)} {a : Addr} {oe : Obj} {cls : Value} {d : Option Addr} {q pos : Pos} {e : Expr} {te : TE} (c : FaultG X.prog X.w X.K X.mg X.base l) (hr : L2H.RoomH 1 X.A) (hz : L2N.Zn cls d oe) (hot : L2H.Hot1 X.A (a, oe)) (hp : (a, oe) ∈ X.pn) (he : PE X e te)
    (hg : Gl X "_law_fault" := by rfl) (h2 : starEach [e] X.env = (false, eval e X.env) :: starEach [] X.env := by rfl) (hpl : (backTo pos (starEach ([] : List Expr) X.env)).any (·.1) = false := by rfl) :
    PE X (.Call (.Name "_law_fault" q) [e] [] pos) (tCallS (spFlts X.K l a cls d) (WE fun _ _ _ _ => False) (tCons te tNil)) := by
  obtain ⟨fd, F, b⟩ := c.ok
  have key := pe_callP (p := (a, oe)) (q := q) (pos := pos) F hr hot hp hg c.g c.kp b passN (pa_cons he pa_nil (hs := h2)) (by decide) h2 hpl
  obtain ⟨e1, e2, _⟩ := hz
  unfold onP at key
  dsimp only at key
  rw [e1, e2] at key
  exact key
/-- one clause «except X as n», X the base of the module's errors -/
theorem r_wAs {K : PySem.W.Frag} {c : Value} {i : Nat} {ts : Addr → Value → Option Addr → TS} {Wout : WX} {D : Ends} {cls : Value} {d : Option Addr} {σ : L2.St} {H : Hp} (e : PySem.W.exmOne K cls c = some true)
    (k : ∀ a, H a = none → ts a cls d ⟨fun σ' H' => D.nx (σ'.set i none) H', D.rt, fun σ' H' => D.bk (σ'.set i none) H', fun σ' H' => D.ct (σ'.set i none) H'⟩ (σ.set i (some (.ref a))) H) : wAs K c i ts Wout D cls d σ H :=
  ⟨true, e, fun _ => k, fun z => nomatch z⟩
end L3
namespace L3
open PySem PySem.Spec PyProof.Rows L2 He
/-- what a try's body is run with -/
structure TryZ (X : Cx) (W : L2.WX) where
  pn : List (Addr × Obj)
  xe : Value → Shared → Prop
  tk : L2N.Takes (X.tr pn xe) W
  hp : PassesOwn (model X.prog X.w) X.A X.env xe
/-- try: .. except x as n: .., the body's reading free to be found -/
theorem ps_tryZ {X : Cx} {x n : Str} {c : Value} {i : Nat} {body suite : List Stmt} {b₀ : Stmt} {np pos pos' : Pos} {tb : (W : L2.WX) → TryZ X W → TS} {ts : Addr → Value → Option Addr → TS} {Wout : L2.WX}
    (hs : X.stack = X.env :: X.outer) (hf : X.env.frame = some X.env.locals) (hN : X.N.Nodup) (hi : X.N[i]? = some n) (hln : X.env.kindOf n = some .local) (hc : Names X x c) (tk : L2N.Takes X Wout)
    (hb : ∀ (W : L2.WX) (z : TryZ X W), PSs (X.tr z.pn z.xe) body (tb W z))
    (hsu : ∀ (a : Addr) (oe : Obj) (cls : Value) (d : Option Addr) (pn : List (Addr × Obj)), L2N.Zn cls d oe → (∃ vs, oe.data = .fields vs) → PSs (X.suite a ((a, oe) :: pn)) (b₀ :: suite) (ts a cls d)) :
    PS X (.Try body [.ExceptHandler (some (.Name x np)) (some n) (b₀ :: suite) pos'] [] [] pos) (fun D σ H => ∀ z : TryZ X (wAs X.K c i ts Wout D), tb _ z D σ H) :=
  L2N.ps_try_as (tb := fun W D σ H => ∀ z : TryZ X W, tb W z D σ H) hs hf hN hi hln hc tk (fun W pn xe tk hp => ⟨fun pins s σ H D I h => (hb W ⟨pn, xe, tk, hp⟩).run pins s σ H D I (h _)⟩) hsu
end L3
namespace L3
open PySem PySem.Spec PyProof.Rows L2 He
/-- a callee's error: its class, its one field -/
def Bad (K : PySem.W.Frag) (E : XK) (H : Hp) (C what : Str) : Prop := ∀ d H', H d = none → Ext H H' → H' d = some (.xd [("what", .str what)]) → E (.ref (ga K C)) (some d) H'
theorem r_flt1 {K : PySem.W.Frag} {l : List (Str × List Str)} {x f : Str} {a dd : Addr} {v : V} {H : Hp} {Q : VK} {E : XK} (hx : (x, [f]) ∈ l) (hd : H dd = some (.xd [(f, v)])) (k : ∀ q H', H q = none → Ext H H' → H' q = some (.tup [.str x, v]) → Q (.ref q) H') :
    spFlts K l a (.ref (ga K x)) (some dd) [.ref a] H Q E := ⟨(x, [f]), hx, dd, _, [v], rfl, ⟨rfl, rfl⟩, hd, by simp [List.lookup], k⟩
/-- told in the suite -/
theorem bad_tell {K : PySem.W.Frag} {c : Value} {l : List (Str × List Str)} {i : Nat} {Wout : L2.WX} {D : Ends} {σ : L2.St} {H1 : Hp} {C what : Str} (e : PySem.W.exmOne K (.ref (ga K C)) c = some true) (hl : (C, (["what"] : List Str)) ∈ l) (hi : i < σ.length)
    (k : ∀ q H', Ext H1 H' → H' q = some (.tup [.str C, .str what]) → D.rt (.ref q) H') : Bad K (WE (wAs K c i (fun a cls d => tRet (tCallS (spFlts K l a cls d) (WE fun _ _ _ _ => False) (tCons (tVar i) tNil))) Wout D) σ) H1 C what := by
  intro d H' hd e1 h
  refine r_wAs e fun a ha => ?_
  exact ⟨.ref a, by simp [hi], r_flt1 hl h fun q H2 hq e2 h2 => k q H2 (e1.trans e2) h2⟩
end L3
namespace L3
open PySem PySem.Spec PyProof.Rows L2 He
theorem r_chain {r r' : R2} {ta tb tc : TE} {σ : L2.St} {H : Hp} {Q : VK} (k : ta σ H fun x H1 => tb σ H1 fun y H2 => r x y H2 fun z H3 => ∃ k, z = .bl k ∧ (if k = true then tc σ H3 fun w' H4 => r' y w' H4 Q else Q (.bl false) H3)) : tChain r r' ta tb tc σ H Q := k
/-- the script, apart from what changes -/
def Sc (K : PySem.W.Frag) (S : List Addr) (a : Addr) (xs : List V) (H : Hp) : Prop := SqL K H a xs ∧ ((∀ H', SqL K H' a xs) ∨ (a ∉ S ∧ H a ≠ none))
theorem Sc.start {K : PySem.W.Frag} {S : List Addr} {a : Addr} {xs : List V} {H : Hp} (h : SqL K H a xs) (hS : ∀ q ∈ S, H q = none) : Sc K S a xs H := by
  rcases h with (h | ⟨o, h⟩) | h
  · exact ⟨.inl (.inl h), .inr ⟨fun z => (by rw [hS a z] at h; cases h), (by rw [h]; exact fun z => nomatch z)⟩⟩
  · exact ⟨.inl (.inr ⟨o, h⟩), .inr ⟨fun z => (by rw [hS a z] at h; cases h), (by rw [h]; exact fun z => nomatch z)⟩⟩
  · exact ⟨.inr h, .inl fun _ => .inr h⟩
theorem Sc.ext {K : PySem.W.Frag} {S : List Addr} {a : Addr} {xs : List V} {H H' : Hp} (s : Sc K S a xs H) (e : Ext H H') : Sc K S a xs H' :=
  ⟨e.l s.1, s.2.imp id fun ⟨h1, h2⟩ => ⟨h1, by
    cases q : H a with
    | none => exact absurd q h2
    | some o => rw [e _ _ q]; exact fun z => nomatch z⟩⟩
theorem Sc.but {K : PySem.W.Frag} {S : List Addr} {a p : Addr} {xs : List V} {H H' : Hp} (s : Sc K S a xs H) (hp : p ∈ S) (b : But p H H') : Sc K S a xs H' := by
  rcases s.2 with h | ⟨h1, h2⟩
  · exact ⟨h _, .inl h⟩
  · have ne : a ≠ p := fun e => h1 (e ▸ hp)
    refine ⟨b.l ne s.1, .inr ⟨h1, ?_⟩⟩
    cases q : H a with
    | none => exact absurd q h2
    | some o => rw [b _ _ ne q]; exact fun z => nomatch z
theorem Sc.more {K : PySem.W.Frag} {S S' : List Addr} {a : Addr} {xs : List V} {H : Hp} (s : Sc K S a xs H) (hS : ∀ q ∈ S', q ∈ S ∨ H q = none) : Sc K S' a xs H :=
  ⟨s.1, s.2.imp id fun ⟨h1, h2⟩ => ⟨fun z => (hS a z).elim h1 h2, h2⟩⟩
theorem src_some {H : Hp} {p : Addr} (a : Src H p) : H p ≠ none := by
  obtain ⟨x, y, z, h⟩ := a
  rw [h]
  exact fun z => nomatch z
theorem Src.stay {H H' : Hp} {p q : Addr} (s : Src H p) (b : But q H H') (h : p ≠ q) : Src H' p := by
  obtain ⟨x, y, z, e⟩ := s
  exact ⟨x, y, z, b _ _ h e⟩
end L3
set_option maxRecDepth 100000
set_option maxHeartbeats 4000000
/-! CmJ: list(range(..)), forwards and down; reversed lists; the greatest of a list. -/
namespace L3
open PySem PySem.Spec PyProof.Rows L2 He
/-- the ints i, i - 1, .., above j -/
def dnV (i j : Int) : List V := (List.range (i - j).toNat).map fun k => V.int (i + (k : Nat) * -1)
def LstDn (vs : List V) (H1 : Hp) (Q : VK) : Prop := ∃ i j : Int, vs = [.int i, .int j, .int (-1)] ∧ RgOk j i ∧ ∀ q, H1 q = none → Q (.ref q) (upd H1 q (.lst (dnV i j)))
def tLstDn (ta : TA) : TE := fun σ H Q => ta σ H fun vs H1 => LstDn vs H1 Q
theorem pe_listDn {X : Cx} {a b c : Expr} {ta : TA} {p p2 pos pos2 : Pos} (hc : X.calm = true) (hml : X.mg "list" = none) (hm : X.mg "range" = none) (ha : PA X [a, b, c] ta) (hgl : Gl X "list" := by rfl) (hg : Gl X "range" := by rfl)
    (hs : starEach [a, b, c] X.env = (false, eval a X.env) :: starEach [b, c] X.env := by rfl) (hpl : (backTo pos2 (starEach [b, c] X.env)).any (·.1) = false := by rfl)
    (na : starEach [.Call (.Name "range" p2) [a, b, c] [] pos2] X.env = (false, eval (.Call (.Name "range" p2) [a, b, c] [] pos2) X.env) :: starEach [] X.env := by rfl) :
    PE X (.Call (.Name "list" p) [.Call (.Name "range" p2) [a, b, c] [] pos2] [] pos) (tLstDn ta) := by
  refine ⟨fun pins s σ H Q I h => ?_⟩
  refine Call_ (ld_blt I hgl hml boot_list (PyProof.Rows.callWith_type1 (args_cons (thn (Q := fun x s1 => ∃ r i j t u v H1, x = Value.ref r ∧ IsRange s1.heap r i j (-1) t u v ∧ Inv X pins σ H1 s1 ∧ RgOk j i ∧ ∀ q, H1 q = none → Q (.ref q) (upd H1 q (.lst (dnV i j)))) ?_ fun x s1 ⟨r, i, j, t, u, v, H1, ex, hr, I1, ok, q⟩ => args_nil ?_) na) na))
  · refine Call_ (ld_blt I hg hm boot_range (PyProof.Rows.callWith_type1 (thn (ha.run pos2 pins s σ H _ I h) fun us s1 ⟨vs, H1, I1, r1, q1⟩ => ?_) hs hpl))
    obtain ⟨i, j, e, ok, q⟩ := q1
    subst e
    cases r1 with
    | cons r rr =>
      cases rr with
      | cons r' rr =>
        cases rr with
        | cons r'' rr =>
          cases rr
          obtain ⟨t, rfl⟩ := r
          obtain ⟨t', rfl⟩ := r'
          obtain ⟨t'', rfl⟩ := r''
          exact call_range_3 (by decide) ⟨_, i, j, _, _, _, H1, rfl, IsRange.new _ _ _ _ _ _ _, I1.kept fun b u e => Heap.get?_push_of_some _ e, ok, q⟩ (.inl (PyProof.noPylong_small (by decide)))
  · subst ex
    obtain ⟨b1, b2, b3, b4, b5⟩ := ok
    refine call_list_range (n := (i - j).toNat) (I1.ok.hd hc) hr (PySem.W.small_down b3 b4 b1 b2) (PySem.W.rangeSize_downNat i j) b5 fun h' tk acc c' hk e' hi => ?_
    refine ⟨.ref s1.heap.objs.size, upd H1 s1.heap.objs.size (.lst (dnV i j)), I1.laid hk (Nat.le_refl _) (show ObjOk X.prog X.w _ _ _ (.lst (dnV i j)) from ⟨?_, acc.toList, c', ?_, ?_⟩), rfl, q _ (I1.hok.fresh (Nat.le_refl _))⟩
    · unfold dnV; rw [List.length_map, List.length_range, sizeLine_eq]; omega
    · have e : acc.toList.length = (i - j).toNat := by rw [Array.length_toList]; exact hi.1
      unfold dnV
      rw [← e]
      refine vals_of_get acc.toList _ fun k u hj => ?_
      obtain ⟨t, rfl⟩ := hi.2 k u (by rw [← hj, Array.getElem?_toList])
      exact ⟨t, rfl⟩
    · rw [Array.toArray_toList]; exact e'
section
variable {K : PySem.W.Frag} {σ : L2.St} {H : Hp} {Q : VK}
theorem r_listDn {ta : TA} (k : ta σ H fun vs H1 => LstDn vs H1 Q) : tLstDn ta σ H Q := k
theorem r_dn {i j : Int} (h : RgOk j i) (k : ∀ q H', H q = none → Ext H H' → H' q = some (.lst (dnV i j)) → Q (.ref q) H') : LstDn [V.int i, V.int j, V.int (-1)] H Q := ⟨i, j, rfl, h, fun q hq => k q _ hq (Ext.new hq) upd_same⟩
def LstRg (x y : V) (H1 : Hp) (Q : VK) : Prop := ∃ i j : Int, x = .int i ∧ y = .int j ∧ RgOk i j ∧ ∀ q, H1 q = none → Q (.ref q) (upd H1 q (.lst (rgV i j)))
theorem r_listRg2 {ta tb : TE} (k : ta σ H fun x H1 => tb σ H1 fun y H2 => LstRg x y H2 Q) : tLstRg (tRg2 ta tb) σ H Q := by
  unfold tLstRg tRg2
  unfold LstRg at k
  have e : (fun (x : V) (H1 : Hp) => tb σ H1 fun y H2 => ∃ i j : Int, x = .int i ∧ y = .int j ∧ RgOk i j ∧ ∀ q, H2 q = none → Q (.ref q) (upd H2 q (.lst (rgV i j)))) = fun (x : V) (H1 : Hp) => tb σ H1 fun y H2 => ∃ i j : Int, x = .int i ∧ y = .int j ∧ (RgOk i j ∧ ∀ q, H2 q = none → Q (.ref q) (upd H2 q (.lst (rgV i j)))) := rfl
  exact k
theorem r_rg {i j : Int} (h : RgOk i j) (k : ∀ q H', H q = none → Ext H H' → H' q = some (.lst (rgV i j)) → Q (.ref q) H') : LstRg (V.int i) (V.int j) H Q := ⟨i, j, rfl, rfl, h, fun q hq => k q _ hq (Ext.new hq) upd_same⟩
def RevL (K : PySem.W.Frag) (x : V) (H1 : Hp) (Q : VK) : Prop := ∃ a xs, x = .ref a ∧ SqL K H1 a xs ∧ ∀ p, H1 p = none → Q (.ref p) (upd H1 p (.lst xs.reverse))
theorem r_revL {te : TE} (k : te σ H fun x H1 => RevL K x H1 Q) : tRevL K te σ H Q := k
theorem r_rev {a : Addr} {xs : List V} (h : SqL K H a xs) (k : ∀ q H', H q = none → Ext H H' → H' q = some (.lst xs.reverse) → Q (.ref q) H') : RevL K (.ref a) H Q := ⟨a, xs, rfl, h, fun q hq => k q _ hq (Ext.new hq) upd_same⟩
theorem revK {X : Cx} {e : Expr} {te : TE} {k : Nat} {p1 p2 p3 pos : Pos} (he : PE X e te) (hK : X.K = K := by rfl) : PE X (.Subscript e (.Slice none none (some (.UnaryOp .USub (.Constant (.int 1) k p1) p2)) p3) pos) (tRevL K te) := hK ▸ pe_revL he
theorem r_maxL {p : Addr} {ns : List Int} {m : Int} (h : SqL K H p (ns.map V.int)) (hm : m ∈ ns) (hl : ∀ y ∈ ns, y ≤ m) (k : Q (.int m) H) : rMax K [.ref p] H Q :=
  ⟨p, ns, rfl, h, List.length_pos_of_mem hm, fun m' h1 h2 => by
    have : m' = m := Int.le_antisymm (hl _ h1) (h2 _ hm)
    rw [this]; exact k⟩
theorem r_minL {p : Addr} {ns : List Int} {m : Int} (h : SqL K H p (ns.map V.int)) (hm : m ∈ ns) (hl : ∀ y ∈ ns, m ≤ y) (k : Q (.int m) H) : rMin K [.ref p] H Q :=
  ⟨p, ns, rfl, h, List.length_pos_of_mem hm, fun m' h1 h2 => by
    have : m' = m := Int.le_antisymm (h2 _ hm) (hl _ h1)
    rw [this]; exact k⟩
theorem r_popW {l : Addr} {xs : List V} {y : V} (h : H l = some (.lst (xs ++ [y]))) (k : ∀ H', H' l = some (.lst xs) → (∀ b, b ≠ l → H' b = H b) → Q y H') : rPop (.ref l) [] H Q := r_popL h k
end
end L3
set_option maxRecDepth 100000
set_option maxHeartbeats 4000000
/-! CmK: len(set(xs)) of any ints. -/
namespace L3
open PySem PySem.Spec PyProof.Rows L2 He
/-- the ints of a list, each once, in the order they are met -/
def once (ns : List Int) : List Int := PyProof.Rows.firstMet (fun i => ns.getD i 0) ns.length
theorem met_nodup (f : Nat → Int) : ∀ n, (PyProof.Rows.firstMet f n).Nodup ∧ (∀ x, x ∈ PyProof.Rows.firstMet f n ↔ ∃ i, i < n ∧ f i = x) ∧ (PyProof.Rows.firstMet f n).length ≤ n
  | 0 => ⟨.nil, fun x => ⟨fun h => absurd h (List.not_mem_nil), fun ⟨i, h, _⟩ => absurd h (Nat.not_lt_zero _)⟩, Nat.le_refl _⟩
  | n + 1 => by
    obtain ⟨h1, h2, h3⟩ := met_nodup f n
    have es : ∀ (l : List Int) (x : Int), PyProof.Rows.step_dedup l x = if l.any (· == x) = true then l else l ++ [x] := fun _ _ => rfl
    rw [PyProof.Rows.firstMet_succ, es]
    cases hb : (PyProof.Rows.firstMet f n).any (· == f n) with
    | true =>
      rw [if_pos rfl]
      obtain ⟨y, hy, ey⟩ := List.any_eq_true.mp hb
      have ey : y = f n := eq_of_beq ey
      obtain ⟨j, hj, ej⟩ := (h2 y).mp hy
      refine ⟨h1, fun x => ⟨fun h => ?_, fun ⟨i, hi, e⟩ => ?_⟩, by omega⟩
      · obtain ⟨i, hi, e⟩ := (h2 x).mp h
        exact ⟨i, by omega, e⟩
      · by_cases c : i = n
        · rw [← e, c, ← ey]; exact hy
        · exact (h2 x).mpr ⟨i, by omega, e⟩
    | false =>
      rw [if_neg Bool.false_ne_true]
      have no : f n ∉ PyProof.Rows.firstMet f n := fun h => by
        have := List.any_eq_false.mp hb _ h
        simp at this
      refine ⟨?_, fun x => ?_, by rw [List.length_append]; show _ + 1 ≤ _; omega⟩
      · rw [List.nodup_append]
        refine ⟨h1, by simp, fun a ha b hb' e => ?_⟩
        rw [List.mem_singleton.mp hb'] at e
        exact no (e ▸ ha)
      · rw [List.mem_append, h2, List.mem_singleton]
        refine ⟨fun h => ?_, fun ⟨i, hi, e⟩ => ?_⟩
        · rcases h with ⟨i, hi, e⟩ | e
          · exact ⟨i, by omega, e⟩
          · exact ⟨n, by omega, e.symm⟩
        · by_cases c : i = n
          · exact .inr (by rw [← e, c])
          · exact .inl ⟨i, by omega, e⟩
theorem once_nodup (ns : List Int) : (once ns).Nodup := (met_nodup _ _).1
theorem once_mem {ns : List Int} {x : Int} : x ∈ once ns ↔ x ∈ ns := by
  rw [once, (met_nodup _ _).2.1]
  refine ⟨fun ⟨i, hi, e⟩ => ?_, fun h => ?_⟩
  · rw [List.getD_eq_getElem?_getD, List.getElem?_eq_getElem hi] at e
    exact e ▸ List.getElem_mem hi
  · obtain ⟨i, hi⟩ := List.mem_iff_getElem?.mp h
    refine ⟨i, (List.getElem?_eq_some_iff.mp hi).1, ?_⟩
    rw [List.getD_eq_getElem?_getD, hi]
    rfl
theorem once_le (ns : List Int) : (once ns).length ≤ ns.length := (met_nodup _ _).2.2
def LenSetS (K : PySem.W.Frag) (x : V) (H1 : Hp) (Q : VK) : Prop := ∃ (l : Addr) (ns : List Int), x = .ref l ∧ SqL K H1 l (ns.map V.int) ∧ ns.length ≤ 4000 ∧ Q (.int ((once ns).length : Nat)) H1
def tLenSetN (K : PySem.W.Frag) (ta : TE) : TE := fun σ H Q => ta σ H fun x H1 => LenSetS K x H1 Q
theorem pe_lenSetN {X : Cx} {K : PySem.W.Frag} {a : Expr} {ta : TE} {p p2 q pos : Pos} (hm : X.mg "len" = none) (hm2 : X.mg "set" = none) (ha : PE X a ta) (hc : X.calm = true := by rfl) (hg : Gl X "len" := by rfl) (hg2 : Gl X "set" := by rfl)
    (na : starEach [a] X.env = (false, eval a X.env) :: starEach [] X.env := by rfl) (hK : X.K = K := by rfl) : PE X (.Call (.Name "len" p) [.Call (.Name "set" p2) [a] [] q] [] pos) (tLenSetN K ta) := by
  subst hK
  refine ⟨fun pins s σ H Q I h => ?_⟩
  refine Call_ (ld_blt I hg hm boot_len ?_)
  refine PyProof.Rows.callWith_builtin1 (PyProof.Rows.args_cons ?_ rfl) rfl rfl
  refine Call_ (ld_blt I hg2 hm2 boot_set ?_)
  refine PyProof.Rows.callWith_type1 (PyProof.Rows.args_cons (thn (ha.run pins s σ H _ I h) fun v s1 ⟨x, H1, I1, r1, q1⟩ => PyProof.Rows.args_nil ?_) na) na rfl
  obtain ⟨l, ns, rfl, hq, hl, q1⟩ := q1
  cases r1
  obtain ⟨its, r, pl, hz⟩ := I1.list hq
  have hlen : its.toArray.size = ns.length := by rw [List.size_toArray, ← r.length, List.length_map]
  refine call_set_list (I1.ok.hd hc) pl.isList (by simpa using RZ.intsAre_vals r) (by rw [hlen]; unfold scanBound; omega) fun h' tk hS hk => ?_
  refine PyProof.Rows.args_nil ?_
  rw [hlen] at hS
  have hle := once_le ns
  obtain ⟨o, es, ep, t, ho, hex, hd, _, _, _, hf, hn⟩ := hS
  have I2 : Inv X pins σ H1 { s1 with heap := h', toks := tk } := I1.kept fun b o e => hk b o (Heap.lt_size e) e
  have hn' : es.size = (once ns).length := by rw [hn]; rfl
  exact call_len_set ho hex hd hf (by rw [hn'] <;> omega) ⟨.int ((once ns).length : Nat), H1, I2.tok _, ⟨_, by rw [hn']⟩, q1⟩
section
variable {K : PySem.W.Frag} {σ : L2.St} {H : Hp} {Q : VK}
theorem r_lenSet {te : TE} (k : te σ H fun x H1 => LenSetS K x H1 Q) : tLenSetN K te σ H Q := k
theorem r_lenSetL {l : Addr} {ns : List Int} (h : SqL K H l (ns.map V.int)) (hl : ns.length ≤ 4000) (k : Q (.int ((once ns).length : Nat)) H) : LenSetS K (.ref l) H Q := ⟨l, ns, rfl, h, hl, k⟩
end
/-- fewer once than at all: some twice -/
theorem once_lt {ns : List Int} : (once ns).length < ns.length ↔ ¬ ns.Nodup := by
  have key : ∀ (l : List Int), l.Nodup → ∀ m : List Int, (∀ x ∈ l, x ∈ m) → l.length ≤ m.length := by
    intro l
    induction l with
    | nil => intro _ m _; exact Nat.zero_le _
    | cons a l ih =>
      intro h m hm
      rw [List.nodup_cons] at h
      have ha := hm a List.mem_cons_self
      have := ih h.2 (m.erase a) (fun x hx => (List.mem_erase_of_ne (fun e => h.1 (by rw [← e]; exact hx))).mpr (hm x (List.mem_cons_of_mem _ hx)))
      rw [List.length_erase_of_mem ha] at this
      have := List.length_pos_of_mem ha
      show l.length + 1 ≤ m.length
      omega
  constructor
  · intro h hn
    have := key ns hn (once ns) fun x hx => once_mem.mpr hx
    omega
  · intro h
    refine Nat.lt_of_not_le fun hle => h ?_
    -- the list has as many as its once: no two alike
    have drop : ∀ (l : List Int), ¬ l.Nodup → ∃ m : List Int, m.length < l.length ∧ ∀ x ∈ l, x ∈ m := by
      intro l
      induction l with
      | nil => intro h; exact absurd .nil h
      | cons a l ih =>
        intro h
        by_cases c : a ∈ l
        · exact ⟨l, by simp, fun x hx => by
            rcases List.mem_cons.mp hx with rfl | hx
            · exact c
            · exact hx⟩
        · obtain ⟨m, h1, h2⟩ := ih (fun hl => h (List.nodup_cons.mpr ⟨c, hl⟩))
          exact ⟨a :: m, by simp; omega, fun x hx => by
            rcases List.mem_cons.mp hx with rfl | hx
            · exact List.mem_cons_self
            · exact List.mem_cons_of_mem _ (h2 x hx)⟩
    refine Classical.byContradiction fun hn => ?_
    obtain ⟨m, h1, h2⟩ := drop ns hn
    have := key (once ns) (once_nodup ns) m fun x hx => h2 x (once_mem.mp hx)
    omega
end L3
namespace L3
open PySem PySem.Spec PyProof.Rows L2 He
/-! ### for over a list or a tuple, whichever it is -/
def iSeq (K : PySem.W.Frag) (tl : TE) : TI := fun σ H R => iList K tl σ H R ∨ iTup K tl σ H R
theorem piS {X : Cx} {K : PySem.W.Frag} {tg l : Expr} {tl : TE} (hl : PE X l tl) (hK : X.K = K := by rfl) : PI X tg l (iSeq K tl) := by
  subst hK
  exact ⟨fun pins s σ H R I h => h.elim (fun h => (pi_list hl).run pins s σ H R I h) fun h => (pi_tup hl).run pins s σ H R I h⟩
section
variable {K : PySem.W.Frag} {σ : L2.St} {H : Hp}
/-- the turns over a list or a tuple -/
def SeqJ (K : PySem.W.Frag) (H : Hp) (a : Addr) (xs : List V) (J : It) : Prop := (J = Itl K a ∧ SqL K H a xs) ∨ (J = Itt K a ∧ SqT K H a xs)
theorem r_iSv {R : It → Hp → Prop} {i : Nat} {a : Addr} {xs : List V} (h : Seq K H a xs) (e : σ[i]? = some (some (.ref a))) (k : ∀ J, SeqJ K H a xs J → R J H) : iSeq K (tVar i) σ H R :=
  h.elim (fun h => .inl ⟨.ref a, e, a, rfl, ⟨xs, h⟩, k _ (.inl ⟨rfl, h⟩)⟩) fun h => .inr ⟨.ref a, e, a, rfl, ⟨xs, h⟩, k _ (.inr ⟨rfl, h⟩)⟩
theorem forW_seq {g : TG} {tb : TS} {nx bk ct : L2.St → Hp → Prop} {rt : VK} {J : It} {a : Addr} {xs : List V} {H0 : Hp} (hJ : SeqJ K H0 a xs J) (Pv : Nat → L2.St → Hp → Prop) (h0 : Pv 0 σ H) (he : ∀ i σ H', Pv i σ H' → Ext H0 H')
    (hs : ∀ i x σ H, xs[i]? = some x → Pv i σ H → g x σ H fun σ2 H2 => tb ⟨Pv (i + 1), rt, nx, Pv (i + 1)⟩ σ2 H2) (hd : ∀ σ H, Pv xs.length σ H → nx σ H) : ForW J g tb ⟨nx, rt, bk, ct⟩ σ H := by
  rcases hJ with ⟨rfl, h⟩ | ⟨rfl, h⟩
  · exact forW_list Pv h0 (fun i σ H' _ p => (he i σ H' p).l h) hs hd
  · exact forW_tup Pv h0 (fun i σ H' _ p => (he i σ H' p).tu h) hs hd
end
end L3
set_option maxRecDepth 100000
set_option maxHeartbeats 4000000
/-! CmL: data that lies in lists and tuples of the heap, at places of which S holds. -/
namespace L3
open PySem PySem.Spec PyProof.Rows L2 He
mutual
inductive Nw (S : Addr → Prop) (H : Hp) : V → PyData → Prop
  | non : Nw S H .non .none
  | bl (b : Bool) : Nw S H (.bl b) (.bool b)
  | int (i : Int) : Nw S H (.int i) (.int i)
  | str (s : Str) : Nw S H (.str s) (.str s)
  | lst {a : Addr} {xs : List V} {ds : List PyData} : S a → H a = some (.lst xs) → Nws S H xs ds → Nw S H (.ref a) (.list ds)
  | tup {a : Addr} {xs : List V} {ds : List PyData} : S a → H a = some (.tup xs) → Nws S H xs ds → Nw S H (.ref a) (.tuple ds)
inductive Nws (S : Addr → Prop) (H : Hp) : List V → List PyData → Prop
  | nil : Nws S H [] []
  | cons {x : V} {d : PyData} {xs : List V} {ds : List PyData} : Nw S H x d → Nws S H xs ds → Nws S H (x :: xs) (d :: ds)
end
section
variable {S S' : Addr → Prop} {H H' : Hp} {K : PySem.W.Frag}
mutual
theorem Nw.keep (h : ∀ a o, S a → H a = some o → H' a = some o ∧ S' a) : ∀ (d : PyData) {x : V}, Nw S H x d → Nw S' H' x d
  | .none, _, .non => .non
  | .bool b, _, .bl _ => .bl b
  | .int i, _, .int _ => .int i
  | .str s, _, .str _ => .str s
  | .list ds, _, .lst s e hs => .lst (h _ _ s e).2 (h _ _ s e).1 (Nws.keep h ds hs)
  | .tuple ds, _, .tup s e hs => .tup (h _ _ s e).2 (h _ _ s e).1 (Nws.keep h ds hs)
theorem Nws.keep (h : ∀ a o, S a → H a = some o → H' a = some o ∧ S' a) : ∀ (ds : List PyData) {xs : List V}, Nws S H xs ds → Nws S' H' xs ds
  | [], _, .nil => .nil
  | d :: ds, _, .cons e es => .cons (Nw.keep h d e) (Nws.keep h ds es)
end
mutual
theorem Nw.dp : ∀ (d : PyData) {x : V}, Nw S H x d → Dp K H x d
  | .none, _, .non => .non
  | .bool b, _, .bl _ => .bl b
  | .int i, _, .int _ => .int i
  | .str s, _, .str _ => .str s
  | .list ds, _, .lst _ e hs => .lst (sqL e) (Nws.dp ds hs)
  | .tuple ds, _, .tup _ e hs => .tup (sqT e) (Nws.dp ds hs)
theorem Nws.dp : ∀ (ds : List PyData) {xs : List V}, Nws S H xs ds → DpAll K H xs ds
  | [], _, .nil => .nil
  | d :: ds, _, .cons e es => .cons (Nw.dp d e) (Nws.dp ds es)
end
theorem Nws.len : ∀ {xs : List V} {ds : List PyData}, Nws S H xs ds → xs.length = ds.length
  | _, _, .nil => rfl
  | _, _, .cons _ h => by rw [List.length_cons, List.length_cons, Nws.len h]
theorem Nws.get : ∀ {xs : List V} {ds : List PyData} {i : Nat} {d : PyData}, Nws S H xs ds → ds[i]? = some d → ∃ x, xs[i]? = some x ∧ Nw S H x d
  | _, _, i, d, .nil, e => by simp at e
  | _, _, 0, d, .cons h _, e => by simp at e; subst e; exact ⟨_, rfl, h⟩
  | _, _, i + 1, d, .cons _ h, e => by
    obtain ⟨x, e1, h1⟩ := Nws.get (i := i) h (by simpa using e)
    exact ⟨x, by simpa using e1, h1⟩
theorem Nws.of : ∀ {xs : List V} {ds : List PyData}, xs.length = ds.length → (∀ (i : Nat) (x : V) (d : PyData), xs[i]? = some x → ds[i]? = some d → Nw S H x d) → Nws S H xs ds
  | [], [], _, _ => .nil
  | x :: xs, d :: ds, hl, h => .cons (h 0 x d rfl rfl) (Nws.of (by simpa using hl) fun i y e hy he => h (i + 1) y e (by simpa using hy) (by simpa using he))
theorem Nws.append : ∀ {xs ys : List V} {ds es : List PyData}, Nws S H xs ds → Nws S H ys es → Nws S H (xs ++ ys) (ds ++ es)
  | _, _, _, _, .nil, h => h
  | _, _, _, _, .cons h t, g => .cons h (Nws.append t g)
theorem nws_ints : ∀ (ns : List Int), Nws S H (ns.map V.int) (ns.map PyData.int)
  | [] => .nil
  | n :: ns => .cons (.int n) (nws_ints ns)
theorem nws_ints' {xs : List V} : ∀ {row : List Int}, Nws S H xs (row.map PyData.int) → xs = row.map V.int := by
  intro row
  induction row generalizing xs with
  | nil => intro h; cases h; rfl
  | cons a row ih =>
    intro h
    cases h with
    | cons h1 h2 =>
      cases h1
      rw [ih h2]
      rfl
/-- a list of lists of ints -/
def tbD (st : List (List Int)) : PyData := .list (st.map fun row => .list (row.map PyData.int))
structure Grid (S : Addr → Prop) (H : Hp) (t : Addr) (as : List Addr) (st : List (List Int)) : Prop where
  top : S t
  at_ : H t = some (.lst (as.map V.ref))
  len : as.length = st.length
  row : ∀ (i : Nat) (row : List Int), st[i]? = some row → ∃ a, as[i]? = some a ∧ S a ∧ H a = some (.lst (row.map V.int))
theorem Nw.grid {x : V} {st : List (List Int)} (h : Nw S H x (tbD st)) : ∃ t as, x = .ref t ∧ Grid S H t as st := by
  cases h with
  | lst s e hs =>
    rename_i t xs
    have hl := hs.len
    rw [List.length_map] at hl
    have key : ∀ (i : Nat) (row : List Int), st[i]? = some row → ∃ a, xs[i]? = some (V.ref a) ∧ S a ∧ H a = some (.lst (row.map V.int)) := fun i row hr => by
      obtain ⟨x, e1, h1⟩ := hs.get (i := i) (d := .list (row.map PyData.int)) (by rw [List.getElem?_map, hr]; rfl)
      cases h1 with
      | lst s1 e2 hs1 => exact ⟨_, e1, s1, by rw [← nws_ints' hs1]; exact e2⟩
    obtain ⟨as, ea⟩ : ∃ as : List Addr, xs = as.map V.ref := by
      refine ⟨xs.map fun x => match x with | .ref a => a | _ => t, ?_⟩
      apply List.ext_getElem?
      intro i
      rw [List.getElem?_map, List.getElem?_map]
      by_cases c : i < xs.length
      · obtain ⟨a, e1, _⟩ := key i _ (List.getElem?_eq_getElem (by omega))
        rw [e1]
        rfl
      · rw [List.getElem?_eq_none (by omega)]
        rfl
    subst ea
    rw [List.length_map] at hl
    refine ⟨t, as, rfl, s, e, hl, fun i row hr => ?_⟩
    obtain ⟨a, e1, h1⟩ := key i row hr
    rw [List.getElem?_map] at e1
    obtain ⟨b, eb, e2⟩ := Option.map_eq_some_iff.mp e1
    cases e2
    exact ⟨_, eb, h1⟩
theorem Grid.nw {t : Addr} {as : List Addr} {st : List (List Int)} (g : Grid S H t as st) : Nw S H (.ref t) (tbD st) := by
  refine .lst g.top g.at_ (.of (by rw [List.length_map, List.length_map, g.len]) fun i x d hx hd => ?_)
  rw [List.getElem?_map] at hx hd
  obtain ⟨a, ha, rfl⟩ := Option.map_eq_some_iff.mp hx
  obtain ⟨row, hr, rfl⟩ := Option.map_eq_some_iff.mp hd
  obtain ⟨b, hb, s, e⟩ := g.row i row hr
  rw [ha] at hb
  cases hb
  exact .lst s e (nws_ints row)
theorem nw_but {p : Addr} {x : V} {d : PyData} (h : Nw (· ≠ p) H x d) (b : But p H H') : Nw (· ≠ p) H' x d := h.keep (fun a o s e => ⟨b a o s e, s⟩) d
theorem nw_ext {x : V} {d : PyData} (h : Nw S H x d) (e : Ext H H') : Nw S H' x d := h.keep (fun a o s q => ⟨e a o q, s⟩) d
/-- the one object of a new tree changes: another tree stays -/
theorem nw_stay {q : Addr} {x : V} {d : PyData} (h : Nw S H x d) (hq : ∀ a, S a → a ≠ q) (n : ∀ b, b ≠ q → H' b = H b) : Nw S H' x d := h.keep (fun a o s e => ⟨(n a (hq a s)).trans e, s⟩) d
theorem small_tb {n : Nat} {st : List (List Int)} (h1 : st.length ≤ 100000) (h2 : ∀ row ∈ st, row.length ≤ 100000) : smallD (n + 3) (tbD st) :=
  small_list (by rw [List.length_map]; exact h1) fun e he => by
    obtain ⟨row, hr, rfl⟩ := List.mem_map.mp he
    exact small_ints n (h2 row hr)
end
end L3
namespace L3
open PySem PySem.Spec PyProof.Rows L2 He
theorem Grid.setTop {S : Addr → Prop} {H H' : Hp} {t a : Addr} {as : List Addr} {st : List (List Int)} {r : Nat} {row : List Int} (g : Grid S H t as st) (hr : r < st.length) (keep : ∀ b o, S b → b ≠ t → H b = some o → H' b = some o) (ht : H' t = some (.lst ((as.map V.ref).set r (.ref a)))) (ha : S a) (h : H' a = some (.lst (row.map V.int))) : Grid S H' t (as.set r a) (st.set r row) := by
  refine ⟨g.top, by rw [ht, List.map_set], by rw [List.length_set, List.length_set, g.len], fun i r' hi => ?_⟩
  by_cases c : r = i
  · subst c
    rw [List.getElem?_set_self hr] at hi
    cases hi
    exact ⟨a, List.getElem?_set_self (by rw [g.len]; exact hr), ha, h⟩
  · rw [List.getElem?_set_ne c] at hi
    obtain ⟨b, hb, sb, eb⟩ := g.row i r' hi
    refine ⟨b, by rw [List.getElem?_set_ne c]; exact hb, sb, keep b _ sb (fun e => ?_) eb⟩
    rw [e, g.at_] at eb
    have := (Option.some.inj eb)
    injection this with this
    cases as with
    | nil => simp at hb
    | cons x xs =>
      cases r' with
      | nil => simp at this
      | cons y ys => simp at this
theorem Grid.setRow {S : Addr → Prop} {H H' : Hp} {t a : Addr} {as : List Addr} {st : List (List Int)} {r : Nat} {row row' : List Int} (g : Grid S H t as st) (hr : st[r]? = some row) (ha : as[r]? = some a) (keep : ∀ b, b ≠ a → H' b = H b) (h : H' a = some (.lst (row'.map V.int))) :
    ∃ st', Grid S H' t as st' ∧ st'.length = st.length ∧ row' ∈ st' ∧ ∀ x ∈ st', x ∈ st ∨ x = row' := by
  have hlt := (List.getElem?_eq_some_iff.mp hr).1
  have at_i : ∀ i, i < st.length → ((List.range st.length).map fun i => if as[i]? = some a then row' else st.getD i [])[i]? = some (if as[i]? = some a then row' else st.getD i []) := fun i hi => by rw [List.getElem?_map, List.getElem?_range hi]; rfl
  have at_ne : t ≠ a := fun e => by
    obtain ⟨b, hb, sb, eb⟩ := g.row r row hr
    rw [ha] at hb
    cases hb
    rw [← e, g.at_] at eb
    have := (Option.some.inj eb)
    injection this with this
    cases as with
    | nil => simp at ha
    | cons x xs =>
      cases row with
      | nil => simp at this
      | cons y ys => simp at this
  refine ⟨(List.range st.length).map fun i => if as[i]? = some a then row' else st.getD i [], ⟨g.top, (keep t at_ne).trans g.at_, by rw [List.length_map, List.length_range, g.len], fun i x hi => ?_⟩, by rw [List.length_map, List.length_range], ?_, fun x hx => ?_⟩
  · have hil : i < st.length := by
      have := (List.getElem?_eq_some_iff.mp hi).1
      rwa [List.length_map, List.length_range] at this
    rw [at_i i hil] at hi
    cases hi
    obtain ⟨b, hb, sb, eb⟩ := g.row i _ (List.getElem?_eq_getElem hil)
    refine ⟨b, hb, sb, ?_⟩
    by_cases c : b = a
    · rw [if_pos (by rw [hb, c]), c]
      exact h
    · rw [if_neg (by rw [hb]; exact fun e => c (Option.some.inj e)), keep b c, eb, List.getD_eq_getElem?_getD, List.getElem?_eq_getElem hil]
      rfl
  · exact List.mem_map.mpr ⟨r, List.mem_range.mpr hlt, if_pos ha⟩
  · obtain ⟨i, hi, rfl⟩ := List.mem_map.mp hx
    rw [List.mem_range] at hi
    split
    · exact .inr rfl
    · left
      rw [List.getD_eq_getElem?_getD, List.getElem?_eq_getElem hi]
      exact List.getElem_mem hi
end L3
set_option maxRecDepth 100000
set_option maxHeartbeats 4000000
/-! CmM: dicts with ints as keys; lists of ints compared. -/
namespace L3
open PySem PySem.Spec PyProof.Rows L2 He
section
variable {K : PySem.W.Frag} {σ : L2.St} {H : Hp} {Q : VK} {td ty tv : TE} {nx bk ct : L2.St → Hp → Prop} {rt : VK}
def DG (x y : V) (H : Hp) (Q : VK) : Prop := ∃ a v, x = .ref a ∧ DGet H a y (some v) ∧ Q v H
theorem r_dgt (k : td σ H fun x H1 => ty σ H1 fun y H2 => DG x y H2 Q) : tDGet td ty σ H Q := k
theorem r_dgI {p : Addr} {kvs : List (Key × V)} {i : Int} {v : V} (h : H p = some (.dK kvs)) (e : valV kvs (.inl i) = some v) (k : Q v H) : DG (.ref p) (.int i) H Q := ⟨p, v, rfl, .inl ⟨kvs, .inl i, .inl h, rfl, e.symm⟩, k⟩
def DIn (y x : V) (H : Hp) (Q : VK) : Prop := ∃ a o, x = .ref a ∧ DGet H a y o ∧ Q (.bl o.isSome) H
def DNin (y x : V) (H : Hp) (Q : VK) : Prop := ∃ a o, x = .ref a ∧ DGet H a y o ∧ Q (.bl !o.isSome) H
theorem r_din (k : ty σ H fun y H1 => td σ H1 fun x H2 => DIn y x H2 Q) : tDIn ty td σ H Q := k
theorem r_dnin (k : ty σ H fun y H1 => td σ H1 fun x H2 => DNin y x H2 Q) : tDNotIn ty td σ H Q := k
theorem r_dinI {p : Addr} {kvs : List (Key × V)} {i : Int} (h : H p = some (.dK kvs)) (k : Q (.bl (valV kvs (.inl i)).isSome) H) : DIn (.int i) (.ref p) H Q := ⟨p, _, rfl, .inl ⟨kvs, .inl i, .inl h, rfl, rfl⟩, k⟩
theorem r_dninI {p : Addr} {kvs : List (Key × V)} {i : Int} (h : H p = some (.dK kvs)) (k : Q (.bl !(valV kvs (.inl i)).isSome) H) : DNin (.int i) (.ref p) H Q := ⟨p, _, rfl, .inl ⟨kvs, .inl i, .inl h, rfl, rfl⟩, k⟩
def DPt (v x y : V) (H : Hp) (P : Hp → Prop) : Prop := ∃ a H4, x = .ref a ∧ DPut H a y v H4 ∧ P H4
theorem r_dput (k : tv σ H fun v H1 => td σ H1 fun x H2 => ty σ H2 fun y H3 => DPt v x y H3 fun H4 => nx σ H4) : sDPut td ty tv ⟨nx, rt, bk, ct⟩ σ H := k
theorem r_dputI {p : Addr} {kvs : List (Key × V)} {i : Int} {v : V} {P : Hp → Prop} (h : H p = some (.dK kvs)) (hl : kvs.length ≤ 100000) (k : ∀ H', H' p = some (.dK (putK kvs (.inl i) v)) → (∀ b, b ≠ p → H' b = H b) → P H') : DPt v (.ref p) (.int i) H P :=
  ⟨p, _, rfl, .inl ⟨kvs, .inl i, h, rfl, Nat.lt_of_le_of_lt hl (by decide), rfl⟩, k _ upd_same fun b hb => upd_ne hb⟩
def DNew (H : Hp) (Q : VK) : Prop := ∀ p, H p = none → Q (.ref p) (upd H p (.dK []))
theorem r_dnew (k : DNew H Q) : tDNewK σ H Q := k
theorem r_dnewK (k : ∀ p H', H p = none → Ext H H' → H' p = some (.dK []) → Q (.ref p) H') : DNew H Q := fun p hp => k p _ hp (Ext.new hp) upd_same
/-- {k: v} -/
def DP1 (p : Addr) (x y : V) (H2 : Hp) (Q : VK) : Prop := H2 p = some (HO.dK []) ∧ ∃ kvs : List (Key × V), [(x, y)] = List.map (fun kv => (kV kv.fst, kv.snd)) kvs ∧ kvs.length ≤ 15 ∧ Q (V.ref p) (upd H2 p (HO.dK (mergeK [] kvs)))
def Disp1 (tk tv : TE) (σ : L2.St) (H : Hp) (Q : VK) : Prop := ∀ p, H p = none → tk σ (upd H p (.dK [])) fun x H1 => tv σ H1 fun y H2 => DP1 p x y H2 Q
theorem r_disp1 (k : Disp1 td tv σ H Q) : tDisp [(td, tv)] σ H Q := k
theorem r_disp (k : ∀ p H0, H p = none → Ext H H0 → H0 p = some (.dK []) → td σ H0 fun x H1 => tv σ H1 fun y H2 => DP1 p x y H2 Q) : Disp1 td tv σ H Q := fun p hp => k p _ hp (Ext.new hp) upd_same
theorem r_dp1 {p : Addr} {i : Int} {y : V} (h : H p = some (.dK [])) (k : ∀ H3, H3 p = some (.dK [(.inl i, y)]) → (∀ b, b ≠ p → H3 b = H b) → Q (.ref p) H3) : DP1 p (.int i) y H Q :=
  ⟨h, [(.inl i, y)], rfl, Nat.le_of_ble_eq_true rfl, k _ upd_same fun b hb => upd_ne hb⟩
/-- sorted(d) -/
def SrtD : List V → Hp → VK → Prop := fun xs H Q => ∃ (a : Addr) (kvs : List (Key × V)) (ks : List Int), xs = [.ref a] ∧ Rd H a (.dK kvs) ∧ kvs.map (·.1) = ks.map Sum.inl ∧ ks.length < 64 ∧ ∀ (ys : List Int) (p : Addr), ys.Perm ks → ys.Pairwise (· ≤ ·) → H p = none → Q (.ref p) (upd H p (.lst (ys.map V.int)))
theorem sortedD {X : Cx} (hc : X.calm = true) : CallR X (.builtin "sorted") SrtD := call_sortedDI hc
theorem r_srtD {p : Addr} {kvs : List (Key × V)} {ks : List Int} (h : H p = some (.dK kvs)) (e : kvs.map (·.1) = ks.map Sum.inl) (hl : ks.length < 64) (k : ∀ (ys : List Int) q H', ys.Perm ks → ys.Pairwise (· ≤ ·) → H q = none → Ext H H' → H' q = some (.lst (ys.map V.int)) → Q (.ref q) H') : SrtD [.ref p] H Q :=
  ⟨p, kvs, ks, rfl, .inl h, e, hl, fun ys q h1 h2 hq => k ys q _ h1 h2 hq (Ext.new hq) upd_same⟩
/-! lists of ints compared -/
theorem eqvAll_ints : ∀ ns ms : List Int, PyData.eqvAll (ns.map PyData.int) (ms.map PyData.int) = decide (ns = ms)
  | [], [] => by simp [PyData.eqvAll]
  | [], m :: ms => by simp [PyData.eqvAll]
  | n :: ns, [] => by simp [PyData.eqvAll]
  | n :: ns, m :: ms => by
    rw [List.map_cons, List.map_cons]
    have h := eqvAll_ints ns ms
    simp [PyData.eqvAll, PyData.eqv, h]
    by_cases e : n = m <;> simp [e]
theorem lay_ints : ∀ ns : List Int, PyData.canLayAll0 (ns.map PyData.int) = true ∧ PyData.depthAll (ns.map PyData.int) ≤ 63
  | [] => by simp [PyData.canLayAll0, PyData.depthAll]
  | n :: ns => by
    have h := lay_ints ns
    simp [PyData.canLayAll0, PyData.canLay0, PyData.depthAll, PyData.depth, h.1]
    have := h.2
    omega
theorem shaped_ints (ns : List Int) : SeqAt.shaped (.list (ns.map PyData.int)) = true := by
  have h := lay_ints ns
  simp [SeqAt.shaped, PyData.canLay0, PyData.depth, h.1, h.2]
theorem r_otherI {a b : Addr} {ns ms : List Int} (h1 : SqL K H a (ns.map V.int)) (h2 : SqL K H b (ms.map V.int)) (k : Q (.bl (!decide (ns = ms))) H) : rOther K (.ref a) (.ref b) H Q :=
  .inr ⟨.list (ns.map PyData.int), .list (ms.map PyData.int), .lst h1 (dps_ints ns), .lst h2 (dps_ints ms), shaped_ints ns, shaped_ints ms, by
    have e : (PyData.list (ns.map PyData.int)).eqv (.list (ms.map PyData.int)) = decide (ns = ms) := by
      rw [← eqvAll_ints]
      simp [PyData.eqv]
    rw [e]
    exact k⟩
end
end L3
namespace L3
open PySem PySem.Spec PyProof.Rows L2 He
def LstRg1 (x : V) (H1 : Hp) (Q : VK) : Prop := ∃ n : Int, x = .int n ∧ RgOk 0 n ∧ ∀ q, H1 q = none → Q (.ref q) (upd H1 q (.lst (rgV 0 n)))
theorem r_listRg1 {ta : TE} {σ : L2.St} {H : Hp} {Q : VK} (k : ta σ H fun x H1 => LstRg1 x H1 Q) : tLstRg (tRg1 ta) σ H Q := k
theorem r_rg0 {n : Nat} {H : Hp} {Q : VK} (h : n ≤ 100000) (k : ∀ q H', H q = none → Ext H H' → H' q = some (.lst ((List.range n).map fun (i : Nat) => V.int (i : Nat))) → Q (.ref q) H') : LstRg1 (.int (n : Int)) H Q := by
  refine ⟨n, rfl, ⟨by decide, by decide, by omega, by omega, by omega⟩, fun q hq => k q _ hq (Ext.new hq) ?_⟩
  rw [upd_same]
  unfold rgV
  rw [show ((n : Int) - 0).toNat = n by omega]
  congr 2
  refine List.map_congr_left fun i _ => ?_
  rw [Int.zero_add]
/-! ### rows that are changed in place -/
structure RQ (p : Addr) (H1 : Hp) (ts : Addr) (as : List Addr) (st : List (List Int)) (H : Hp) : Prop where
  p1 : H1 p ≠ none
  s : Src H p
  b : But p H1 H
  t : H ts = some (.lst (as.map V.ref))
  tn : H1 ts = none
  len : as.length = st.length
  nd : as.Nodup
  row : ∀ (j : Nat) (row : List Int), st[j]? = some row → ∃ a, as[j]? = some a ∧ a ≠ p ∧ a ≠ ts ∧ H1 a = none ∧ H a = some (.lst (row.map V.int))
section
variable {p ts : Addr} {H1 H H' : Hp} {as : List Addr} {st : List (List Int)}
theorem RQ.tp (h : RQ p H1 ts as st H) : ts ≠ p := fun e => h.p1 (by rw [← e]; exact h.tn)
theorem RQ.pick (h : RQ p H1 ts as st H) (s : Src H' p) (n : ∀ b, b ≠ p → H' b = H b) : RQ p H1 ts as st H' :=
  ⟨h.p1, s, h.b.trans (.of n), (n _ h.tp).trans h.t, h.tn, h.len, h.nd, fun j r hj => by
    obtain ⟨a, a1, a2, a3, a4, a5⟩ := h.row j r hj
    exact ⟨a, a1, a2, a3, a4, (n a a2).trans a5⟩⟩
theorem RQ.but (h : RQ p H1 ts as st H) (s : Src H' p) (n : But p H H') : RQ p H1 ts as st H' :=
  ⟨h.p1, s, h.b.trans n, n _ _ h.tp h.t, h.tn, h.len, h.nd, fun j r hj => by
    obtain ⟨a, a1, a2, a3, a4, a5⟩ := h.row j r hj
    exact ⟨a, a1, a2, a3, a4, n a _ a2 a5⟩⟩
theorem RQ.ext (h : RQ p H1 ts as st H) (e : Ext H H') : RQ p H1 ts as st H' := h.but (h.s.ext e) (ext_but e)
theorem nodup_atA {l : List Addr} (h : l.Nodup) : ∀ {i j : Nat} {a : Addr}, l[i]? = some a → l[j]? = some a → i = j := by
  induction l with
  | nil => intro i j a hi; simp at hi
  | cons b l ih =>
    intro i j a hi hj
    rw [List.nodup_cons] at h
    cases i with
    | zero =>
      cases j with
      | zero => rfl
      | succ j =>
        simp at hi hj
        exact absurd (List.mem_of_getElem? hj) (hi ▸ h.1)
    | succ i =>
      cases j with
      | zero =>
        simp at hi hj
        exact absurd (List.mem_of_getElem? hi) (hj ▸ h.1)
      | succ j =>
        simp at hi hj
        rw [ih h.2 hi hj]
theorem RQ.upd (h : RQ p H1 ts as st H) {r : Nat} {a : Addr} {row' : List Int} (ha : as[r]? = some a) (h' : H' a = some (.lst (row'.map V.int))) (n : ∀ b, b ≠ a → H' b = H b) : RQ p H1 ts as (st.set r row') H' := by
  have hr : r < st.length := by rw [← h.len]; exact (List.getElem?_eq_some_iff.mp ha).1
  obtain ⟨a', a1, a2, a3, a4, a5⟩ := h.row r _ (List.getElem?_eq_getElem hr)
  rw [ha] at a1
  cases a1
  refine ⟨h.p1, h.s.stay (.of n) a2.symm, h.b.mut a4 n, (n _ a3.symm).trans h.t, h.tn, by rw [List.length_set]; exact h.len, h.nd, fun j r' hj => ?_⟩
  by_cases c : r = j
  · subst c
    rw [List.getElem?_set_self hr] at hj
    cases hj
    exact ⟨a, ha, a2, a3, a4, h'⟩
  · rw [List.getElem?_set_ne c] at hj
    obtain ⟨b, b1, b2, b3, b4, b5⟩ := h.row j r' hj
    exact ⟨b, b1, b2, b3, b4, (n b fun e => c (nodup_atA h.nd ha (e ▸ b1))).trans b5⟩
theorem RQ.add (h : RQ p H1 ts as st H) {H2 H3 : Hp} {b : Addr} {row : List Int} (hb : H b = none) (s2 : Src H2 p) (e : But p H H2) (h2 : H2 b = some (.lst (row.map V.int))) (h3 : H3 ts = some (.lst (as.map V.ref ++ [V.ref b]))) (n : ∀ c, c ≠ ts → H3 c = H2 c) : RQ p H1 ts (as ++ [b]) (st ++ [row]) H3 := by
  have h' := h.but s2 e
  have bts : b ≠ ts := fun z => by rw [z, h.t] at hb; cases hb
  have bp : b ≠ p := (src_ne h.s hb).symm
  have b1 : H1 b = none := by
    cases q : H1 b with
    | none => rfl
    | some o => rw [h.b _ _ bp q] at hb; cases hb
  have nb : b ∉ as := fun hm => by
    obtain ⟨j, hj⟩ := List.mem_iff_getElem?.mp hm
    have hl := (List.getElem?_eq_some_iff.mp hj).1
    obtain ⟨c, c1, _, _, _, c5⟩ := h.row j _ (List.getElem?_eq_getElem (by rw [← h.len]; exact hl))
    rw [hj] at c1
    cases c1
    rw [hb] at c5
    cases c5
  refine ⟨h.p1, s2.stay (.of n) h.tp.symm, h'.b.mut h.tn n, by rw [h3, List.map_append]; rfl, h.tn, by rw [List.length_append, List.length_append, h.len]; rfl, ?_, fun j r hj => ?_⟩
  · rw [List.nodup_append]
    exact ⟨h.nd, by simp, fun x hx y hy e => nb (by rw [← List.mem_singleton.mp hy, ← e]; exact hx)⟩
  · have hlen := h.len
    by_cases c : j < st.length
    · rw [List.getElem?_append_left c] at hj
      obtain ⟨x, x1, x2, x3, x4, x5⟩ := h'.row j r hj
      exact ⟨x, by rw [List.getElem?_append_left (by omega)]; exact x1, x2, x3, x4, (n x x3).trans x5⟩
    · have hlt := (List.getElem?_eq_some_iff.mp hj).1
      rw [List.length_append] at hlt
      have hlt : j < st.length + 1 := hlt
      rw [List.getElem?_append_right (by omega), show j - st.length = 0 by omega] at hj
      cases hj
      exact ⟨b, by rw [List.getElem?_append_right (by omega), show j - as.length = 0 by omega]; rfl, bp, bts, b1, (n b bts).trans h2⟩
theorem RQ.nw (h : RQ p H1 ts as st H) : Nw (fun a => a ≠ p ∧ H1 a = none) H (.ref ts) (tbD st) :=
  Grid.nw (as := as) ⟨⟨h.tp, h.tn⟩, h.t, h.len, fun j r hj => by
    obtain ⟨a, a1, a2, a3, a4, a5⟩ := h.row j r hj
    exact ⟨a, a1, ⟨a2, a4⟩, a5⟩⟩
end
end L3
namespace L3
open PySem PySem.Spec PyProof.Rows L2 He
theorem ite_joinE {b : Bool} {ta tb : TE} {σ : L2.St} {H : Hp} {Q : VK} (M : V → Hp → Prop) (h1 : ∀ Q' : VK, (∀ v H', M v H' → Q' v H') → if b = true then ta σ H Q' else tb σ H Q') (h2 : ∀ v H', M v H' → Q v H') : if b = true then ta σ H Q else tb σ H Q := h1 Q h2
theorem But.noneOf {p a : Addr} {H H' : Hp} (b : But p H H') (ap : a ≠ p) (h : H' a = none) : H a = none := by
  cases q : H a with
  | none => rfl
  | some o => rw [b _ _ ap q] at h; cases h
theorem Grid.keep {S : Addr → Prop} {H H' : Hp} {t : Addr} {as : List Addr} {st : List (List Int)} (g : Grid S H t as st) (h : ∀ a o, S a → H a = some o → H' a = some o) : Grid S H' t as st :=
  ⟨g.top, h _ _ g.top g.at_, g.len, fun i row hi => by
    obtain ⟨a, a1, a2, a3⟩ := g.row i row hi
    exact ⟨a, a1, a2, h _ _ a2 a3⟩⟩
theorem Grid.app {S : Addr → Prop} {H : Hp} {t u : Addr} {as bs : List Addr} {st su : List (List Int)} (g : Grid S H t as st) (su' : S u) (h : H u = some (.lst (as.map V.ref ++ bs.map V.ref))) (hl : bs.length = su.length) (hr : ∀ (i : Nat) (row : List Int), su[i]? = some row → ∃ a, bs[i]? = some a ∧ S a ∧ H a = some (.lst (row.map V.int))) : Grid S H u (as ++ bs) (st ++ su) := by
  refine ⟨su', by rw [h, List.map_append], by rw [List.length_append, List.length_append, g.len, hl], fun i row hi => ?_⟩
  have gl := g.len
  by_cases c : i < st.length
  · rw [List.getElem?_append_left c] at hi
    obtain ⟨a, a1, a2⟩ := g.row i row hi
    exact ⟨a, by rw [List.getElem?_append_left (by omega)]; exact a1, a2⟩
  · rw [List.getElem?_append_right (by omega)] at hi
    obtain ⟨a, a1, a2⟩ := hr _ row hi
    exact ⟨a, by rw [List.getElem?_append_right (by omega), gl]; exact a1, a2⟩
end L3
/-! Delannoy numbers, in plain Lean. -/
namespace Del
def D : Nat → Nat → Nat
  | 0, _ => 1
  | _ + 1, 0 => 1
  | d + 1, r + 1 => D d (r + 1) + D (d + 1) r + D d r
theorem D_0 (d : Nat) : D d 0 = 1 := by cases d <;> simp [D]
theorem D_z (r : Nat) : D 0 r = 1 := by simp [D]
theorem D_s (d r : Nat) : D (d + 1) (r + 1) = D d (r + 1) + D (d + 1) r + D d r := by rw [D]
def ch : Nat → Nat → Nat
  | _, 0 => 1
  | 0, _ + 1 => 0
  | n + 1, k + 1 => ch n k + ch n (k + 1)
theorem ch_0 (n : Nat) : ch n 0 = 1 := by cases n <;> simp [ch]
theorem ch_z (k : Nat) : ch 0 (k + 1) = 0 := by simp [ch]
theorem ch_s (n k : Nat) : ch (n + 1) (k + 1) = ch n k + ch n (k + 1) := by rw [ch]
theorem ch_big : ∀ {n k : Nat}, n < k → ch n k = 0
  | 0, k + 1, _ => ch_z k
  | n + 1, k + 1, h => by rw [ch_s, ch_big (by omega : n < k), ch_big (by omega : n < k + 1)]
theorem ch_mul : ∀ (n k : Nat), ch n (k + 1) * (k + 1) = ch n k * (n - k)
  | 0, k => by rw [ch_z]; simp
  | n + 1, 0 => by
    have h := ch_mul n 0
    rw [ch_0] at h
    rw [ch_s, ch_0, ch_0]
    simp at h ⊢
    omega
  | n + 1, k + 1 => by
    have h1 := ch_mul n k
    have h2 := ch_mul n (k + 1)
    by_cases hk : k < n
    · rw [ch_s n (k + 1), ch_s n k]
      have e1 : n + 1 - (k + 1) = n - k := by omega
      have e2 : n - k = (n - (k + 1)) + 1 := by omega
      rw [e1]
      have l : (ch n (k + 1) + ch n (k + 1 + 1)) * (k + 1 + 1) = ch n (k + 1) * (k + 1) + ch n (k + 1) + ch n (k + 1 + 1) * (k + 1 + 1) := by
        rw [Nat.add_mul, Nat.mul_succ (ch n (k + 1))]
      rw [l, h1, h2, Nat.add_mul]
      have m : ch n (k + 1) * (n - k) = ch n (k + 1) * (n - (k + 1)) + ch n (k + 1) := by rw [e2, Nat.mul_succ] <;> omega
      rw [m]
      omega
    · rw [ch_big (by omega : n + 1 < k + 1 + 1)]
      have e1 : n + 1 - (k + 1) = 0 := by omega
      rw [e1]
      simp
/-- the sum of f 0 .. f (n - 1) -/
def sm (f : Nat → Nat) : Nat → Nat
  | 0 => 0
  | n + 1 => sm f n + f n
theorem sm_add (f g : Nat → Nat) : ∀ n, sm (fun s => f s + g s) n = sm f n + sm g n
  | 0 => rfl
  | n + 1 => by show sm (fun s => f s + g s) n + (f n + g n) = sm f n + f n + (sm g n + g n); rw [sm_add f g n]; omega
theorem sm_congr {f g : Nat → Nat} : ∀ {n}, (∀ s, s < n → f s = g s) → sm f n = sm g n
  | 0, _ => rfl
  | n + 1, h => by show sm f n + f n = sm g n + g n; rw [sm_congr fun s hs => h s (by omega), h n (by omega)]
theorem sm_shift (f : Nat → Nat) : ∀ n, sm f (n + 1) = f 0 + sm (fun s => f (s + 1)) n
  | 0 => by show 0 + f 0 = f 0 + 0; omega
  | n + 1 => by
    have h := sm_shift f n
    show sm f (n + 1) + f (n + 1) = f 0 + (sm (fun s => f (s + 1)) n + f (n + 1))
    rw [h]; omega
theorem sm_zero {f : Nat → Nat} {n : Nat} : ∀ {m}, n ≤ m → (∀ s, n ≤ s → f s = 0) → sm f m = sm f n
  | 0, h, _ => by have : n = 0 := by omega
                  subst this; rfl
  | m + 1, h, z => by
    by_cases e : n = m + 1
    · rw [e]
    · show sm f m + f m = sm f n
      rw [sm_zero (by omega) z, z m (by omega)]; rfl
def tm (d r s : Nat) : Nat := ch d s * ch r s * 2 ^ s
theorem tm_big {d r s : Nat} (h : d < s ∨ r < s) : tm d r s = 0 := by
  unfold tm
  rcases h with h | h
  · rw [ch_big h]; simp
  · rw [ch_big h]; simp
theorem S_rec (d r n : Nat) (h : d < n) : sm (tm (d + 1) (r + 1)) (n + 1) = sm (tm d (r + 1)) (n + 1) + sm (tm (d + 1) r) (n + 1) + sm (tm d r) (n + 1) := by
  have e0 : ∀ a b, sm (tm a b) (n + 1) = 1 + sm (fun s => tm a b (s + 1)) n := fun a b => by
    rw [sm_shift]
    unfold tm
    rw [ch_0, ch_0]
  rw [e0, e0, e0, e0]
  have key : ∀ s, tm (d + 1) (r + 1) (s + 1) + tm d r (s + 1) + tm d r (s + 1) = tm d (r + 1) (s + 1) + tm (d + 1) r (s + 1) + tm d r (s + 1) + (tm d r s + tm d r s) := fun s => by
    unfold tm
    rw [ch_s d s, ch_s r s, Nat.pow_succ]
    generalize ch d s = a
    generalize ch d (s + 1) = b
    generalize ch r s = x
    generalize ch r (s + 1) = y
    generalize 2 ^ s = p
    have e1 : (a + b) * (x + y) * (p * 2) = a * x * (p * 2) + a * y * (p * 2) + b * x * (p * 2) + b * y * (p * 2) := by
      simp only [Nat.add_mul, Nat.mul_add]; omega
    have e2 : b * (x + y) * (p * 2) = b * x * (p * 2) + b * y * (p * 2) := by simp only [Nat.add_mul, Nat.mul_add]
    have e3 : (a + b) * y * (p * 2) = a * y * (p * 2) + b * y * (p * 2) := by simp only [Nat.add_mul, Nat.mul_add]
    have e4 : a * x * (p * 2) = a * x * p + a * x * p := by rw [← Nat.mul_assoc]; omega
    rw [e1, e2, e3, e4]
    omega
  have sums := sm_congr (n := n) fun s _ => key s
  simp only [sm_add] at sums
  have sh := sm_shift (tm d r) n
  have e1 : tm d r 0 = 1 := by unfold tm; rw [ch_0, ch_0]
  have top : sm (tm d r) (n + 1) = sm (tm d r) n := by show sm (tm d r) n + tm d r n = _; rw [tm_big (.inl h)]; rfl
  have e2 : sm (fun s => tm d r s) n = sm (tm d r) n := rfl
  rw [e1] at sh
  omega
theorem D_sum : ∀ (d r n : Nat), d ≤ n → D d r = sm (tm d r) (n + 1)
  | 0, r, n, _ => by
    rw [D_z, sm_zero (n := 1) (by omega) fun s hs => tm_big (.inl (by omega))]
    show 1 = 0 + tm 0 r 0
    unfold tm; rw [ch_0, ch_0]
  | d + 1, 0, n, _ => by
    rw [D_0, sm_zero (n := 1) (by omega) fun s hs => tm_big (.inr (by omega))]
    show 1 = 0 + tm (d + 1) 0 0
    unfold tm; rw [ch_0, ch_0]
  | d + 1, r + 1, n, h => by
    rw [D_s, S_rec d r n (by omega), D_sum d (r + 1) n (by omega), D_sum (d + 1) r n h, D_sum d r n (by omega)]
/-- as the law reckons it: up to the lesser -/
theorem D_min (d r : Nat) : D d r = sm (tm d r) (min d r + 1) := by
  rw [D_sum d r d (Nat.le_refl _)]
  exact sm_zero (by omega) fun s hs => tm_big (by omega)
theorem tm_next (d r s : Nat) : tm d r s * 2 * (d - s) * (r - s) = tm d r (s + 1) * ((s + 1) * (s + 1)) := by
  have h1 := ch_mul d s
  have h2 := ch_mul r s
  unfold tm
  rw [Nat.pow_succ]
  have l : ch d s * ch r s * 2 ^ s * 2 * (d - s) * (r - s) = (ch d s * (d - s)) * (ch r s * (r - s)) * (2 ^ s * 2) := by
    simp only [Nat.mul_assoc, Nat.mul_comm, Nat.mul_left_comm]
  have m : ch d (s + 1) * ch r (s + 1) * (2 ^ s * 2) * ((s + 1) * (s + 1)) = (ch d (s + 1) * (s + 1)) * (ch r (s + 1) * (s + 1)) * (2 ^ s * 2) := by
    simp only [Nat.mul_assoc, Nat.mul_comm, Nat.mul_left_comm]
  rw [l, m, h1, h2]
theorem D_comm : ∀ (d r : Nat), D d r = D r d
  | 0, r => by rw [D_z, D_0]
  | d + 1, 0 => by rw [D_z, D_0]
  | d + 1, r + 1 => by rw [D_s, D_s, D_comm d (r + 1), D_comm (d + 1) r, D_comm d r]; omega
theorem D_pos : ∀ (d r : Nat), 1 ≤ D d r
  | 0, r => by rw [D_z]; omega
  | d + 1, 0 => by rw [D_0]; omega
  | d + 1, r + 1 => by rw [D_s]; have := D_pos d r; omega
theorem D_mono1 (d r : Nat) : D d r ≤ D d (r + 1) := by
  cases d with
  | zero => rw [D_z, D_z]; omega
  | succ d => rw [D_s]; omega
theorem D_lt1 (d r : Nat) (h : 1 ≤ d) : D d r + 2 ≤ D d (r + 1) := by
  cases d with
  | zero => omega
  | succ d =>
    rw [D_s]
    have h1 := D_pos d r
    have h2 := D_pos d (r + 1)
    omega
theorem D_mono (d : Nat) {r r' : Nat} (h : r ≤ r') : D d r ≤ D d r' := by
  obtain ⟨k, rfl⟩ : ∃ k, r' = r + k := ⟨r' - r, by omega⟩
  clear h
  induction k with
  | zero => exact Nat.le_refl _
  | succ k ih => exact Nat.le_trans ih (D_mono1 d (r + k))
theorem D_ge (d r : Nat) (h : 1 ≤ d) : 2 * r + 1 ≤ D d r := by
  induction r with
  | zero => exact D_pos d 0
  | succ r ih => have := D_lt1 d r h; omega
/-- r is the least with n at most D d r -/
def Least (n d r : Nat) : Prop := n ≤ D d r ∧ ∀ r', r' < r → D d r' < n
theorem Least.uniq {n d r r' : Nat} (a : Least n d r) (b : Least n d r') : r = r' := by
  rcases Nat.lt_trichotomy r r' with h | h | h
  · have := b.2 r h; have := a.1; omega
  · exact h
  · have := a.2 r' h; have := b.1; omega
theorem least_le {n d r : Nat} (hd : 1 ≤ d) (a : Least n d r) : r ≤ n := by
  refine Nat.le_of_not_lt fun h => ?_
  have h1 := a.2 (r - 1) (by omega)
  have h2 := D_ge d (r - 1) hd
  omega
end Del
set_option maxHeartbeats 1000000
/-! MLay: layouts of parts, in plain numbers: a layout of chains to d and loads to r has at most D d r parts; the built one. -/
namespace Lay
open Del
/-! ### vectors of length d, their norm at most r: at most D d r of them -/
def nrm : List Int → Nat
  | [] => 0
  | x :: xs => x.natAbs + nrm xs
theorem part4 {α : Type} (cl : α → Nat) : ∀ (L : List α), (∀ x ∈ L, cl x < 4) → L.length = (L.filter fun x => cl x == 0).length + (L.filter fun x => cl x == 1).length + (L.filter fun x => cl x == 2).length + (L.filter fun x => cl x == 3).length
  | [], _ => rfl
  | x :: L, h => by
    have ih := part4 cl L fun y hy => h y (List.mem_cons_of_mem _ hy)
    have hx := h x List.mem_cons_self
    simp only [List.filter_cons, List.length_cons]
    have : cl x = 0 ∨ cl x = 1 ∨ cl x = 2 ∨ cl x = 3 := by omega
    rcases this with e | e | e | e <;> simp [e] <;> omega
theorem nd_map {α β : Type} {f : α → β} {L : List α} (hf : ∀ x ∈ L, ∀ y ∈ L, f x = f y → x = y) (h : L.Nodup) : (L.map f).Nodup := by
  induction L with
  | nil => simp
  | cons a L ih =>
    rw [List.nodup_cons] at h
    rw [List.map_cons, List.nodup_cons]
    refine ⟨fun z => ?_, ih (fun x hx y hy => hf x (List.mem_cons_of_mem _ hx) y (List.mem_cons_of_mem _ hy)) h.2⟩
    obtain ⟨b, hb, e⟩ := List.mem_map.mp z
    exact h.1 (hf a List.mem_cons_self b (List.mem_cons_of_mem _ hb) e.symm ▸ hb)
theorem nd_append {α : Type} {L M : List α} (h1 : L.Nodup) (h2 : M.Nodup) (h : ∀ x ∈ L, x ∉ M) : (L ++ M).Nodup := by
  rw [List.nodup_append]
  exact ⟨h1, h2, fun a ha b hb e => h a ha (e ▸ hb)⟩
def cls : List Int → Nat
  | [] => 0
  | x :: _ => if x = 0 then 0 else if 0 < x then 1 else if x = -1 then 3 else 2
theorem cls_cases (y : Int) (ys : List Int) : (y = 0 ∧ cls (y :: ys) = 0) ∨ (0 < y ∧ cls (y :: ys) = 1) ∨ (y = -1 ∧ cls (y :: ys) = 3) ∨ (y < -1 ∧ cls (y :: ys) = 2) := by
  have e : cls (y :: ys) = if y = 0 then 0 else if 0 < y then 1 else if y = -1 then 3 else 2 := rfl
  by_cases h1 : y = 0
  · rw [if_pos h1] at e; exact .inl ⟨h1, e⟩
  · rw [if_neg h1] at e
    by_cases h2 : 0 < y
    · rw [if_pos h2] at e; exact .inr (.inl ⟨h2, e⟩)
    · rw [if_neg h2] at e
      by_cases h3 : y = -1
      · rw [if_pos h3] at e; exact .inr (.inr (.inl ⟨h3, e⟩))
      · rw [if_neg h3] at e; exact .inr (.inr (.inr ⟨by omega, e⟩))
def up : List Int → List Int
  | [] => []
  | x :: xs => (if 0 < x then x - 1 else x + 1) :: xs
theorem ball : ∀ (d r : Nat) (L : List (List Int)), L.Nodup → (∀ x ∈ L, x.length = d ∧ nrm x ≤ r) → L.length ≤ D d r
  | 0, r, L, hn, h => by
    rw [D_z]
    match L, hn, h with
    | [], _, _ => exact Nat.zero_le _
    | [x], _, _ => exact Nat.le_refl _
    | x :: y :: L, hn, h =>
      have e1 := (h x List.mem_cons_self).1
      have e2 := (h y (List.mem_cons_of_mem _ List.mem_cons_self)).1
      rw [List.length_eq_zero_iff] at e1 e2
      subst e1 e2
      simp at hn
  | d + 1, 0, L, hn, h => by
    rw [D_0]
    have key : ∀ x ∈ L, x = List.replicate (d + 1) 0 := fun x hx => by
      obtain ⟨hl, hr⟩ := h x hx
      clear h hn hx
      have : ∀ (n : Nat) (x : List Int), x.length = n → nrm x ≤ 0 → x = List.replicate n 0 := by
        intro n
        induction n with
        | zero => intro x hx _; exact List.length_eq_zero_iff.mp hx
        | succ n ih =>
          intro x hx hr
          match x, hx, hr with
          | y :: ys, hx, hr =>
            have h1 : y.natAbs + nrm ys ≤ 0 := hr
            rw [ih ys (by simpa using hx) (by omega), show y = 0 by omega]
            rfl
      exact this _ x hl hr
    match L, hn, key with
    | [], _, _ => exact Nat.zero_le _
    | [x], _, _ => exact Nat.le_refl _
    | x :: y :: L, hn, key =>
      have e1 := key x List.mem_cons_self
      have e2 := key y (List.mem_cons_of_mem _ List.mem_cons_self)
      subst e1
      subst e2
      simp at hn
  | d + 1, r + 1, L, hn, h => by
    have c4 : ∀ x ∈ L, cls x < 4 := fun x hx => by
      cases x with
      | nil => simp [cls]
      | cons y ys => have := cls_cases y ys; omega
    have p := part4 cls L c4
    have sh : ∀ x ∈ L, ∃ y ys, x = y :: ys ∧ ys.length = d ∧ y.natAbs + nrm ys ≤ r + 1 := fun x hx => by
      obtain ⟨h1, h2⟩ := h x hx
      match x, h1, h2 with
      | y :: ys, h1, h2 => exact ⟨y, ys, rfl, by simpa using h1, h2⟩
    have inF : ∀ {k : Nat} {x : List Int}, x ∈ (L.filter fun x => cls x == k) → x ∈ L ∧ cls x = k := fun {k x} hx => by
      rw [List.mem_filter] at hx
      exact ⟨hx.1, by simpa using hx.2⟩
    have ndF : ∀ k : Nat, (L.filter fun x => cls x == k).Nodup := fun k => hn.filter _
    have of0 : ∀ {y : Int} {ys : List Int}, cls (y :: ys) = 0 → y = 0 := fun {y ys} e => by
      have := cls_cases y ys; omega
    have of1 : ∀ {y : Int} {ys : List Int}, cls (y :: ys) = 1 → 0 < y := fun {y ys} e => by
      have := cls_cases y ys; omega
    have of2 : ∀ {y : Int} {ys : List Int}, cls (y :: ys) = 2 → y < -1 := fun {y ys} e => by
      have := cls_cases y ys; omega
    have of3 : ∀ {y : Int} {ys : List Int}, cls (y :: ys) = 3 → y = -1 := fun {y ys} e => by
      have := cls_cases y ys; omega
    have tl : ∀ k : Nat, (k = 0 ∨ k = 3) → ((L.filter fun x => cls x == k).map List.tail).Nodup := fun k hk => by
      refine nd_map (fun x hx z hz e => ?_) (ndF k)
      obtain ⟨hx1, hx2⟩ := inF hx
      obtain ⟨hz1, hz2⟩ := inF hz
      obtain ⟨y, ys, rfl, _⟩ := sh x hx1
      obtain ⟨y', ys', rfl, _⟩ := sh z hz1
      have e : ys = ys' := e
      subst e
      rcases hk with rfl | rfl
      · rw [of0 hx2, of0 hz2]
      · rw [of3 hx2, of3 hz2]
    have b0 := ball d (r + 1) _ (tl 0 (.inl rfl)) (fun x hx => by
      obtain ⟨z, hz, rfl⟩ := List.mem_map.mp hx
      obtain ⟨hz1, hz2⟩ := inF hz
      obtain ⟨y, ys, rfl, h1, h2⟩ := sh z hz1
      exact ⟨h1, by show nrm ys ≤ _; omega⟩)
    have b3 := ball d r _ (tl 3 (.inr rfl)) (fun x hx => by
      obtain ⟨z, hz, rfl⟩ := List.mem_map.mp hx
      obtain ⟨hz1, hz2⟩ := inF hz
      obtain ⟨y, ys, rfl, h1, h2⟩ := sh z hz1
      have := of3 hz2
      exact ⟨h1, by show nrm ys ≤ _; omega⟩)
    have upN : ∀ k : Nat, (k = 1 ∨ k = 2) → ((L.filter fun x => cls x == k).map up).Nodup := fun k hk => by
      refine nd_map (fun x hx z hz e => ?_) (ndF k)
      obtain ⟨hx1, hx2⟩ := inF hx
      obtain ⟨hz1, hz2⟩ := inF hz
      obtain ⟨y, ys, rfl, _⟩ := sh x hx1
      obtain ⟨y', ys', rfl, _⟩ := sh z hz1
      unfold up at e
      injection e with e1 e2
      subst e2
      rcases hk with rfl | rfl
      · have a := of1 hx2; have b := of1 hz2
        rw [if_pos a, if_pos b] at e1
        rw [show y = y' by omega]
      · have a := of2 hx2; have b := of2 hz2
        rw [if_neg (by omega), if_neg (by omega)] at e1
        rw [show y = y' by omega]
    have b12 := ball (d + 1) r (((L.filter fun x => cls x == 1).map up) ++ ((L.filter fun x => cls x == 2).map up)) (nd_append (upN 1 (.inl rfl)) (upN 2 (.inr rfl)) (fun x hx hz => by
      obtain ⟨u, hu, rfl⟩ := List.mem_map.mp hx
      obtain ⟨v, hv, e⟩ := List.mem_map.mp hz
      obtain ⟨hx1, hx2⟩ := inF hu
      obtain ⟨hz1, hz2⟩ := inF hv
      obtain ⟨y, ys, rfl, _⟩ := sh u hx1
      obtain ⟨y', ys', rfl, _⟩ := sh v hz1
      unfold up at e
      injection e with e1 e2
      have a := of1 hx2; have b := of2 hz2
      rw [if_pos a, if_neg (by omega)] at e1
      omega)) (fun x hx => by
      rcases List.mem_append.mp hx with hx | hx
      · obtain ⟨z, hz, rfl⟩ := List.mem_map.mp hx
        obtain ⟨hz1, hz2⟩ := inF hz
        obtain ⟨y, ys, rfl, h1, h2⟩ := sh z hz1
        have a := of1 hz2
        have e : up (y :: ys) = (y - 1) :: ys := by show (if 0 < y then y - 1 else y + 1) :: ys = _; rw [if_pos a]
        rw [e]
        exact ⟨by simpa using h1, by show (y - 1).natAbs + nrm ys ≤ r; omega⟩
      · obtain ⟨z, hz, rfl⟩ := List.mem_map.mp hx
        obtain ⟨hz1, hz2⟩ := inF hz
        obtain ⟨y, ys, rfl, h1, h2⟩ := sh z hz1
        have a := of2 hz2
        have e : up (y :: ys) = (y + 1) :: ys := by show (if 0 < y then y - 1 else y + 1) :: ys = _; rw [if_neg (by omega)]
        rw [e]
        exact ⟨by simpa using h1, by show (y + 1).natAbs + nrm ys ≤ r; omega⟩)
    rw [List.length_append, List.length_map, List.length_map] at b12
    rw [List.length_map] at b0 b3
    rw [D_s]
    omega
/-! ### sums over stretches of whole numbers -/
def sI (f : Int → Int) (lo : Int) : Nat → Int
  | 0 => 0
  | n + 1 => sI f lo n + f (lo + n)
theorem sI_add (f : Int → Int) (lo : Int) (a : Nat) : ∀ b : Nat, sI f lo (a + b) = sI f lo a + sI f (lo + a) b
  | 0 => by simp [sI]
  | b + 1 => by
    show sI f lo (a + b) + f (lo + (a + b : Nat)) = _ + (sI f (lo + a) b + f (lo + a + b))
    rw [sI_add f lo a b, show lo + ((a + b : Nat) : Int) = lo + a + b by omega]
    omega
theorem sI_congr {f g : Int → Int} {lo : Int} : ∀ {n : Nat}, (∀ j, lo ≤ j → j < lo + n → f j = g j) → sI f lo n = sI g lo n
  | 0, _ => rfl
  | n + 1, h => by
    show sI f lo n + _ = sI g lo n + _
    rw [sI_congr (n := n) fun j h1 h2 => h j h1 (by omega), h (lo + n) (by omega) (by omega)]
theorem sI_le {f g : Int → Int} {lo : Int} : ∀ {n : Nat}, (∀ j, lo ≤ j → j < lo + n → f j ≤ g j) → sI f lo n ≤ sI g lo n
  | 0, _ => Int.le_refl _
  | n + 1, h => by
    show sI f lo n + _ ≤ sI g lo n + _
    have h1 := sI_le (n := n) fun j h1 h2 => h j h1 (by omega)
    have h2 := h (lo + n) (by omega) (by omega)
    omega
theorem sI_plus (f g : Int → Int) (lo : Int) : ∀ n : Nat, sI (fun j => f j + g j) lo n = sI f lo n + sI g lo n
  | 0 => rfl
  | n + 1 => by
    show sI (fun j => f j + g j) lo n + (f (lo + n) + g (lo + n)) = sI f lo n + f (lo + n) + (sI g lo n + g (lo + n))
    rw [sI_plus f g lo n]
    omega
theorem sI_zero {lo : Int} : ∀ n : Nat, sI (fun _ => 0) lo n = 0
  | 0 => rfl
  | n + 1 => by show sI _ lo n + 0 = 0; rw [sI_zero n]; rfl
theorem sI_abs (f : Int → Int) (lo : Int) : ∀ n : Nat, ((sI f lo n).natAbs : Int) ≤ sI (fun j => (f j).natAbs) lo n
  | 0 => by show ((0 : Int).natAbs : Int) ≤ 0; decide
  | n + 1 => by
    have h := sI_abs f lo n
    show ((sI f lo n + f (lo + n)).natAbs : Int) ≤ sI (fun j => (f j).natAbs) lo n + ((f (lo + n)).natAbs : Int)
    omega
/-- j's way to its parent covers the part p -/
def cov (par : Int → Int) (p j : Int) : Int := if (par j ≤ p ∧ p < j) ∨ (j ≤ p ∧ p < par j) then 1 else 0
/-- the same, with its side -/
def cs (par : Int → Int) (p j : Int) : Int := if par j ≤ p ∧ p < j then 1 else if j ≤ p ∧ p < par j then -1 else 0
theorem cs_step (par : Int → Int) (p j : Int) (h : par j ≠ j) : cs par (p + 1) j = cs par p j + (if par j = p + 1 then 1 else 0) - (if j = p + 1 then 1 else 0) := by
  unfold cs
  generalize par j = q at *
  by_cases a : q ≤ p ∧ p < j
  · rw [if_pos a, if_neg (show ¬ q = p + 1 by omega)]
    by_cases b : j = p + 1
    · rw [if_neg (by omega), if_neg (by omega), if_pos b]; rfl
    · rw [if_pos (by omega), if_neg b]; rfl
  · rw [if_neg a]
    by_cases c : j ≤ p ∧ p < q
    · rw [if_pos c, if_neg (show ¬ j = p + 1 by omega), if_neg (by omega)]
      by_cases b : q = p + 1
      · rw [if_neg (by omega), if_pos b]; rfl
      · rw [if_pos (by omega), if_neg b]; rfl
    · rw [if_neg c]
      by_cases b : q = p + 1
      · rw [if_pos b, if_neg (show ¬ j = p + 1 by omega)]
        by_cases e : p + 1 < j
        · rw [if_pos (by omega)]; rfl
        · exact absurd b (by omega)
      · rw [if_neg b]
        by_cases e : j = p + 1
        · rw [if_pos e, if_neg (by omega)]
          by_cases f : p + 1 < q
          · rw [if_pos (by omega)]; rfl
          · omega
        · rw [if_neg e, if_neg (by omega), if_neg (by omega)]; rfl
theorem cs_abs (par : Int → Int) (p j : Int) : ((cs par p j).natAbs : Int) = cov par p j := by
  unfold cs cov
  split <;> split <;> (try split) <;> (try omega)
/-- one coordinate of a part -/
def co (par : Int → Int) (lev : Int → Nat) (n : Nat) (l : Nat) (p : Int) : Int := sI (fun j => if lev j = l then cs par p j else 0) 1 (n - 1)
structure Tree (par : Int → Int) (lev : Int → Nat) (n d : Nat) : Prop where
  lo : ∀ j : Int, 1 ≤ j → j < n → 1 ≤ lev j ∧ lev j ≤ d
  up : ∀ j : Int, 1 ≤ j → j < n → lev j = lev (par j) + 1
theorem Tree.ne {par : Int → Int} {lev : Int → Nat} {n d : Nat} (T : Tree par lev n d) {j : Int} (h1 : 1 ≤ j) (h2 : j < n) : par j ≠ j := fun e => by
  have := T.up j h1 h2
  rw [e] at this
  omega
theorem co_step {par : Int → Int} {lev : Int → Nat} {n d : Nat} (T : Tree par lev n d) (l : Nat) (p : Int) (h : lev (p + 1) ≥ l) (hp : 0 ≤ p) (hpn : p + 1 < n) : co par lev n l (p + 1) = co par lev n l p - (if lev (p + 1) = l then 1 else 0) := by
  unfold co
  have e : sI (fun j => if lev j = l then cs par (p + 1) j else 0) 1 (n - 1) = sI (fun j => (if lev j = l then cs par p j else 0) + (if j = p + 1 then (if lev (p + 1) = l then -1 else 0) else 0)) 1 (n - 1) := by
    refine sI_congr fun j h1 h2 => ?_
    have h2' : j < n := by omega
    by_cases hl : lev j = l
    · have np : par j ≠ p + 1 := fun e => by
        have := T.up j h1 h2'
        rw [e] at this
        omega
      rw [if_pos hl, if_pos hl, cs_step par p j (T.ne h1 h2'), if_neg np]
      by_cases ej : j = p + 1
      · rw [if_pos ej, if_pos ej, ← ej, if_pos hl]; omega
      · rw [if_neg ej, if_neg ej]; omega
    · rw [if_neg hl, if_neg hl]
      by_cases ej : j = p + 1
      · rw [if_pos ej, ← ej, if_neg hl]; rfl
      · rw [if_neg ej]; rfl
  rw [e, sI_plus]
  have one : ∀ (c : Int) (lo : Int) (m : Nat), lo ≤ p + 1 → p + 1 < lo + m → sI (fun j => if j = p + 1 then c else 0) lo m = c := by
    intro c lo m h1 h2
    induction m with
    | zero => omega
    | succ m ih =>
      show sI _ lo m + (if lo + (m : Int) = p + 1 then c else 0) = c
      by_cases e : lo + (m : Int) = p + 1
      · rw [if_pos e]
        have z : sI (fun j => if j = p + 1 then c else 0) lo m = sI (fun _ => 0) lo m := sI_congr fun j h1 h2 => by rw [if_neg (by omega)]
        rw [z, sI_zero]
        omega
      · rw [if_neg e, ih (by omega)]
        omega
  rw [one _ _ _ (by omega) (by omega)]
  by_cases hl : lev (p + 1) = l
  · rw [if_pos hl, if_pos hl]; omega
  · rw [if_neg hl, if_neg hl]; omega
/-- between two parts some coordinate falls -/
theorem co_fall {par : Int → Int} {lev : Int → Nat} {n d : Nat} (T : Tree par lev n d) (p : Nat) : ∀ (k : Nat), p + k + 1 < n → ∃ v : Nat, p < v ∧ v ≤ p + k + 1 ∧ (∀ v' : Nat, p < v' → v' ≤ p + k + 1 → lev v ≤ lev v') ∧
    co par lev n (lev v) ((p + k + 1 : Nat) : Int) < co par lev n (lev v) (p : Int) := by
  -- the least level
  have least : ∀ (k : Nat), ∃ v : Nat, p < v ∧ v ≤ p + k + 1 ∧ ∀ v' : Nat, p < v' → v' ≤ p + k + 1 → lev v ≤ lev v' := by
    intro k
    induction k with
    | zero => exact ⟨p + 1, by omega, by omega, fun v' h1 h2 => by rw [show v' = p + 1 by omega]; exact Nat.le_refl _⟩
    | succ k ih =>
      obtain ⟨v, h1, h2, h3⟩ := ih
      by_cases c : lev ((p + (k + 1) + 1 : Nat) : Int) < lev v
      · refine ⟨p + (k + 1) + 1, by omega, by omega, fun v' a b => ?_⟩
        by_cases e : v' = p + (k + 1) + 1
        · rw [e]; exact Nat.le_refl _
        · have := h3 v' a (by omega); omega
      · refine ⟨v, h1, by omega, fun v' a b => ?_⟩
        by_cases e : v' = p + (k + 1) + 1
        · rw [e]; omega
        · exact h3 v' a (by omega)
  intro k hk
  obtain ⟨v, h1, h2, h3⟩ := least k
  refine ⟨v, h1, h2, h3, ?_⟩
  have walk : ∀ m : Nat, p + m ≤ p + k + 1 → co par lev n (lev v) ((p + m : Nat) : Int) ≤ co par lev n (lev v) (p : Int) ∧ (v ≤ p + m → co par lev n (lev v) ((p + m : Nat) : Int) < co par lev n (lev v) (p : Int)) := by
    intro m
    induction m with
    | zero => intro _; exact ⟨Int.le_refl _, fun z => by omega⟩
    | succ m ih =>
      intro hm
      obtain ⟨i1, i2⟩ := ih (by omega)
      have e : ((p + (m + 1) : Nat) : Int) = ((p + m : Nat) : Int) + 1 := by omega
      have lv := h3 (p + (m + 1)) (by omega) (by omega)
      have st := co_step T (lev v) ((p + m : Nat) : Int) (by rw [← e]; exact lv) (by omega) (by omega)
      rw [e]
      refine ⟨?_, fun z => ?_⟩
      · rw [st]; split <;> omega
      · by_cases ev : v = p + (m + 1)
        · rw [st, ← e, ← ev, if_pos rfl]
          omega
        · have := i2 (by omega)
          rw [st]; split <;> omega
  exact (walk (k + 1) (by omega)).2 (by omega)
def vec (par : Int → Int) (lev : Int → Nat) (n d : Nat) (p : Nat) : List Int := (List.range d).map fun l => co par lev n (l + 1) p
theorem nrm_append : ∀ (a b : List Int), nrm (a ++ b) = nrm a + nrm b
  | [], b => by simp [nrm]
  | x :: a, b => by
    show x.natAbs + nrm (a ++ b) = x.natAbs + nrm a + nrm b
    rw [nrm_append a b]; omega
theorem vec_nrm {par : Int → Int} {lev : Int → Nat} {n : Nat} (p : Nat) : ∀ d : Nat, ((nrm (vec par lev n d p) : Nat) : Int) ≤ sI (fun j => if 1 ≤ lev j ∧ lev j ≤ d then cov par p j else 0) 1 (n - 1)
  | 0 => by
    have : sI (fun j => if 1 ≤ lev j ∧ lev j ≤ 0 then cov par p j else 0) 1 (n - 1) = sI (fun _ => 0) 1 (n - 1) := sI_congr fun j _ _ => by rw [if_neg (by omega)]
    rw [this, sI_zero]
    exact Int.le_refl _
  | d + 1 => by
    have ih := vec_nrm (par := par) (lev := lev) (n := n) p d
    have e : vec par lev n (d + 1) p = vec par lev n d p ++ [co par lev n (d + 1) p] := by unfold vec; rw [List.range_succ, List.map_append]; rfl
    have h1 := sI_abs (fun j => if lev j = d + 1 then cs par p j else 0) 1 (n - 1)
    have h2 : sI (fun j => (((if lev j = d + 1 then cs par p j else 0).natAbs : Nat) : Int)) 1 (n - 1) = sI (fun j => if lev j = d + 1 then cov par p j else 0) 1 (n - 1) := sI_congr fun j _ _ => by
      split
      · exact cs_abs par p j
      · rfl
    have h3 : sI (fun j => if 1 ≤ lev j ∧ lev j ≤ d + 1 then cov par p j else 0) 1 (n - 1) = sI (fun j => (if 1 ≤ lev j ∧ lev j ≤ d then cov par p j else 0) + (if lev j = d + 1 then cov par p j else 0)) 1 (n - 1) := sI_congr fun j _ _ => by
      by_cases a : lev j = d + 1
      · rw [if_pos (by omega), if_neg (by omega), if_pos a]; omega
      · by_cases b : 1 ≤ lev j ∧ lev j ≤ d
        · rw [if_pos (by omega), if_pos b, if_neg a]; omega
        · rw [if_neg (by omega), if_neg b, if_neg a]; rfl
    rw [e, nrm_append, h3, sI_plus, ← h2]
    have h4 : nrm [co par lev n (d + 1) p] = (co par lev n (d + 1) p).natAbs := by simp [nrm]
    rw [h4]
    unfold co
    unfold co at *
    omega
/-- chains to d, loads to r: at most D d r parts -/
theorem most {par : Int → Int} {lev : Int → Nat} {n d r : Nat} (T : Tree par lev n d) (h : ∀ p : Nat, p < n → sI (cov par p) 1 (n - 1) ≤ r) : n ≤ D d r := by
  have key := ball d r ((List.range n).map (vec par lev n d)) (nd_map (fun x hx y hy e => ?_) List.nodup_range) (fun v hv => ?_)
  · rwa [List.length_map, List.length_range] at key
  · rw [List.mem_range] at hx hy
    have no : ∀ x y : Nat, x < y → y < n → vec par lev n d x = vec par lev n d y → False := fun x y hxy hy e => by
      obtain ⟨k, rfl⟩ : ∃ k, y = x + k + 1 := ⟨y - x - 1, by omega⟩
      obtain ⟨v, h1, h2, h3, h4⟩ := co_fall T x k hy
      have lv := T.lo v (by omega) (by omega)
      have e1 := congrArg (fun l => l[lev v - 1]?) e
      unfold vec at e1
      rw [List.getElem?_map, List.getElem?_map, List.getElem?_range (by omega)] at e1
      have e2 : co par lev n (lev v - 1 + 1) x = co par lev n (lev v - 1 + 1) ((x + k + 1 : Nat) : Int) := Option.some.inj e1
      rw [show lev v - 1 + 1 = lev v by omega] at e2
      omega
    rcases Nat.lt_trichotomy x y with c | c | c
    · exact (no x y c hy e).elim
    · exact c
    · exact (no y x c hx e.symm).elim
  · obtain ⟨p, hp, rfl⟩ := List.mem_map.mp hv
    rw [List.mem_range] at hp
    refine ⟨by unfold vec; rw [List.length_map, List.length_range], ?_⟩
    have h1 := vec_nrm (par := par) (lev := lev) (n := n) p d
    have h2 : sI (fun j => if 1 ≤ lev j ∧ lev j ≤ d then cov par p j else 0) 1 (n - 1) = sI (cov par p) 1 (n - 1) := sI_congr fun j a b => by rw [if_pos (T.lo j a (by omega))]
    have h3 := h p hp
    omega
end Lay
set_option maxHeartbeats 1000000
/-! MLay2: the built layout: as many parts as D d r, chains to d, loads to r. -/
namespace Lay
open Del
def hh (d r : Nat) : Nat := (D d r - 1) / 2
theorem D_odd : ∀ (d r : Nat), D d r % 2 = 1
  | 0, r => by rw [D_z]
  | d + 1, 0 => by rw [D_0]
  | d + 1, r + 1 => by rw [D_s]; have := D_odd d (r + 1); have := D_odd (d + 1) r; have := D_odd d r; omega
theorem hh_eq (d r : Nat) : D d r = 2 * hh d r + 1 := by have := D_odd d r; unfold hh; omega
theorem hh_z (r : Nat) : hh 0 r = 0 := by unfold hh; rw [D_z]
theorem hh_0 (d : Nat) : hh d 0 = 0 := by unfold hh; rw [D_0]
theorem hh_s (d r : Nat) : hh (d + 1) (r + 1) = hh d (r + 1) + hh (d + 1) r + hh d r + 1 := by
  have a := hh_eq (d + 1) (r + 1); have b := hh_eq d (r + 1); have c := hh_eq (d + 1) r; have e := hh_eq d r
  rw [D_s] at a
  omega
/-! m joints in a row from a root: the one that is hung on it, the joints this side of it -/
def sAt (d r m : Nat) : Nat := m - 1 - min (m - 1) (hh (d - 1) r)
def sNr (d r m : Nat) : Nat := min (sAt d r m) (hh d (r - 1))
theorem split {d r m : Nat} (hm : 1 ≤ m) (h : m ≤ hh d r) : 1 ≤ d ∧ 1 ≤ r ∧ sAt d r m < m ∧ sNr d r m ≤ sAt d r m ∧ sNr d r m ≤ hh d (r - 1) ∧ sAt d r m - sNr d r m ≤ hh (d - 1) (r - 1) ∧ m - 1 - sAt d r m ≤ hh (d - 1) r := by
  cases d with
  | zero => rw [hh_z] at h; omega
  | succ d =>
    cases r with
    | zero => rw [hh_0] at h; omega
    | succ r =>
      rw [hh_s] at h
      unfold sNr sAt
      simp only [Nat.add_sub_cancel]
      omega
/-- j is one of m joints in a row from the root, towards s -/
def In (root s : Int) (m : Nat) (j : Int) : Prop := (s = 1 ∧ root + 1 ≤ j ∧ j ≤ root + m) ∨ (s = -1 ∧ root - m ≤ j ∧ j ≤ root - 1)
def Fits (par : Int → Int) (lev : Int → Nat) : Nat → Nat → Nat → Int → Int → Nat → Nat → Prop
  | 0, _, _, _, _, m, _ => m = 0
  | f + 1, d, r, root, s, m, lv => m = 0 ∨ (par (root + s * (sAt d r m + 1 : Nat)) = root ∧ lev (root + s * (sAt d r m + 1 : Nat)) = lv + 1 ∧ Fits par lev f d (r - 1) root s (sNr d r m) lv ∧
      Fits par lev f (d - 1) (r - 1) (root + s * (sAt d r m + 1 : Nat)) (-s) (sAt d r m - sNr d r m) (lv + 1) ∧ Fits par lev f (d - 1) r (root + s * (sAt d r m + 1 : Nat)) s (m - 1 - sAt d r m) (lv + 1))
theorem sub_in {root s : Int} {m a n : Nat} (hs : s = 1 ∨ s = -1) (ha : a < m) (hn : n ≤ a) : In root s m (root + s * (a + 1 : Nat)) ∧ (∀ j, In root s n j → In root s m j ∧ j ≠ root + s * (a + 1 : Nat) ∧ ¬ In (root + s * (a + 1 : Nat)) (-s) (a - n) j ∧ ¬ In (root + s * (a + 1 : Nat)) s (m - 1 - a) j) ∧
    (∀ j, In (root + s * (a + 1 : Nat)) (-s) (a - n) j → In root s m j ∧ j ≠ root + s * (a + 1 : Nat) ∧ ¬ In (root + s * (a + 1 : Nat)) s (m - 1 - a) j) ∧ (∀ j, In (root + s * (a + 1 : Nat)) s (m - 1 - a) j → In root s m j ∧ j ≠ root + s * (a + 1 : Nat)) := by
  rcases hs with rfl | rfl
  · rw [show root + 1 * ((a + 1 : Nat) : Int) = root + a + 1 by omega]
    unfold In
    refine ⟨by omega, fun j h => ?_, fun j h => ?_, fun j h => ?_⟩ <;> refine ⟨by omega, ?_⟩
    · refine ⟨by omega, by omega, by omega⟩
    · refine ⟨by omega, by omega⟩
    · omega
  · rw [show root + -1 * ((a + 1 : Nat) : Int) = root - a - 1 by omega]
    unfold In
    refine ⟨by omega, fun j h => ?_, fun j h => ?_, fun j h => ?_⟩ <;> refine ⟨by omega, ?_⟩
    · refine ⟨by omega, by omega, by omega⟩
    · refine ⟨by omega, by omega⟩
    · omega
theorem neg_s {s : Int} (hs : s = 1 ∨ s = -1) : -s = 1 ∨ -s = -1 := by omega
theorem fits_congr {par par' : Int → Int} {lev lev' : Int → Nat} : ∀ (f d r : Nat) (root s : Int) (m lv : Nat), (s = 1 ∨ s = -1) → (∀ j, In root s m j → par' j = par j ∧ lev' j = lev j) → Fits par lev f d r root s m lv → Fits par' lev' f d r root s m lv
  | 0, _, _, _, _, _, _, _, _, h => h
  | f + 1, d, r, root, s, m, lv, hs, e, h => by
    rcases h with h | ⟨h1, h2, h3, h4, h5⟩
    · exact .inl h
    · by_cases m0 : m = 0
      · exact .inl m0
      have ha : sAt d r m < m := by unfold sAt; omega
      have hn : sNr d r m ≤ sAt d r m := by unfold sNr; omega
      obtain ⟨i0, i1, i2, i3⟩ := sub_in (root := root) hs ha hn
      refine .inr ⟨(e _ i0).1.trans h1, (e _ i0).2.trans h2, fits_congr f _ _ _ _ _ _ hs (fun j hj => e j (i1 j hj).1) h3, fits_congr f _ _ _ _ _ _ (neg_s hs) (fun j hj => e j (i2 j hj).1) h4, fits_congr f _ _ _ _ _ _ hs (fun j hj => e j (i3 j hj).1) h5⟩
open Classical in
theorem fits_ex : ∀ (f d r : Nat) (root s : Int) (m lv : Nat), (s = 1 ∨ s = -1) → m ≤ f → ∃ (par : Int → Int) (lev : Int → Nat), Fits par lev f d r root s m lv
  | 0, _, _, _, _, m, _, _, h => ⟨fun _ => 0, fun _ => 0, by show m = 0; omega⟩
  | f + 1, d, r, root, s, m, lv, hs, h => by
    by_cases m0 : m = 0
    · exact ⟨fun _ => 0, fun _ => 0, .inl m0⟩
    have ha : sAt d r m < m := by unfold sAt; omega
    have hn : sNr d r m ≤ sAt d r m := by unfold sNr; omega
    obtain ⟨i0, i1, i2, i3⟩ := sub_in (root := root) hs ha hn
    obtain ⟨pA, lA, A⟩ := fits_ex f d (r - 1) root s (sNr d r m) lv hs (by omega)
    obtain ⟨pB, lB, B⟩ := fits_ex f (d - 1) (r - 1) (root + s * (sAt d r m + 1 : Nat)) (-s) (sAt d r m - sNr d r m) (lv + 1) (neg_s hs) (by omega)
    obtain ⟨pC, lC, C⟩ := fits_ex f (d - 1) r (root + s * (sAt d r m + 1 : Nat)) s (m - 1 - sAt d r m) (lv + 1) hs (by omega)
    generalize ht : root + s * (sAt d r m + 1 : Nat) = top at *
    refine ⟨fun j => if j = top then root else if In top s (m - 1 - sAt d r m) j then pC j else if In top (-s) (sAt d r m - sNr d r m) j then pB j else pA j,
      fun j => if j = top then lv + 1 else if In top s (m - 1 - sAt d r m) j then lC j else if In top (-s) (sAt d r m - sNr d r m) j then lB j else lA j, .inr ?_⟩
    rw [ht]
    refine ⟨if_pos rfl, if_pos rfl, fits_congr f _ _ _ _ _ _ hs (fun j hj => ?_) A, fits_congr f _ _ _ _ _ _ (neg_s hs) (fun j hj => ?_) B, fits_congr f _ _ _ _ _ _ hs (fun j hj => ?_) C⟩
    · obtain ⟨_, a, b, c⟩ := i1 j hj
      exact ⟨by rw [if_neg a, if_neg c, if_neg b], by rw [if_neg a, if_neg c, if_neg b]⟩
    · obtain ⟨_, a, c⟩ := i2 j hj
      exact ⟨by rw [if_neg a, if_neg c, if_pos hj], by rw [if_neg a, if_neg c, if_pos hj]⟩
    · obtain ⟨_, a⟩ := i3 j hj
      exact ⟨by rw [if_neg a, if_pos hj], by rw [if_neg a, if_pos hj]⟩
theorem fits_tree {par : Int → Int} {lev : Int → Nat} : ∀ (f d r : Nat) (root s : Int) (m lv : Nat), (s = 1 ∨ s = -1) → m ≤ hh d r → Fits par lev f d r root s m lv → ∀ j, In root s m j →
    lv + 1 ≤ lev j ∧ lev j ≤ lv + d ∧ ((par j = root ∧ lev j = lv + 1) ∨ (In root s m (par j) ∧ lev j = lev (par j) + 1))
  | 0, _, _, _, _, m, _, _, _, h => fun j hj => by
    have h : m = 0 := h
    unfold In at hj
    omega
  | f + 1, d, r, root, s, m, lv, hs, hz, h => fun j hj => by
    by_cases m0 : m = 0
    · unfold In at hj
      omega
    rcases h with h | ⟨h1, h2, h3, h4, h5⟩
    · exact absurd h m0
    obtain ⟨d1, r1, ha, hn, z1, z2, z3⟩ := split (by omega) hz
    obtain ⟨i0, i1, i2, i3⟩ := sub_in (root := root) hs ha hn
    have A := fits_tree f _ _ _ _ _ _ hs z1 h3 j
    have B := fits_tree f _ _ _ _ _ _ (neg_s hs) z2 h4 j
    have C := fits_tree f _ _ _ _ _ _ hs z3 h5 j
    by_cases ct : j = root + s * (sAt d r m + 1 : Nat)
    · subst ct
      exact ⟨by omega, by omega, .inl ⟨h1, h2⟩⟩
    by_cases cA : In root s (sNr d r m) j
    · obtain ⟨a1, a2, a3⟩ := A cA
      refine ⟨a1, a2, a3.imp id fun ⟨a4, a5⟩ => ⟨(i1 _ a4).1, a5⟩⟩
    by_cases cB : In (root + s * (sAt d r m + 1 : Nat)) (-s) (sAt d r m - sNr d r m) j
    · obtain ⟨a1, a2, a3⟩ := B cB
      refine ⟨by omega, by omega, .inr ?_⟩
      rcases a3 with ⟨a4, a5⟩ | ⟨a4, a5⟩
      · rw [a4]; exact ⟨i0, by omega⟩
      · exact ⟨(i2 _ a4).1, a5⟩
    have cC : In (root + s * (sAt d r m + 1 : Nat)) s (m - 1 - sAt d r m) j := by
      generalize sAt d r m = a at *
      generalize sNr d r m = b at *
      rcases hs with rfl | rfl
      · rw [show root + 1 * ((a + 1 : Nat) : Int) = root + a + 1 by omega] at ct cB ⊢
        unfold In at *
        omega
      · rw [show root + -1 * ((a + 1 : Nat) : Int) = root - a - 1 by omega] at ct cB ⊢
        unfold In at *
        omega
    obtain ⟨a1, a2, a3⟩ := C cC
    refine ⟨by omega, by omega, .inr ?_⟩
    rcases a3 with ⟨a4, a5⟩ | ⟨a4, a5⟩
    · rw [a4]; exact ⟨i0, by omega⟩
    · exact ⟨(i3 _ a4).1, a5⟩
theorem fits_load {par : Int → Int} {lev : Int → Nat} (p : Int) : ∀ (f d r : Nat) (root s : Int) (m lv : Nat), m ≤ hh d r → Fits par lev f d r root s m lv →
    (s = 1 → sI (cov par p) (root + 1) m ≤ if root ≤ p ∧ p < root + m then r else 0) ∧ (s = -1 → sI (cov par p) (root - m) m ≤ if root - m ≤ p ∧ p < root then r else 0)
  | 0, _, r, root, _, m, _, _, h => by
    have h : m = 0 := h
    subst h
    refine ⟨fun _ => ?_, fun _ => ?_⟩ <;> (show (0 : Int) ≤ _; split <;> omega)
  | f + 1, d, r, root, s, m, lv, hz, h => by
    by_cases m0 : m = 0
    · subst m0
      refine ⟨fun _ => ?_, fun _ => ?_⟩ <;> (show (0 : Int) ≤ _; split <;> omega)
    rcases h with h | ⟨h1, h2, h3, h4, h5⟩
    · exact absurd h m0
    obtain ⟨d1, r1, ha, hn, z1, z2, z3⟩ := split (by omega) hz
    have A := fits_load p f _ _ _ _ _ _ z1 h3
    have B := fits_load p f _ _ _ _ _ _ z2 h4
    have C := fits_load p f _ _ _ _ _ _ z3 h5
    generalize sAt d r m = a at *
    generalize sNr d r m = b at *
    refine ⟨fun e => ?_, fun e => ?_⟩
    · subst e
      have et : root + 1 * ((a + 1 : Nat) : Int) = root + a + 1 := by omega
      rw [et] at h1 B C
      have A := A.1 rfl
      have B := B.2 rfl
      have C := C.1 rfl
      have em : m = b + ((a - b) + (1 + (m - 1 - a))) := by omega
      have l1 : sI (cov par p) (root + 1) m = sI (cov par p) (root + 1) b + (sI (cov par p) (root + 1 + b) (a - b) + (sI (cov par p) (root + 1 + b + ((a - b : Nat) : Int)) 1 + sI (cov par p) (root + 1 + b + ((a - b : Nat) : Int) + (1 : Nat)) (m - 1 - a))) := by
        conv => lhs; rw [em]
        rw [sI_add, sI_add, sI_add]
      have x1 : root + 1 + (b : Int) = root + a + 1 - ((a - b : Nat) : Int) := by omega
      have x2 : root + 1 + (b : Int) + ((a - b : Nat) : Int) = root + a + 1 := by omega
      rw [l1, x2, show root + (a : Int) + 1 + ((1 : Nat) : Int) = root + a + 1 + 1 by omega, x1]
      have lt : sI (cov par p) (root + a + 1) 1 = cov par p (root + a + 1) := by show 0 + cov par p (root + a + 1 + ((0 : Nat) : Int)) = _; rw [Int.zero_add]; congr 1; omega
      rw [lt]
      have ht : cov par p (root + a + 1) = if root ≤ p ∧ p < root + a + 1 then 1 else 0 := by
        unfold cov
        rw [h1]
        by_cases c : root ≤ p ∧ p < root + a + 1
        · rw [if_pos (.inl c), if_pos c]
        · rw [if_neg (by omega), if_neg c]
      rw [ht]
      generalize sI (cov par p) (root + 1) b = X at *
      generalize sI (cov par p) (root + a + 1 - ((a - b : Nat) : Int)) (a - b) = Y at *
      generalize sI (cov par p) (root + a + 1 + 1) (m - 1 - a) = Z at *
      by_cases c1 : root ≤ p ∧ p < root + b
      · rw [if_pos c1] at A; rw [if_neg (by omega)] at B C; rw [if_pos (by omega), if_pos (by omega)]; omega
      · rw [if_neg c1] at A
        by_cases c2 : root + a + 1 - ((a - b : Nat) : Int) ≤ p ∧ p < root + a + 1
        · rw [if_pos c2] at B; rw [if_neg (by omega)] at C; rw [if_pos (by omega), if_pos (by omega)]; omega
        · rw [if_neg c2] at B
          by_cases c3 : root + a + 1 ≤ p ∧ p < root + a + 1 + ((m - 1 - a : Nat) : Int)
          · rw [if_pos c3] at C; rw [if_neg (by omega), if_pos (by omega)]; omega
          · rw [if_neg c3] at C
            by_cases c4 : root ≤ p ∧ p < root + a + 1
            · rw [if_pos c4, if_pos (by omega)]; omega
            · rw [if_neg c4]; split <;> omega
    · subst e
      have et : root + -1 * ((a + 1 : Nat) : Int) = root - a - 1 := by omega
      rw [et] at h1 B C
      have A := A.2 rfl
      have B := B.1 rfl
      have C := C.2 rfl
      have em : m = (m - 1 - a) + (1 + ((a - b) + b)) := by omega
      have l1 : sI (cov par p) (root - m) m = sI (cov par p) (root - m) (m - 1 - a) + (sI (cov par p) (root - m + ((m - 1 - a : Nat) : Int)) 1 + (sI (cov par p) (root - m + ((m - 1 - a : Nat) : Int) + (1 : Nat)) (a - b) + sI (cov par p) (root - m + ((m - 1 - a : Nat) : Int) + (1 : Nat) + ((a - b : Nat) : Int)) b)) := by
        conv => lhs; arg 3; rw [em]
        rw [sI_add, sI_add, sI_add]
      have x1 : root - (m : Int) = root - a - 1 - ((m - 1 - a : Nat) : Int) := by omega
      have x2 : root - (m : Int) + ((m - 1 - a : Nat) : Int) = root - a - 1 := by omega
      have x3 : root - (a : Int) - 1 + ((1 : Nat) : Int) = root - a - 1 + 1 := by omega
      have x4 : root - (a : Int) - 1 + 1 + ((a - b : Nat) : Int) = root - b := by omega
      rw [l1, x2, x3, x4]
      rw [show sI (cov par p) (root - m) (m - 1 - a) = sI (cov par p) (root - a - 1 - ((m - 1 - a : Nat) : Int)) (m - 1 - a) by rw [← x1]]
      have lt : sI (cov par p) (root - a - 1) 1 = cov par p (root - a - 1) := by show 0 + cov par p (root - a - 1 + ((0 : Nat) : Int)) = _; rw [Int.zero_add]; congr 1; omega
      rw [lt]
      have ht : cov par p (root - a - 1) = if root - a - 1 ≤ p ∧ p < root then 1 else 0 := by
        unfold cov
        rw [h1]
        by_cases c : root - a - 1 ≤ p ∧ p < root
        · rw [if_pos (.inr c), if_pos c]
        · rw [if_neg (by omega), if_neg c]
      rw [ht]
      generalize sI (cov par p) (root - b) b = X at *
      generalize sI (cov par p) (root - a - 1 + 1) (a - b) = Y at *
      generalize sI (cov par p) (root - a - 1 - ((m - 1 - a : Nat) : Int)) (m - 1 - a) = Z at *
      by_cases c1 : root - b ≤ p ∧ p < root
      · rw [if_pos c1] at A; rw [if_neg (by omega)] at B C; rw [if_pos (by omega), if_pos (by omega)]; omega
      · rw [if_neg c1] at A
        by_cases c2 : root - a - 1 ≤ p ∧ p < root - a - 1 + ((a - b : Nat) : Int)
        · rw [if_pos c2] at B; rw [if_neg (by omega)] at C; rw [if_pos (by omega), if_pos (by omega)]; omega
        · rw [if_neg c2] at B
          by_cases c3 : root - a - 1 - ((m - 1 - a : Nat) : Int) ≤ p ∧ p < root - a - 1
          · rw [if_pos c3] at C; rw [if_neg (by omega), if_pos (by omega)]; omega
          · rw [if_neg c3] at C
            by_cases c4 : root - a - 1 ≤ p ∧ p < root
            · rw [if_pos c4, if_pos (by omega)]; omega
            · rw [if_neg c4]; split <;> omega
/-- the whole layout -/
structure Built (par : Int → Int) (lev : Int → Nat) (n d r : Nat) : Prop where
  l0 : lev 0 = 0
  ln : lev n = 0
  a : Fits par lev n d r 0 1 (min (n - 1) (hh d r)) 0
  b : Fits par lev n d r n (-1) (n - 1 - min (n - 1) (hh d r)) 0
theorem top_sz {n d r : Nat} (h : n ≤ D d r) : min (n - 1) (hh d r) ≤ hh d r ∧ n - 1 - min (n - 1) (hh d r) ≤ hh d r := by
  have := hh_eq d r
  omega
theorem built_ex (n d r : Nat) (hn : 1 ≤ n) : ∃ par lev, Built par lev n d r := by
  obtain ⟨pA, lA, A⟩ := fits_ex n d r 0 1 (min (n - 1) (hh d r)) 0 (.inl rfl) (by omega)
  obtain ⟨pB, lB, B⟩ := fits_ex n d r n (-1) (n - 1 - min (n - 1) (hh d r)) 0 (.inr rfl) (by omega)
  refine ⟨fun j => if j ≤ min (n - 1) (hh d r) then pA j else pB j, fun j => if j = 0 ∨ j = n then 0 else if j ≤ min (n - 1) (hh d r) then lA j else lB j, if_pos (.inl rfl), if_pos (.inr rfl), fits_congr _ _ _ _ _ _ _ (.inl rfl) (fun j hj => ?_) A, fits_congr _ _ _ _ _ _ _ (.inr rfl) (fun j hj => ?_) B⟩
  · unfold In at hj
    exact ⟨if_pos (by omega), by rw [if_neg (by omega), if_pos (by omega)]⟩
  · unfold In at hj
    exact ⟨if_neg (by omega), by rw [if_neg (by omega), if_neg (by omega)]⟩
theorem Built.step {par : Int → Int} {lev : Int → Nat} {n d r : Nat} (B : Built par lev n d r) (h : n ≤ D d r) (j : Int) (h1 : 1 ≤ j) (h2 : j < n) : 1 ≤ lev j ∧ lev j ≤ d ∧ lev j = lev (par j) + 1 ∧ 0 ≤ par j ∧ par j ≤ n := by
  obtain ⟨z1, z2⟩ := top_sz h
  by_cases c : j ≤ min (n - 1) (hh d r)
  · obtain ⟨a1, a2, a3⟩ := fits_tree _ _ _ _ _ _ _ (.inl rfl) z1 B.a j (by unfold In; omega)
    refine ⟨by omega, by omega, ?_⟩
    rcases a3 with ⟨a3, a4⟩ | ⟨a3, a4⟩
    · rw [a3, B.l0]; omega
    · unfold In at a3; omega
  · obtain ⟨a1, a2, a3⟩ := fits_tree _ _ _ _ _ _ _ (.inr rfl) z2 B.b j (by unfold In; omega)
    refine ⟨by omega, by omega, ?_⟩
    rcases a3 with ⟨a3, a4⟩ | ⟨a3, a4⟩
    · rw [a3, B.ln]; omega
    · unfold In at a3; omega
theorem Built.tree {par : Int → Int} {lev : Int → Nat} {n d r : Nat} (B : Built par lev n d r) (h : n ≤ D d r) : Tree par lev n d :=
  ⟨fun j h1 h2 => ⟨(B.step h j h1 h2).1, (B.step h j h1 h2).2.1⟩, fun j h1 h2 => (B.step h j h1 h2).2.2.1⟩
def load (par : Int → Int) (n : Nat) (p : Int) : Int := sI (cov par p) 1 (n - 1)
theorem Built.le {par : Int → Int} {lev : Int → Nat} {n d r : Nat} (B : Built par lev n d r) (h : n ≤ D d r) (hn : 1 ≤ n) (p : Int) : load par n p ≤ r := by
  obtain ⟨z1, z2⟩ := top_sz h
  have a := (fits_load p _ _ _ _ _ _ _ z1 B.a).1 rfl
  have b := (fits_load p _ _ _ _ _ _ _ z2 B.b).2 rfl
  unfold load
  have e : n - 1 = min (n - 1) (hh d r) + (n - 1 - min (n - 1) (hh d r)) := by omega
  have l : sI (cov par p) 1 (n - 1) = sI (cov par p) 1 (min (n - 1) (hh d r)) + sI (cov par p) (1 + (min (n - 1) (hh d r) : Nat)) (n - 1 - min (n - 1) (hh d r)) := by
    conv => lhs; rw [e]
    rw [sI_add]
  rw [l]
  rw [show (1 : Int) + ((min (n - 1) (hh d r) : Nat) : Int) = (n : Int) - ((n - 1 - min (n - 1) (hh d r) : Nat) : Int) by omega]
  rw [Int.zero_add] at a
  generalize min (n - 1) (hh d r) = x at *
  generalize sI (cov par p) 1 x = X at *
  generalize sI (cov par p) ((n : Int) - ((n - 1 - x : Nat) : Int)) (n - 1 - x) = Y at *
  by_cases c1 : 0 ≤ p ∧ p < 0 + (x : Int)
  · rw [if_pos (by omega)] at a; rw [if_neg (by omega)] at b; omega
  · rw [if_neg (by omega)] at a
    split at b <;> omega
/-- some part bears r -/
theorem Built.ge {par : Int → Int} {lev : Int → Nat} {n d r : Nat} (B : Built par lev n d r) (h : Least n d r) (hn : 1 ≤ n) : ∃ p : Nat, p < n ∧ load par n p = r := by
  have nn : ∀ p, 0 ≤ load par n p := fun p => by
    have : sI (fun _ => 0) 1 (n - 1) ≤ load par n p := sI_le fun j _ _ => by unfold cov; split <;> omega
    rw [sI_zero] at this
    exact this
  cases r with
  | zero => exact ⟨0, by omega, by have := B.le h.1 hn ((0 : Nat) : Int); have := nn ((0 : Nat) : Int); omega⟩
  | succ r =>
    refine Classical.byContradiction fun z => ?_
    have h1 := most (r := r) (B.tree h.1) (fun p hp => by
      have a := B.le h.1 hn p
      have b : load par n p ≠ (r + 1 : Nat) := fun e => z ⟨p, hp, e⟩
      show load par n p ≤ r
      omega)
    have h2 := h.2 r (by omega)
    omega
end Lay
set_option maxHeartbeats 1000000
/-! MCh: chains of parents in plain numbers. -/
namespace Lay
theorem nodup_len : ∀ (m : Nat) (L : List Nat), L.Nodup → (∀ x ∈ L, x < m) → L.length ≤ m
  | 0, L, _, h => by
    cases L with
    | nil => exact Nat.le_refl _
    | cons a L => exact absurd (h a List.mem_cons_self) (Nat.not_lt_zero _)
  | m + 1, L, hn, h => by
    by_cases c : m ∈ L
    · have h1 := nodup_len m (L.erase m) (hn.erase m) (fun x hx => by
        have hx' := (hn.mem_erase_iff).mp hx
        have := h x hx'.2
        omega)
      rw [List.length_erase_of_mem c] at h1
      omega
    · have h1 := nodup_len m L hn (fun x hx => by
        have := h x hx
        have : x ≠ m := fun e => c (e ▸ hx)
        omega)
      omega
/-- from j up to an end in k steps -/
inductive Ch (nx : Int → Int) (n : Nat) : Int → Nat → Prop
  | z : Ch nx n 0 0
  | n : Ch nx n n 0
  | s {j : Int} {k : Nat} : 1 ≤ j → j < n → Ch nx n (nx j) k → Ch nx n j (k + 1)
section
variable {nx : Int → Int} {n : Nat}
theorem Ch.end0 {j : Int} {k : Nat} (h : Ch nx n j k) (hj : j = 0 ∨ j = n) : k = 0 := by
  cases h with
  | z => rfl
  | n => rfl
  | s h1 h2 _ => omega
theorem Ch.step {j : Int} {k : Nat} (h : Ch nx n j k) (h1 : 1 ≤ j) (h2 : j < n) : ∃ k', k = k' + 1 ∧ Ch nx n (nx j) k' := by
  generalize e : j = i at h
  cases h with
  | z => omega
  | n => omega
  | s _ _ h => subst e; exact ⟨_, rfl, h⟩
theorem Ch.uniq : ∀ {j : Int} {k k' : Nat}, Ch nx n j k → Ch nx n j k' → k = k' := by
  intro j k k' h
  induction h generalizing k' with
  | z => intro g; exact (g.end0 (.inl rfl)).symm
  | n => intro g; exact (g.end0 (.inr rfl)).symm
  | s h1 h2 _ ih =>
    intro g
    obtain ⟨k2, e, g2⟩ := g.step h1 h2
    rw [e, ih g2]
theorem Ch.rng {j : Int} {k : Nat} (h : Ch nx n j k) : 0 ≤ j ∧ j ≤ n := by
  cases h with
  | z => omega
  | n => omega
  | s h1 h2 _ => omega
/-- joints of each length below -/
theorem Ch.down : ∀ {k : Nat} {j : Int}, Ch nx n j k → ∀ i, i ≤ k → ∃ j', Ch nx n j' i
  | 0, j, h, i, hi => ⟨j, by rw [show i = 0 by omega]; exact h⟩
  | k + 1, j, h, i, hi => by
    by_cases c : i = k + 1
    · exact ⟨j, by rw [c]; exact h⟩
    · cases h with
      | s h1 h2 g => exact Ch.down g i (by omega)
theorem Ch.lt {j : Int} {k : Nat} (h : Ch nx n j k) (hn : 1 ≤ n) : k < n := by
  refine Nat.lt_of_not_le fun c => ?_
  have key : ∀ i, ∃ x : Nat, i < n → 1 ≤ x ∧ x < n ∧ Ch nx n x (i + 1) := fun i => by
    by_cases hi : i < n
    · obtain ⟨j', g⟩ := h.down (i + 1) (by omega)
      cases g with
      | s h1 h2 g => exact ⟨j'.toNat, fun _ => ⟨by omega, by omega, by rw [Int.toNat_of_nonneg (by omega)]; exact .s h1 h2 g⟩⟩
    · exact ⟨0, fun z => absurd z hi⟩
  have nd : ((List.range n).map fun i => Classical.choose (key i) - 1).Nodup := by
    refine nd_map (fun x hx y hy e => ?_) List.nodup_range
    have a := Classical.choose_spec (key x) (List.mem_range.mp hx)
    have b := Classical.choose_spec (key y) (List.mem_range.mp hy)
    have e' : Classical.choose (key x) = Classical.choose (key y) := by omega
    rw [e'] at a
    have := a.2.2.uniq b.2.2
    omega
  have h1 := nodup_len (n - 1) _ nd (fun x hx => by
    obtain ⟨i, hi, rfl⟩ := List.mem_map.mp hx
    have a := Classical.choose_spec (key i) (List.mem_range.mp hi)
    omega)
  rw [List.length_map, List.length_range] at h1
  omega
end
open Classical in
/-- the chain's length, -1 where there is none -/
noncomputable def cl (nx : Int → Int) (n : Nat) (j : Int) : Int := if h : ∃ k, Ch nx n j k then ((Classical.choose h : Nat) : Int) else -1
section
variable {nx : Int → Int} {n : Nat}
theorem cl_of {j : Int} {k : Nat} (h : Ch nx n j k) : cl nx n j = k := by
  unfold cl
  rw [dif_pos ⟨k, h⟩]
  have := Ch.uniq (Classical.choose_spec (⟨k, h⟩ : ∃ k, Ch nx n j k)) h
  rw [this]
theorem cl_no {j : Int} (h : ¬ ∃ k, Ch nx n j k) : cl nx n j = -1 := by unfold cl; rw [dif_neg h]
theorem cl_pos {j : Int} (h : 0 ≤ cl nx n j) : Ch nx n j (cl nx n j).toNat := by
  by_cases c : ∃ k, Ch nx n j k
  · obtain ⟨k, hk⟩ := c
    rw [cl_of hk, Int.toNat_natCast]
    exact hk
  · rw [cl_no c] at h
    omega
theorem cl_ge (j : Int) : -1 ≤ cl nx n j := by
  by_cases c : ∃ k, Ch nx n j k
  · obtain ⟨k, hk⟩ := c
    rw [cl_of hk]; omega
  · rw [cl_no c]; omega
theorem cl_0 : cl nx n 0 = 0 := cl_of .z
theorem cl_n : cl nx n n = 0 := cl_of .n
theorem cl_step {j : Int} (h1 : 1 ≤ j) (h2 : j < n) : cl nx n j = if 0 ≤ cl nx n (nx j) then cl nx n (nx j) + 1 else -1 := by
  by_cases c : ∃ k, Ch nx n (nx j) k
  · obtain ⟨k, hk⟩ := c
    rw [cl_of hk, cl_of (.s h1 h2 hk), if_pos (by omega)]
    omega
  · rw [cl_no c, if_neg (by omega)]
    refine cl_no fun ⟨k, hk⟩ => ?_
    obtain ⟨k', _, g⟩ := hk.step h1 h2
    exact c ⟨k', g⟩
theorem cl_lt {j : Int} (hn : 1 ≤ n) : cl nx n j < n := by
  by_cases c : 0 ≤ cl nx n j
  · have := (cl_pos c).lt hn
    omega
  · omega
/-- a way that comes back has no end -/
theorem ring {w : Nat → Int} : ∀ (m : Nat), (∀ i, i < m → 1 ≤ w i ∧ w i < n ∧ w (i + 1) = nx (w i)) → ∀ {k : Nat}, Ch nx n (w 0) k → ∃ k', k = k' + m ∧ Ch nx n (w m) k'
  | 0, _, k, h => ⟨k, rfl, h⟩
  | m + 1, hw, k, h => by
    obtain ⟨k', e, g⟩ := ring m (fun i hi => hw i (by omega)) h
    obtain ⟨a, b, c⟩ := hw m (by omega)
    obtain ⟨k2, e2, g2⟩ := g.step a b
    exact ⟨k2, by omega, by rw [c]; exact g2⟩
theorem ring_no {w : Nat → Int} {m : Nat} (hm : 1 ≤ m) (hw : ∀ i, i < m → 1 ≤ w i ∧ w i < n ∧ w (i + 1) = nx (w i)) (e : w m = w 0) : cl nx n (w 0) = -1 := by
  refine cl_no fun ⟨k, h⟩ => ?_
  obtain ⟨k', e1, g⟩ := ring m hw h
  rw [e] at g
  have := h.uniq g
  omega
/-- all joints come to an end: a layout -/
theorem tree_of {d : Nat} (hr : ∀ j : Int, 1 ≤ j → j < n → 0 ≤ cl nx n j ∧ cl nx n j ≤ d) : Tree nx (fun j => (cl nx n j).toNat) n d := by
  refine ⟨fun j h1 h2 => ?_, fun j h1 h2 => ?_⟩
  · obtain ⟨a, b⟩ := hr j h1 h2
    have e := cl_step (nx := nx) h1 h2
    split at e <;> omega
  · obtain ⟨a, b⟩ := hr j h1 h2
    have e := cl_step (nx := nx) h1 h2
    split at e <;> omega
theorem cl_congr {nx' : Int → Int} (h : ∀ j : Int, 1 ≤ j → j < n → nx' j = nx j) : ∀ j, cl nx' n j = cl nx n j := by
  have key : ∀ {a b : Int → Int}, (∀ j : Int, 1 ≤ j → j < n → a j = b j) → ∀ {j : Int} {k : Nat}, Ch a n j k → Ch b n j k := by
    intro a b hab j k c
    induction c with
    | z => exact .z
    | n => exact .n
    | s h1 h2 _ ih => rw [hab _ h1 h2] at ih; exact .s h1 h2 ih
  intro j
  by_cases c : ∃ k, Ch nx n j k
  · obtain ⟨k, hk⟩ := c
    rw [cl_of hk, cl_of (key (fun j h1 h2 => (h j h1 h2).symm) hk)]
  · rw [cl_no c]
    refine cl_no fun ⟨k, hk⟩ => c ⟨k, key h hk⟩
end
end Lay
set_option maxRecDepth 100000
set_option maxHeartbeats 0
namespace K29
open PySem PySem.Spec PyProof.Rows L2 L3
/-! ### where the defs stand -/
def top (i : Nat) : Stmt := PySem.Challenge.pw_toldoutside_k29_sums_and_rows_that_part.main.body.getD i (.Pass ⟨0, 0, 0, 0⟩)
abbrev s_bound : Stmt := top 20
abbrev s_check_widths : Stmt := top 22
abbrev s_is_state : Stmt := top 23
abbrev s_check_states : Stmt := top 24
abbrev s_check_table : Stmt := top 25
abbrev s_words_to : Stmt := top 27
abbrev s_parted_by_put : Stmt := top 28
abbrev s_parted_by_take : Stmt := top 29
abbrev s_order_of : Stmt := top 30
abbrev s_check_group : Stmt := top 31
abbrev s__law_source : Stmt := top 33
abbrev s__law_pick : Stmt := top 34
abbrev s__law_shuffled : Stmt := top 35
abbrev s__law_same : Stmt := top 36
abbrev s__law_copied : Stmt := top 37
abbrev s__law_fault : Stmt := top 38
abbrev s__law_run : Stmt := top 39
abbrev s__law_come : Stmt := top 40
abbrev s__law_sum : Stmt := top 41
abbrev s__law_f_asked : Stmt := top 42
abbrev s__law_f_letters : Stmt := top 43
abbrev s__law_f_at : Stmt := top 44
abbrev s__law_f_commute : Stmt := top 45
abbrev s__law_f_shown : Stmt := top 46
abbrev s__law_f_table : Stmt := top 47
abbrev s__law_f_wrong : Stmt := top 48
abbrev s_law : Stmt := top 49
abbrev i_TooMany : Stmt := inClass (top 2) 0
abbrev i_BadText : Stmt := inClass (top 3) 0
abbrev i_BadFormat : Stmt := inClass (top 4) 0
abbrev i_BadValue : Stmt := inClass (top 5) 0
abbrev i_BadShape : Stmt := inClass (top 6) 0
abbrev i_BadRow : Stmt := inClass (top 7) 0
abbrev i_BadSet : Stmt := inClass (top 8) 0
abbrev i_BadReader : Stmt := inClass (top 9) 0
abbrev i_BadLayout : Stmt := inClass (top 10) 0
abbrev i_BadCheck : Stmt := inClass (top 11) 0
abbrev i_BadCode : Stmt := inClass (top 12) 0
abbrev i_BadFeed : Stmt := inClass (top 13) 0
abbrev i_BadEdit : Stmt := inClass (top 14) 0
abbrev i_BadPatch : Stmt := inClass (top 15) 0
abbrev i_BadPaper : Stmt := inClass (top 16) 0
abbrev i_BadDeed : Stmt := inClass (top 17) 0
/-! ### what the head tells -/
def errs : List Str := (["TooMany", "BadText", "BadFormat", "BadValue", "BadShape", "BadRow", "BadSet", "BadReader", "BadLayout", "BadCheck", "BadCode", "BadFeed", "BadEdit", "BadPatch", "BadPaper", "BadDeed"] : List Str)
structure Txt (w : World) (K : PySem.W.Frag) (mg : Str → Option Value) : Prop where
  g_bound : mg "bound" = some (.ref (He.ga K "bound"))
  d_bound : ∃ fd, FunD K "bound" "bound" (defArgs s_bound) (defBody s_bound) (defScope s_bound) [] [] (He.ga K "bound") fd
  g_check_widths : mg "check_widths" = some (.ref (He.ga K "check_widths"))
  d_check_widths : ∃ fd, FunD K "check_widths" "check_widths" (defArgs s_check_widths) (defBody s_check_widths) (defScope s_check_widths) [] [] (He.ga K "check_widths") fd
  g_is_state : mg "is_state" = some (.ref (He.ga K "is_state"))
  d_is_state : ∃ fd, FunD K "is_state" "is_state" (defArgs s_is_state) (defBody s_is_state) (defScope s_is_state) [] [] (He.ga K "is_state") fd
  g_check_states : mg "check_states" = some (.ref (He.ga K "check_states"))
  d_check_states : ∃ fd, FunD K "check_states" "check_states" (defArgs s_check_states) (defBody s_check_states) (defScope s_check_states) [] [] (He.ga K "check_states") fd
  g_check_table : mg "check_table" = some (.ref (He.ga K "check_table"))
  d_check_table : ∃ fd, FunD K "check_table" "check_table" (defArgs s_check_table) (defBody s_check_table) (defScope s_check_table) [] [] (He.ga K "check_table") fd
  g_words_to : mg "words_to" = some (.ref (He.ga K "words_to"))
  d_words_to : ∃ fd, FunD K "words_to" "words_to" (defArgs s_words_to) (defBody s_words_to) (defScope s_words_to) [] [] (He.ga K "words_to") fd
  g_parted_by_put : mg "parted_by_put" = some (.ref (He.ga K "parted_by_put"))
  d_parted_by_put : ∃ fd, FunD K "parted_by_put" "parted_by_put" (defArgs s_parted_by_put) (defBody s_parted_by_put) (defScope s_parted_by_put) [] [] (He.ga K "parted_by_put") fd
  g_parted_by_take : mg "parted_by_take" = some (.ref (He.ga K "parted_by_take"))
  d_parted_by_take : ∃ fd, FunD K "parted_by_take" "parted_by_take" (defArgs s_parted_by_take) (defBody s_parted_by_take) (defScope s_parted_by_take) [] [] (He.ga K "parted_by_take") fd
  g_order_of : mg "order_of" = some (.ref (He.ga K "order_of"))
  d_order_of : ∃ fd, FunD K "order_of" "order_of" (defArgs s_order_of) (defBody s_order_of) (defScope s_order_of) [] [] (He.ga K "order_of") fd
  g_check_group : mg "check_group" = some (.ref (He.ga K "check_group"))
  d_check_group : ∃ fd, FunD K "check_group" "check_group" (defArgs s_check_group) (defBody s_check_group) (defScope s_check_group) [] [] (He.ga K "check_group") fd
  g__law_source : mg "_law_source" = some (.ref (He.ga K "_law_source"))
  d__law_source : ∃ fd, FunD K "_law_source" "_law_source" (defArgs s__law_source) (defBody s__law_source) (defScope s__law_source) [] [] (He.ga K "_law_source") fd
  g__law_pick : mg "_law_pick" = some (.ref (He.ga K "_law_pick"))
  d__law_pick : ∃ fd, FunD K "_law_pick" "_law_pick" (defArgs s__law_pick) (defBody s__law_pick) (defScope s__law_pick) [] [] (He.ga K "_law_pick") fd
  g__law_shuffled : mg "_law_shuffled" = some (.ref (He.ga K "_law_shuffled"))
  d__law_shuffled : ∃ fd, FunD K "_law_shuffled" "_law_shuffled" (defArgs s__law_shuffled) (defBody s__law_shuffled) (defScope s__law_shuffled) [] [] (He.ga K "_law_shuffled") fd
  g__law_same : mg "_law_same" = some (.ref (He.ga K "_law_same"))
  d__law_same : ∃ fd, FunD K "_law_same" "_law_same" (defArgs s__law_same) (defBody s__law_same) (defScope s__law_same) [] [] (He.ga K "_law_same") fd
  g__law_copied : mg "_law_copied" = some (.ref (He.ga K "_law_copied"))
  d__law_copied : ∃ fd, FunD K "_law_copied" "_law_copied" (defArgs s__law_copied) (defBody s__law_copied) (defScope s__law_copied) [] [] (He.ga K "_law_copied") fd
  g__law_fault : mg "_law_fault" = some (.ref (He.ga K "_law_fault"))
  d__law_fault : ∃ fd, FunD K "_law_fault" "_law_fault" (defArgs s__law_fault) (defBody s__law_fault) (defScope s__law_fault) [] [] (He.ga K "_law_fault") fd
  g__law_run : mg "_law_run" = some (.ref (He.ga K "_law_run"))
  d__law_run : ∃ fd, FunD K "_law_run" "_law_run" (defArgs s__law_run) (defBody s__law_run) (defScope s__law_run) [] [] (He.ga K "_law_run") fd
  g__law_come : mg "_law_come" = some (.ref (He.ga K "_law_come"))
  d__law_come : ∃ fd, FunD K "_law_come" "_law_come" (defArgs s__law_come) (defBody s__law_come) (defScope s__law_come) [] [] (He.ga K "_law_come") fd
  g__law_sum : mg "_law_sum" = some (.ref (He.ga K "_law_sum"))
  d__law_sum : ∃ fd, FunD K "_law_sum" "_law_sum" (defArgs s__law_sum) (defBody s__law_sum) (defScope s__law_sum) [] [] (He.ga K "_law_sum") fd
  g__law_f_asked : mg "_law_f_asked" = some (.ref (He.ga K "_law_f_asked"))
  d__law_f_asked : ∃ fd, FunD K "_law_f_asked" "_law_f_asked" (defArgs s__law_f_asked) (defBody s__law_f_asked) (defScope s__law_f_asked) [] [] (He.ga K "_law_f_asked") fd
  g__law_f_letters : mg "_law_f_letters" = some (.ref (He.ga K "_law_f_letters"))
  d__law_f_letters : ∃ fd, FunD K "_law_f_letters" "_law_f_letters" (defArgs s__law_f_letters) (defBody s__law_f_letters) (defScope s__law_f_letters) [] [] (He.ga K "_law_f_letters") fd
  g__law_f_at : mg "_law_f_at" = some (.ref (He.ga K "_law_f_at"))
  d__law_f_at : ∃ fd, FunD K "_law_f_at" "_law_f_at" (defArgs s__law_f_at) (defBody s__law_f_at) (defScope s__law_f_at) [] [] (He.ga K "_law_f_at") fd
  g__law_f_commute : mg "_law_f_commute" = some (.ref (He.ga K "_law_f_commute"))
  d__law_f_commute : ∃ fd, FunD K "_law_f_commute" "_law_f_commute" (defArgs s__law_f_commute) (defBody s__law_f_commute) (defScope s__law_f_commute) [] [] (He.ga K "_law_f_commute") fd
  g__law_f_shown : mg "_law_f_shown" = some (.ref (He.ga K "_law_f_shown"))
  d__law_f_shown : ∃ fd, FunD K "_law_f_shown" "_law_f_shown" (defArgs s__law_f_shown) (defBody s__law_f_shown) (defScope s__law_f_shown) [] [] (He.ga K "_law_f_shown") fd
  g__law_f_table : mg "_law_f_table" = some (.ref (He.ga K "_law_f_table"))
  d__law_f_table : ∃ fd, FunD K "_law_f_table" "_law_f_table" (defArgs s__law_f_table) (defBody s__law_f_table) (defScope s__law_f_table) [] [] (He.ga K "_law_f_table") fd
  g__law_f_wrong : mg "_law_f_wrong" = some (.ref (He.ga K "_law_f_wrong"))
  d__law_f_wrong : ∃ fd, FunD K "_law_f_wrong" "_law_f_wrong" (defArgs s__law_f_wrong) (defBody s__law_f_wrong) (defScope s__law_f_wrong) [] [] (He.ga K "_law_f_wrong") fd
  g_law : mg "law" = some (.ref (He.ga K "law"))
  d_law : ∃ fd, FunD K "law" "law" (defArgs s_law) (defBody s_law) (defScope s_law) [] [] (He.ga K "law") fd
  g_TooMany : mg "TooMany" = some (.ref (He.ga K "TooMany"))
  e_TooMany : ErrC K "TooMany" (["what"] : List Str)
  d_TooMany : ∃ fd, FunD K "__init__" "TooMany.__init__" (defArgs i_TooMany) (defBody i_TooMany) (defScope i_TooMany) [] [] (He.ma K (He.ga K "TooMany") "__init__") fd
  g_BadText : mg "BadText" = some (.ref (He.ga K "BadText"))
  e_BadText : ErrC K "BadText" (["line"] : List Str)
  d_BadText : ∃ fd, FunD K "__init__" "BadText.__init__" (defArgs i_BadText) (defBody i_BadText) (defScope i_BadText) [] [] (He.ma K (He.ga K "BadText") "__init__") fd
  g_BadFormat : mg "BadFormat" = some (.ref (He.ga K "BadFormat"))
  e_BadFormat : ErrC K "BadFormat" (["line", "what"] : List Str)
  d_BadFormat : ∃ fd, FunD K "__init__" "BadFormat.__init__" (defArgs i_BadFormat) (defBody i_BadFormat) (defScope i_BadFormat) [] [] (He.ma K (He.ga K "BadFormat") "__init__") fd
  g_BadValue : mg "BadValue" = some (.ref (He.ga K "BadValue"))
  e_BadValue : ErrC K "BadValue" (["path", "what"] : List Str)
  d_BadValue : ∃ fd, FunD K "__init__" "BadValue.__init__" (defArgs i_BadValue) (defBody i_BadValue) (defScope i_BadValue) [] [] (He.ma K (He.ga K "BadValue") "__init__") fd
  g_BadShape : mg "BadShape" = some (.ref (He.ga K "BadShape"))
  e_BadShape : ErrC K "BadShape" (["place"] : List Str)
  d_BadShape : ∃ fd, FunD K "__init__" "BadShape.__init__" (defArgs i_BadShape) (defBody i_BadShape) (defScope i_BadShape) [] [] (He.ma K (He.ga K "BadShape") "__init__") fd
  g_BadRow : mg "BadRow" = some (.ref (He.ga K "BadRow"))
  e_BadRow : ErrC K "BadRow" (["what", "place"] : List Str)
  d_BadRow : ∃ fd, FunD K "__init__" "BadRow.__init__" (defArgs i_BadRow) (defBody i_BadRow) (defScope i_BadRow) [] [] (He.ma K (He.ga K "BadRow") "__init__") fd
  g_BadSet : mg "BadSet" = some (.ref (He.ga K "BadSet"))
  e_BadSet : ErrC K "BadSet" (["place", "joint"] : List Str)
  d_BadSet : ∃ fd, FunD K "__init__" "BadSet.__init__" (defArgs i_BadSet) (defBody i_BadSet) (defScope i_BadSet) [] [] (He.ma K (He.ga K "BadSet") "__init__") fd
  g_BadReader : mg "BadReader" = some (.ref (He.ga K "BadReader"))
  e_BadReader : ErrC K "BadReader" (["step", "what"] : List Str)
  d_BadReader : ∃ fd, FunD K "__init__" "BadReader.__init__" (defArgs i_BadReader) (defBody i_BadReader) (defScope i_BadReader) [] [] (He.ma K (He.ga K "BadReader") "__init__") fd
  g_BadLayout : mg "BadLayout" = some (.ref (He.ga K "BadLayout"))
  e_BadLayout : ErrC K "BadLayout" (["what"] : List Str)
  d_BadLayout : ∃ fd, FunD K "__init__" "BadLayout.__init__" (defArgs i_BadLayout) (defBody i_BadLayout) (defScope i_BadLayout) [] [] (He.ma K (He.ga K "BadLayout") "__init__") fd
  g_BadCheck : mg "BadCheck" = some (.ref (He.ga K "BadCheck"))
  e_BadCheck : ErrC K "BadCheck" (["what"] : List Str)
  d_BadCheck : ∃ fd, FunD K "__init__" "BadCheck.__init__" (defArgs i_BadCheck) (defBody i_BadCheck) (defScope i_BadCheck) [] [] (He.ma K (He.ga K "BadCheck") "__init__") fd
  g_BadCode : mg "BadCode" = some (.ref (He.ga K "BadCode"))
  e_BadCode : ErrC K "BadCode" (["row", "what"] : List Str)
  d_BadCode : ∃ fd, FunD K "__init__" "BadCode.__init__" (defArgs i_BadCode) (defBody i_BadCode) (defScope i_BadCode) [] [] (He.ma K (He.ga K "BadCode") "__init__") fd
  g_BadFeed : mg "BadFeed" = some (.ref (He.ga K "BadFeed"))
  e_BadFeed : ErrC K "BadFeed" (["what"] : List Str)
  d_BadFeed : ∃ fd, FunD K "__init__" "BadFeed.__init__" (defArgs i_BadFeed) (defBody i_BadFeed) (defScope i_BadFeed) [] [] (He.ma K (He.ga K "BadFeed") "__init__") fd
  g_BadEdit : mg "BadEdit" = some (.ref (He.ga K "BadEdit"))
  e_BadEdit : ErrC K "BadEdit" (["what"] : List Str)
  d_BadEdit : ∃ fd, FunD K "__init__" "BadEdit.__init__" (defArgs i_BadEdit) (defBody i_BadEdit) (defScope i_BadEdit) [] [] (He.ma K (He.ga K "BadEdit") "__init__") fd
  g_BadPatch : mg "BadPatch" = some (.ref (He.ga K "BadPatch"))
  e_BadPatch : ErrC K "BadPatch" (["row", "what"] : List Str)
  d_BadPatch : ∃ fd, FunD K "__init__" "BadPatch.__init__" (defArgs i_BadPatch) (defBody i_BadPatch) (defScope i_BadPatch) [] [] (He.ma K (He.ga K "BadPatch") "__init__") fd
  g_BadPaper : mg "BadPaper" = some (.ref (He.ga K "BadPaper"))
  e_BadPaper : ErrC K "BadPaper" (["line"] : List Str)
  d_BadPaper : ∃ fd, FunD K "__init__" "BadPaper.__init__" (defArgs i_BadPaper) (defBody i_BadPaper) (defScope i_BadPaper) [] [] (He.ma K (He.ga K "BadPaper") "__init__") fd
  g_BadDeed : mg "BadDeed" = some (.ref (He.ga K "BadDeed"))
  e_BadDeed : ErrC K "BadDeed" (["what"] : List Str)
  d_BadDeed : ∃ fd, FunD K "__init__" "BadDeed.__init__" (defArgs i_BadDeed) (defBody i_BadDeed) (defScope i_BadDeed) [] [] (He.ma K (He.ga K "BadDeed") "__init__") fd
  g_OutsideError : mg "OutsideError" = some (.ref (He.ga K "OutsideError"))
  kits : Kits K "OutsideError" errs
  g_LIMITS : mg "LIMITS" = some (.ref (He.ga K "LIMITS"))
  t_LIMITS : ∀ k i, (k, i) ∈ ([("lines", 300), ("words", 40), ("bears", 3), ("checks", 6), ("letters", 8), ("states", 12), ("forms", 12), ("parts", 8), ("told", 24), ("pick", 6), ("width", 30), ("copies", 7), ("depth", 6), ("versions", 9), ("promises", 20), ("edits", 100), ("number", 1000000000000000000000000000000), ("nested", 60), ("shape", 400), ("elements", 400), ("signs", 4000), ("sets", 64), ("ways", 7), ("asks", 300), ("layout", 400), ("reach", 10000), ("deeds", 200), ("paper", 4000)] : List (Str × Int)) → KDct K w (He.ga K "LIMITS") k (.int i)
  f_ValueError : mg "ValueError" = none
  f_sorted : mg "sorted" = none
  f_range : mg "range" = none
  f_list : mg "list" = none
  f_isinstance : mg "isinstance" = none
  f_dict : mg "dict" = none
  f_tuple : mg "tuple" = none
  f_int : mg "int" = none
  f_len : mg "len" = none
  f_abs : mg "abs" = none
  f_all : mg "all" = none
  f_bool : mg "bool" = none
  f_str : mg "str" = none
  f_any : mg "any" = none
  f_sum : mg "sum" = none
  f_set : mg "set" = none
def fa : List He.Fa := [.glo "bound", .glo "check_widths", .glo "is_state", .glo "check_states", .glo "check_table", .glo "words_to", .glo "parted_by_put", .glo "parted_by_take", .glo "order_of", .glo "check_group", .glo "_law_source", .glo "_law_pick", .glo "_law_shuffled", .glo "_law_same", .glo "_law_copied", .glo "_law_fault", .glo "_law_run", .glo "_law_come", .glo "_law_sum", .glo "_law_f_asked", .glo "_law_f_letters", .glo "_law_f_at", .glo "_law_f_commute", .glo "_law_f_shown", .glo "_law_f_table", .glo "_law_f_wrong", .glo "law", .glo "TooMany", .glo "BadText", .glo "BadFormat", .glo "BadValue", .glo "BadShape", .glo "BadRow", .glo "BadSet", .glo "BadReader", .glo "BadLayout", .glo "BadCheck", .glo "BadCode", .glo "BadFeed", .glo "BadEdit", .glo "BadPatch", .glo "BadPaper", .glo "BadDeed", .glo "OutsideError", .glo "LIMITS", .free "ValueError", .free "sorted", .free "range", .free "list", .free "isinstance", .free "dict", .free "tuple", .free "int", .free "len", .free "abs", .free "all", .free "bool", .free "str", .free "any", .free "sum", .free "set"]
def fn : List He.DefD := [
  ⟨("bound", none), "bound", "bound", defArgs s_bound, defBody s_bound, defScope s_bound, [], []⟩,
  ⟨("check_widths", none), "check_widths", "check_widths", defArgs s_check_widths, defBody s_check_widths, defScope s_check_widths, [], []⟩,
  ⟨("is_state", none), "is_state", "is_state", defArgs s_is_state, defBody s_is_state, defScope s_is_state, [], []⟩,
  ⟨("check_states", none), "check_states", "check_states", defArgs s_check_states, defBody s_check_states, defScope s_check_states, [], []⟩,
  ⟨("check_table", none), "check_table", "check_table", defArgs s_check_table, defBody s_check_table, defScope s_check_table, [], []⟩,
  ⟨("words_to", none), "words_to", "words_to", defArgs s_words_to, defBody s_words_to, defScope s_words_to, [], []⟩,
  ⟨("parted_by_put", none), "parted_by_put", "parted_by_put", defArgs s_parted_by_put, defBody s_parted_by_put, defScope s_parted_by_put, [], []⟩,
  ⟨("parted_by_take", none), "parted_by_take", "parted_by_take", defArgs s_parted_by_take, defBody s_parted_by_take, defScope s_parted_by_take, [], []⟩,
  ⟨("order_of", none), "order_of", "order_of", defArgs s_order_of, defBody s_order_of, defScope s_order_of, [], []⟩,
  ⟨("check_group", none), "check_group", "check_group", defArgs s_check_group, defBody s_check_group, defScope s_check_group, [], []⟩,
  ⟨("_law_source", none), "_law_source", "_law_source", defArgs s__law_source, defBody s__law_source, defScope s__law_source, [], []⟩,
  ⟨("_law_pick", none), "_law_pick", "_law_pick", defArgs s__law_pick, defBody s__law_pick, defScope s__law_pick, [], []⟩,
  ⟨("_law_shuffled", none), "_law_shuffled", "_law_shuffled", defArgs s__law_shuffled, defBody s__law_shuffled, defScope s__law_shuffled, [], []⟩,
  ⟨("_law_same", none), "_law_same", "_law_same", defArgs s__law_same, defBody s__law_same, defScope s__law_same, [], []⟩,
  ⟨("_law_copied", none), "_law_copied", "_law_copied", defArgs s__law_copied, defBody s__law_copied, defScope s__law_copied, [], []⟩,
  ⟨("_law_fault", none), "_law_fault", "_law_fault", defArgs s__law_fault, defBody s__law_fault, defScope s__law_fault, [], []⟩,
  ⟨("_law_run", none), "_law_run", "_law_run", defArgs s__law_run, defBody s__law_run, defScope s__law_run, [], []⟩,
  ⟨("_law_come", none), "_law_come", "_law_come", defArgs s__law_come, defBody s__law_come, defScope s__law_come, [], []⟩,
  ⟨("_law_sum", none), "_law_sum", "_law_sum", defArgs s__law_sum, defBody s__law_sum, defScope s__law_sum, [], []⟩,
  ⟨("_law_f_asked", none), "_law_f_asked", "_law_f_asked", defArgs s__law_f_asked, defBody s__law_f_asked, defScope s__law_f_asked, [], []⟩,
  ⟨("_law_f_letters", none), "_law_f_letters", "_law_f_letters", defArgs s__law_f_letters, defBody s__law_f_letters, defScope s__law_f_letters, [], []⟩,
  ⟨("_law_f_at", none), "_law_f_at", "_law_f_at", defArgs s__law_f_at, defBody s__law_f_at, defScope s__law_f_at, [], []⟩,
  ⟨("_law_f_commute", none), "_law_f_commute", "_law_f_commute", defArgs s__law_f_commute, defBody s__law_f_commute, defScope s__law_f_commute, [], []⟩,
  ⟨("_law_f_shown", none), "_law_f_shown", "_law_f_shown", defArgs s__law_f_shown, defBody s__law_f_shown, defScope s__law_f_shown, [], []⟩,
  ⟨("_law_f_table", none), "_law_f_table", "_law_f_table", defArgs s__law_f_table, defBody s__law_f_table, defScope s__law_f_table, [], []⟩,
  ⟨("_law_f_wrong", none), "_law_f_wrong", "_law_f_wrong", defArgs s__law_f_wrong, defBody s__law_f_wrong, defScope s__law_f_wrong, [], []⟩,
  ⟨("law", none), "law", "law", defArgs s_law, defBody s_law, defScope s_law, [], []⟩,
  ⟨("TooMany", some "__init__"), "__init__", "TooMany.__init__", defArgs i_TooMany, defBody i_TooMany, defScope i_TooMany, [], []⟩,
  ⟨("BadText", some "__init__"), "__init__", "BadText.__init__", defArgs i_BadText, defBody i_BadText, defScope i_BadText, [], []⟩,
  ⟨("BadFormat", some "__init__"), "__init__", "BadFormat.__init__", defArgs i_BadFormat, defBody i_BadFormat, defScope i_BadFormat, [], []⟩,
  ⟨("BadValue", some "__init__"), "__init__", "BadValue.__init__", defArgs i_BadValue, defBody i_BadValue, defScope i_BadValue, [], []⟩,
  ⟨("BadShape", some "__init__"), "__init__", "BadShape.__init__", defArgs i_BadShape, defBody i_BadShape, defScope i_BadShape, [], []⟩,
  ⟨("BadRow", some "__init__"), "__init__", "BadRow.__init__", defArgs i_BadRow, defBody i_BadRow, defScope i_BadRow, [], []⟩,
  ⟨("BadSet", some "__init__"), "__init__", "BadSet.__init__", defArgs i_BadSet, defBody i_BadSet, defScope i_BadSet, [], []⟩,
  ⟨("BadReader", some "__init__"), "__init__", "BadReader.__init__", defArgs i_BadReader, defBody i_BadReader, defScope i_BadReader, [], []⟩,
  ⟨("BadLayout", some "__init__"), "__init__", "BadLayout.__init__", defArgs i_BadLayout, defBody i_BadLayout, defScope i_BadLayout, [], []⟩,
  ⟨("BadCheck", some "__init__"), "__init__", "BadCheck.__init__", defArgs i_BadCheck, defBody i_BadCheck, defScope i_BadCheck, [], []⟩,
  ⟨("BadCode", some "__init__"), "__init__", "BadCode.__init__", defArgs i_BadCode, defBody i_BadCode, defScope i_BadCode, [], []⟩,
  ⟨("BadFeed", some "__init__"), "__init__", "BadFeed.__init__", defArgs i_BadFeed, defBody i_BadFeed, defScope i_BadFeed, [], []⟩,
  ⟨("BadEdit", some "__init__"), "__init__", "BadEdit.__init__", defArgs i_BadEdit, defBody i_BadEdit, defScope i_BadEdit, [], []⟩,
  ⟨("BadPatch", some "__init__"), "__init__", "BadPatch.__init__", defArgs i_BadPatch, defBody i_BadPatch, defScope i_BadPatch, [], []⟩,
  ⟨("BadPaper", some "__init__"), "__init__", "BadPaper.__init__", defArgs i_BadPaper, defBody i_BadPaper, defScope i_BadPaper, [], []⟩,
  ⟨("BadDeed", some "__init__"), "__init__", "BadDeed.__init__", defArgs i_BadDeed, defBody i_BadDeed, defScope i_BadDeed, [], []⟩]
def ts : List He.Tab := [(fun K => He.ga K "LIMITS", (["lines", "words", "bears", "checks", "letters", "states", "forms", "parts", "told", "pick", "width", "copies", "depth", "versions", "promises", "edits", "number", "nested", "shape", "elements", "signs", "sets", "ways", "asks", "layout", "reach", "deeds", "paper"] : List Str))]
def kv_LIMITS : List (Str × Int) := [("lines", 300), ("words", 40), ("bears", 3), ("checks", 6), ("letters", 8), ("states", 12), ("forms", 12), ("parts", 8), ("told", 24), ("pick", 6), ("width", 30), ("copies", 7), ("depth", 6), ("versions", 9), ("promises", 20), ("edits", 100), ("number", 1000000000000000000000000000000), ("nested", 60), ("shape", 400), ("elements", 400), ("signs", 4000), ("sets", 64), ("ways", 7), ("asks", 300), ("layout", 400), ("reach", 10000), ("deeds", 200), ("paper", 4000)]
def exs : List (PySem.W.Frag → Bool) := [fun K => kitsB K "OutsideError" errs, fun K => errB K "TooMany" (["what"] : List Str), fun K => errB K "BadText" (["line"] : List Str), fun K => errB K "BadFormat" (["line", "what"] : List Str), fun K => errB K "BadValue" (["path", "what"] : List Str), fun K => errB K "BadShape" (["place"] : List Str), fun K => errB K "BadRow" (["what", "place"] : List Str), fun K => errB K "BadSet" (["place", "joint"] : List Str), fun K => errB K "BadReader" (["step", "what"] : List Str), fun K => errB K "BadLayout" (["what"] : List Str), fun K => errB K "BadCheck" (["what"] : List Str), fun K => errB K "BadCode" (["row", "what"] : List Str), fun K => errB K "BadFeed" (["what"] : List Str), fun K => errB K "BadEdit" (["what"] : List Str), fun K => errB K "BadPatch" (["row", "what"] : List Str), fun K => errB K "BadPaper" (["line"] : List Str), fun K => errB K "BadDeed" (["what"] : List Str), fun K => tabB K "LIMITS" kv_LIMITS]
def ex (K : PySem.W.Frag) : Bool := exs.all fun f => f K
abbrev R : PySem.W.OpenRow := PySem.W.OpenLaw.row PySem.Challenge.rw_toldoutside_k29_sums_and_rows_that_part
abbrev hk : PySem.W.Hook := He.hookX 6 fa fn ts [] ex
def ob (s : PySem.W.SharedT) : He.AlX := He.obsX 6 fa fn ts [] ex (HandSHeadRun.getT s)
theorem ob_eq (s : PySem.W.SharedT) : ob s = hk.obs s.abs := He.obsX_eq (HandSHeadRun.getT_eq s)
def nm0 : List Str := (["OutsideError", "TooMany", "BadText", "BadFormat", "BadValue", "BadShape", "BadRow", "BadSet", "BadReader", "BadLayout", "BadCheck", "BadCode"] : List Str)
def nm1 : List Str := (["BadFeed", "BadEdit", "BadPatch", "BadPaper", "BadDeed", "LIMITS", "bound", "check_widths", "is_state", "check_states", "check_table", "words_to"] : List Str)
def nm2 : List Str := (["parted_by_put", "parted_by_take", "order_of", "check_group", "_law_source", "_law_pick", "_law_shuffled", "_law_same", "_law_copied", "_law_fault", "_law_run", "_law_come"] : List Str)
def nm3 : List Str := (["_law_sum", "_law_f_asked", "_law_f_letters", "_law_f_at", "_law_f_commute", "_law_f_shown", "_law_f_table", "_law_f_wrong"] : List Str)
def nms : List Str := nm0 ++ nm1 ++ nm2 ++ nm3
theorem run_false (w : World) : HandSHeadRun.RunEq R (PySem.W.view R.prog [49]) hk ob 6000 nms (w.withFollow "special-get-raises" false) := by
  intro os
  kernel_rfl
theorem run_true (w : World) : HandSHeadRun.RunEq R (PySem.W.view R.prog [49]) hk ob 6000 nms (w.withFollow "special-get-raises" true) := by
  intro os
  kernel_rfl
theorem run (w : World) : HandSHeadRun.RunEq R (PySem.W.view R.prog [49]) hk ob 6000 nms w := by
  have h : ∀ b : Bool, HandSHeadRun.RunEq R (PySem.W.view R.prog [49]) hk ob 6000 nms (w.withFollow "special-get-raises" b) := fun b => by
    cases b
    · exact run_false w
    · exact run_true w
  have z := h (w.params.followText "special-get-raises")
  rwa [World.withFollow_self] at z
theorem txt {w : World} {h : Heap} {K : PySem.W.Frag} {mg : Str → Option Value} (X : K.In h) (G : h.Ns mainGlobals mg) (c : He.SaysX fa fn ts [] ex w h K) : Txt w K mg := by
  have D := c.t.d
  have E : ∀ i (f : PySem.W.Frag → Bool), exs[i]? = some f → f K = true := fun i (f : PySem.W.Frag → Bool) e => List.all_eq_true.mp c.more f (List.mem_of_getElem? e)
  refine {
    g_bound := He.glo_ok X G (D.fact 0 (f := .glo "bound") rfl)
    g_check_widths := He.glo_ok X G (D.fact 1 (f := .glo "check_widths") rfl)
    g_is_state := He.glo_ok X G (D.fact 2 (f := .glo "is_state") rfl)
    g_check_states := He.glo_ok X G (D.fact 3 (f := .glo "check_states") rfl)
    g_check_table := He.glo_ok X G (D.fact 4 (f := .glo "check_table") rfl)
    g_words_to := He.glo_ok X G (D.fact 5 (f := .glo "words_to") rfl)
    g_parted_by_put := He.glo_ok X G (D.fact 6 (f := .glo "parted_by_put") rfl)
    g_parted_by_take := He.glo_ok X G (D.fact 7 (f := .glo "parted_by_take") rfl)
    g_order_of := He.glo_ok X G (D.fact 8 (f := .glo "order_of") rfl)
    g_check_group := He.glo_ok X G (D.fact 9 (f := .glo "check_group") rfl)
    g__law_source := He.glo_ok X G (D.fact 10 (f := .glo "_law_source") rfl)
    g__law_pick := He.glo_ok X G (D.fact 11 (f := .glo "_law_pick") rfl)
    g__law_shuffled := He.glo_ok X G (D.fact 12 (f := .glo "_law_shuffled") rfl)
    g__law_same := He.glo_ok X G (D.fact 13 (f := .glo "_law_same") rfl)
    g__law_copied := He.glo_ok X G (D.fact 14 (f := .glo "_law_copied") rfl)
    g__law_fault := He.glo_ok X G (D.fact 15 (f := .glo "_law_fault") rfl)
    g__law_run := He.glo_ok X G (D.fact 16 (f := .glo "_law_run") rfl)
    g__law_come := He.glo_ok X G (D.fact 17 (f := .glo "_law_come") rfl)
    g__law_sum := He.glo_ok X G (D.fact 18 (f := .glo "_law_sum") rfl)
    g__law_f_asked := He.glo_ok X G (D.fact 19 (f := .glo "_law_f_asked") rfl)
    g__law_f_letters := He.glo_ok X G (D.fact 20 (f := .glo "_law_f_letters") rfl)
    g__law_f_at := He.glo_ok X G (D.fact 21 (f := .glo "_law_f_at") rfl)
    g__law_f_commute := He.glo_ok X G (D.fact 22 (f := .glo "_law_f_commute") rfl)
    g__law_f_shown := He.glo_ok X G (D.fact 23 (f := .glo "_law_f_shown") rfl)
    g__law_f_table := He.glo_ok X G (D.fact 24 (f := .glo "_law_f_table") rfl)
    g__law_f_wrong := He.glo_ok X G (D.fact 25 (f := .glo "_law_f_wrong") rfl)
    g_law := He.glo_ok X G (D.fact 26 (f := .glo "law") rfl)
    g_TooMany := He.glo_ok X G (D.fact 27 (f := .glo "TooMany") rfl)
    g_BadText := He.glo_ok X G (D.fact 28 (f := .glo "BadText") rfl)
    g_BadFormat := He.glo_ok X G (D.fact 29 (f := .glo "BadFormat") rfl)
    g_BadValue := He.glo_ok X G (D.fact 30 (f := .glo "BadValue") rfl)
    g_BadShape := He.glo_ok X G (D.fact 31 (f := .glo "BadShape") rfl)
    g_BadRow := He.glo_ok X G (D.fact 32 (f := .glo "BadRow") rfl)
    g_BadSet := He.glo_ok X G (D.fact 33 (f := .glo "BadSet") rfl)
    g_BadReader := He.glo_ok X G (D.fact 34 (f := .glo "BadReader") rfl)
    g_BadLayout := He.glo_ok X G (D.fact 35 (f := .glo "BadLayout") rfl)
    g_BadCheck := He.glo_ok X G (D.fact 36 (f := .glo "BadCheck") rfl)
    g_BadCode := He.glo_ok X G (D.fact 37 (f := .glo "BadCode") rfl)
    g_BadFeed := He.glo_ok X G (D.fact 38 (f := .glo "BadFeed") rfl)
    g_BadEdit := He.glo_ok X G (D.fact 39 (f := .glo "BadEdit") rfl)
    g_BadPatch := He.glo_ok X G (D.fact 40 (f := .glo "BadPatch") rfl)
    g_BadPaper := He.glo_ok X G (D.fact 41 (f := .glo "BadPaper") rfl)
    g_BadDeed := He.glo_ok X G (D.fact 42 (f := .glo "BadDeed") rfl)
    g_OutsideError := He.glo_ok X G (D.fact 43 (f := .glo "OutsideError") rfl)
    g_LIMITS := He.glo_ok X G (D.fact 44 (f := .glo "LIMITS") rfl)
    f_ValueError := He.free_ok X G (D.fact 45 (f := .free "ValueError") rfl)
    f_sorted := He.free_ok X G (D.fact 46 (f := .free "sorted") rfl)
    f_range := He.free_ok X G (D.fact 47 (f := .free "range") rfl)
    f_list := He.free_ok X G (D.fact 48 (f := .free "list") rfl)
    f_isinstance := He.free_ok X G (D.fact 49 (f := .free "isinstance") rfl)
    f_dict := He.free_ok X G (D.fact 50 (f := .free "dict") rfl)
    f_tuple := He.free_ok X G (D.fact 51 (f := .free "tuple") rfl)
    f_int := He.free_ok X G (D.fact 52 (f := .free "int") rfl)
    f_len := He.free_ok X G (D.fact 53 (f := .free "len") rfl)
    f_abs := He.free_ok X G (D.fact 54 (f := .free "abs") rfl)
    f_all := He.free_ok X G (D.fact 55 (f := .free "all") rfl)
    f_bool := He.free_ok X G (D.fact 56 (f := .free "bool") rfl)
    f_str := He.free_ok X G (D.fact 57 (f := .free "str") rfl)
    f_any := He.free_ok X G (D.fact 58 (f := .free "any") rfl)
    f_sum := He.free_ok X G (D.fact 59 (f := .free "sum") rfl)
    f_set := He.free_ok X G (D.fact 60 (f := .free "set") rfl)
    d_bound := D.def_ 0 rfl
    d_check_widths := D.def_ 1 rfl
    d_is_state := D.def_ 2 rfl
    d_check_states := D.def_ 3 rfl
    d_check_table := D.def_ 4 rfl
    d_words_to := D.def_ 5 rfl
    d_parted_by_put := D.def_ 6 rfl
    d_parted_by_take := D.def_ 7 rfl
    d_order_of := D.def_ 8 rfl
    d_check_group := D.def_ 9 rfl
    d__law_source := D.def_ 10 rfl
    d__law_pick := D.def_ 11 rfl
    d__law_shuffled := D.def_ 12 rfl
    d__law_same := D.def_ 13 rfl
    d__law_copied := D.def_ 14 rfl
    d__law_fault := D.def_ 15 rfl
    d__law_run := D.def_ 16 rfl
    d__law_come := D.def_ 17 rfl
    d__law_sum := D.def_ 18 rfl
    d__law_f_asked := D.def_ 19 rfl
    d__law_f_letters := D.def_ 20 rfl
    d__law_f_at := D.def_ 21 rfl
    d__law_f_commute := D.def_ 22 rfl
    d__law_f_shown := D.def_ 23 rfl
    d__law_f_table := D.def_ 24 rfl
    d__law_f_wrong := D.def_ 25 rfl
    d_law := D.def_ 26 rfl
    d_TooMany := D.def_ 27 rfl
    d_BadText := D.def_ 28 rfl
    d_BadFormat := D.def_ 29 rfl
    d_BadValue := D.def_ 30 rfl
    d_BadShape := D.def_ 31 rfl
    d_BadRow := D.def_ 32 rfl
    d_BadSet := D.def_ 33 rfl
    d_BadReader := D.def_ 34 rfl
    d_BadLayout := D.def_ 35 rfl
    d_BadCheck := D.def_ 36 rfl
    d_BadCode := D.def_ 37 rfl
    d_BadFeed := D.def_ 38 rfl
    d_BadEdit := D.def_ 39 rfl
    d_BadPatch := D.def_ 40 rfl
    d_BadPaper := D.def_ 41 rfl
    d_BadDeed := D.def_ 42 rfl
    kits := kitsB_ok (E 0 _ rfl)
    e_TooMany := errB_ok (E 1 _ rfl)
    e_BadText := errB_ok (E 2 _ rfl)
    e_BadFormat := errB_ok (E 3 _ rfl)
    e_BadValue := errB_ok (E 4 _ rfl)
    e_BadShape := errB_ok (E 5 _ rfl)
    e_BadRow := errB_ok (E 6 _ rfl)
    e_BadSet := errB_ok (E 7 _ rfl)
    e_BadReader := errB_ok (E 8 _ rfl)
    e_BadLayout := errB_ok (E 9 _ rfl)
    e_BadCheck := errB_ok (E 10 _ rfl)
    e_BadCode := errB_ok (E 11 _ rfl)
    e_BadFeed := errB_ok (E 12 _ rfl)
    e_BadEdit := errB_ok (E 13 _ rfl)
    e_BadPatch := errB_ok (E 14 _ rfl)
    e_BadPaper := errB_ok (E 15 _ rfl)
    e_BadDeed := errB_ok (E 16 _ rfl)
    t_LIMITS := fun k i hq => by
      obtain ⟨es, n, KD⟩ := c.t.tab 0 rfl
      exact tabB_ok (E 17 _ rfl) KD hq }
end K29
open PySem PySem.W PySem.Calls PyProof.Rows in
theorem K29.law_of (k : Nat) (hk : L2.Room k callerA)
    (F : ∀ (w : World) (K : Frag) (mg : PySem.Str → Option Value) (base : Heap), K.In base → base.Ns mainGlobals mg → K29.Txt w K mg → ∀ fd, L2.FunD K "law" "law" (L2.defArgs K29.s_law) (L2.defBody K29.s_law) (L2.defScope K29.s_law) [] [] (He.ga K "law") fd →
      L2.FnOk (PySem.Challenge.rw_toldoutside_k29_sums_and_rows_that_part).prog w K mg base (L2N.CX (PySem.Challenge.rw_toldoutside_k29_sums_and_rows_that_part).prog w) k (He.ga K "law") fd ["script"] (L3.spLaw K)) : PySem.Challenge.rw_toldoutside_k29_sums_and_rows_that_part.Holds := by
  w_on; o_law
  refine HandSHeadRun.head_any (r := OpenLaw.row PySem.Challenge.rw_toldoutside_k29_sums_and_rows_that_part) (q := view (OpenLaw.row PySem.Challenge.rw_toldoutside_k29_sums_and_rows_that_part).prog [49]) (H := K29.hk) (ob := K29.ob) (M := 6000) (loose := K29.nms) (d := HandSHeadRun.topDef (OpenLaw.row PySem.Challenge.rw_toldoutside_k29_sums_and_rows_that_part).prog 49) (kwd := []) K29.ob_eq
    (by kernel_rfl) (fun s => by kernel_rfl) K29.run (by kernel_rfl) (by kernel_rfl) (by kernel_rfl) (by rfl) (by first | assumption | decide +kernel) (by decide +kernel) ⟨rfl, rfl, rfl, rfl, rfl, by decide +kernel⟩ ?hw ?hc
  case hw => w_witness2
  case hc =>
    refine L3.walk_law (l := PySem.Challenge.rw_toldoutside_k29_sums_and_rows_that_part) (k := k) rfl (by kernel_rfl) hk ?F
    intro w mg fa h Y G hmg0
    obtain ⟨K, KX, c⟩ := Y
    have hmg : mg ("law" : PySem.Str) = some (.ref fa) := by
      have e : (HandSHeadRun.topDef (OpenLaw.row PySem.Challenge.rw_toldoutside_k29_sums_and_rows_that_part).prog 49).name = ("law" : PySem.Str) := by kernel_rfl
      rw [← e]
      exact hmg0
    have T := K29.txt KX G c
    have e := hmg.symm.trans T.g_law
    cases e
    obtain ⟨fd, D⟩ := T.d_law
    have b := L2.FunD.bindsA (ps := ["script"]) D fun _ _ _ _ _ _ us hl => match us, hl with | [_], _ => rfl
    exact ⟨K, fd, KX, fun s v => b s [v] rfl, fun base XB GB => F w K mg base XB GB T fd D⟩
set_option maxRecDepth 100000
set_option maxHeartbeats 4000000
namespace K29
open PySem PySem.Spec PyProof.Rows L2 L3
local macro_rules | `(tactic| walk_at "s1") => `(tactic| first
  | with_reducible refine r_seq ?_
  | with_reducible refine r_asgN ?_
  | with_reducible refine r_ret ?_
  | with_reducible refine r_next ?_
  | ((with_reducible refine' r_var ?hv ?_); (case hv => exact rfl))
  | with_reducible refine r_c ?_
  | with_reducible refine r_op ?_
  | with_reducible refine r_cons ?_
  | with_reducible refine r_nil ?_
  | with_reducible refine r_plusI ?_
  | with_reducible refine r_I0 ?_
  | with_reducible refine r_test ?_
  | with_reducible refine r_bl ?_
  | with_reducible refine r_ifS ?_
  | with_reducible refine r_cb ?_
  | with_reducible refine r_callS ?_
  | with_reducible refine r_and ?_
  | with_reducible refine r_or ?_
  | with_reducible refine r_not ?_
  | with_reducible refine r_B ?_
  | ((with_reducible refine' r_aug ?hv ?_); (case hv => exact rfl))
  | with_reducible refine r_augS ?_
  | with_reducible refine r_ipI ?_
  | with_reducible refine r_asg ?_
  | with_reducible refine r_sub ?_
  | with_reducible refine r_brk ?_
  | with_reducible refine r_isN1 ?_
  | with_reducible refine r_notN1 ?_
  | with_reducible refine r_intI ?_
  | with_reducible refine r_abs ?_
  | with_reducible refine r_min ?_
  | with_reducible refine r_max ?_
  | ((with_reducible refine' r_mod ?hz ?_); (case hz => omega))
  | ((with_reducible refine' r_pow ?hz ?_); (case hz => exact ⟨by decide, by decide, by decide⟩))
  | ((with_reducible refine' r_rg1 ?hz ?_); (case hz => omega))
  | ((with_reducible refine' r_rg2 ?hz ?_); (case hz => omega))
  | ((with_reducible refine' r_newL ?hz ?_); (case hz => exact Nat.le_of_ble_eq_true rfl))
  | ((with_reducible refine' r_newT ?hz ?_); (case hz => exact Nat.le_of_ble_eq_true rfl))
  | with_reducible refine r_for ?_
  | with_reducible refine r_lc ?_
  | with_reducible refine r_iR1 ?_
  | with_reducible refine r_iR2 ?_
  | with_reducible refine r_iL ?_
  | with_reducible refine r_iT ?_
  | with_reducible refine r_gname ?_
  | with_reducible refine r_gcons ?_
  | with_reducible refine r_gnil ?_
  | with_reducible refine r_yes ?_
  | with_reducible refine r_mkO ?_
  | with_reducible refine r_cont ?_
  | with_reducible refine r_drop ?_
  | with_reducible refine r_retN ?_
  | with_reducible refine r_ifC ?_
  | with_reducible refine r_ifI ?_
  | with_reducible refine r_if ?_
  | with_reducible refine r_un ?_
  | with_reducible refine r_neg ?_
  | with_reducible refine r_andV ?_
  | with_reducible refine r_orV ?_
  | with_reducible refine r_notV ?_
  | with_reducible refine r_tup ?_
  | with_reducible refine r_lst ?_
  | with_reducible refine r_bm ?_
  | with_reducible refine r_bm0 ?_
  | with_reducible refine r_sl ?_
  | with_reducible refine r_chain ?_
  | with_reducible refine r_listDn ?_
  | with_reducible refine r_listRg2 ?_
  | with_reducible refine r_revL ?_
  | with_reducible refine r_noPart ?_
  | with_reducible refine r_dgt ?_
  | with_reducible refine r_din ?_
  | with_reducible refine r_dnin ?_
  | with_reducible refine r_dput ?_
  | with_reducible refine r_dnew ?_
  | with_reducible refine r_disp1 ?_
  | with_reducible refine r_lenSet ?_
  | with_reducible refine r_part ?_
  | with_reducible refine r_int ?_
  | ((with_reducible refine' r_sameS ?hs ?_); (case hs => exact rfl))
  | ((with_reducible refine' r_otherS ?hs ?_); (case hs => exact rfl))
  | with_reducible refine ite_t ?_
  | with_reducible refine ite_f ?_
  | with_reducible refine ite_nt ?_
  | with_reducible refine ite_nf ?_)
local macro_rules | `(tactic| walk_at "st") => `(tactic| repeat (walk_at "s1"))

section
variable {P : Program} {w : World} {K : PySem.W.Frag} {mg : Str → Option Value} {base : Heap}
theorem sci_TooMany : FnScope ["self", "what"] ["self", "what"] (defScope i_TooMany) := ⟨rfl, rfl, rfl, by decide +kernel, rfl, by decide +kernel, by decide +kernel⟩
theorem ci_TooMany (T : Txt w K mg) : ErrI P w K mg base "TooMany" ["self", "what"] (spI1 (He.ga K "TooMany") "what") := by
  refine errI_of T.d_TooMany sci_TooMany (fun _ _ _ _ _ _ _ us hl => match us, hl with | [_, _], _ => rfl) (fun vs H Q E h => by obtain ⟨a, v0, rfl, _⟩ := h; rfl) (fun cdv A outer s H vs Q E hr h => ?_)
  obtain ⟨a, v0, rfl, ha, k⟩ := h
  refine ⟨_, pss_one (ps_ost (pv 0) (pv 1)), ?_⟩
  exact r_ost1 T.e_TooMany.o (T.e_TooMany.no _ (by simp)) ha rfl rfl k
theorem sci_BadCheck : FnScope ["self", "what"] ["self", "what"] (defScope i_BadCheck) := ⟨rfl, rfl, rfl, by decide +kernel, rfl, by decide +kernel, by decide +kernel⟩
theorem ci_BadCheck (T : Txt w K mg) : ErrI P w K mg base "BadCheck" ["self", "what"] (spI1 (He.ga K "BadCheck") "what") := by
  refine errI_of T.d_BadCheck sci_BadCheck (fun _ _ _ _ _ _ _ us hl => match us, hl with | [_, _], _ => rfl) (fun vs H Q E h => by obtain ⟨a, v0, rfl, _⟩ := h; rfl) (fun cdv A outer s H vs Q E hr h => ?_)
  obtain ⟨a, v0, rfl, ha, k⟩ := h
  refine ⟨_, pss_one (ps_ost (pv 0) (pv 1)), ?_⟩
  exact r_ost1 T.e_BadCheck.o (T.e_BadCheck.no _ (by simp)) ha rfl rfl k
/-! ### the bounds -/
def spBound (K : PySem.W.Frag) : Sp := fun vs H Q E => ∃ (what : Str) (lim n : Int), vs = [.str what, .int n] ∧ (what, lim) ∈ kv_LIMITS ∧
  (lim < n → ∀ d H', H d = none → Ext H H' → H' d = some (.xd [("what", .str what)]) → E (.ref (He.ga K "TooMany")) (some d) H') ∧ (¬ lim < n → Q .non H)
theorem sc_bound : FnScope ["what", "number"] ["what", "number"] (defScope s_bound) := ⟨rfl, rfl, rfl, by decide +kernel, rfl, by decide +kernel, by decide +kernel⟩
theorem ok_bound (T : Txt w K mg) : CalG P w K mg base 4 "bound" ["what", "number"] (spBound K) := by
  have c_TooMany : ErrI P w K mg base "TooMany" ["self", "what"] _ := ci_TooMany T
  refine calG_of T.g_bound T.d_bound sc_bound (fun _ _ _ _ _ _ _ us hl => match us, hl with | [_, _], _ => rfl) (fun vs H Q E h => by obtain ⟨c, k, n, rfl, _⟩ := h; rfl) (fun cdv A outer s H vs Q E hr h => ?_)
  have nd := sc_bound.nd
  have hu := hu64 hr
  obtain ⟨what, lim, n, rfl, hm, hb, hg⟩ := h
  refine ⟨_, (pss_one (ps_if (pt_cmpR op_gt (pv 1) (pe_ix (kdictK (K := K)) (pe_gl T.g_LIMITS) (pv 0) (fun _ _ => rfl)) (nomark _)) (pss_one (L2N.ps_raise rfl (L2N.takes_of rfl rfl rfl rfl) (pmk_errI T.e_TooMany c_TooMany hr (by decide) T.g_TooMany (pa_cons (pv 0) pa_nil)))) pss_nil)), ?_⟩
  walk_at "st"
  refine ⟨_, _, _, rfl, rfl, T.t_LIMITS _ _ hm, ?_⟩
  walk_at "st"
  refine ite_d (fun c => ?_) (fun c => ?_)
  · walk_at "st"
    exact r_mk1 (hb c)
  · walk_at "st"
    exact hg c

/-! ### tables of steps -/
def IsRow (d : PyData) (row : List Int) : Prop := d = .list (row.map PyData.int) ∨ d = .tuple (row.map PyData.int)
/-- the rows of a table, each a list or a tuple -/
structure Tb (K : PySem.W.Frag) (H : Hp) (p : Addr) (st : List (List Int)) : Prop where
  ex : ∃ (xs : List V) (ds : List PyData), SqL K H p xs ∧ DpAll K H xs ds ∧ ds.length = st.length ∧ ∀ (i : Nat) (d : PyData), ds[i]? = some d → ∃ row, st[i]? = some row ∧ IsRow d row
theorem Tb.ext {K : PySem.W.Frag} {H H' : Hp} {p : Addr} {st : List (List Int)} (h : Tb K H p st) (e : Ext H H') : Tb K H' p st := by
  obtain ⟨xs, ds, h1, h2, h3, h4⟩ := h.ex
  exact ⟨xs, ds, e.l h1, e.dps _ h2, h3, h4⟩
theorem dp_ints {K : PySem.W.Frag} {H : Hp} {xs : List V} : ∀ {row : List Int}, DpAll K H xs (row.map PyData.int) → xs = row.map V.int := by
  intro row
  induction row generalizing xs with
  | nil => intro h; cases h; rfl
  | cons a row ih =>
    intro h
    cases h with
    | cons h1 h2 =>
      cases h1
      rw [ih h2]
      rfl
theorem row_seq {K : PySem.W.Frag} {H : Hp} {x : V} {d : PyData} {row : List Int} (h : Dp K H x d) (r : IsRow d row) : ∃ a, x = .ref a ∧ Seq K H a (row.map V.int) := by
  rcases r with rfl | rfl
  · cases h with
    | lst h hs => exact ⟨_, rfl, .inl (by rw [← dp_ints hs]; exact h)⟩
  · cases h with
    | tup h hs => exact ⟨_, rfl, .inr (by rw [← dp_ints hs]; exact h)⟩
/-- the list at p, its rows -/
theorem Tb.get {K : PySem.W.Frag} {H : Hp} {p : Addr} {st : List (List Int)} (h : Tb K H p st) : ∃ xs, SqL K H p xs ∧ xs.length = st.length ∧ ∀ (i : Nat) (row : List Int), st[i]? = some row → ∃ a, xs[i]? = some (V.ref a) ∧ Seq K H a (row.map V.int) := by
  obtain ⟨xs, ds, h1, h2, h3, h4⟩ := h.ex
  refine ⟨xs, h1, by rw [dps_len h2, h3], fun i row hr => ?_⟩
  have hi : i < ds.length := by rw [h3]; exact (List.getElem?_eq_some_iff.mp hr).1
  obtain ⟨row', e, r⟩ := h4 i ds[i] (List.getElem?_eq_getElem hi)
  rw [hr] at e
  cases e
  obtain ⟨x, ex, hx⟩ := dps_get h2 (List.getElem?_eq_getElem hi)
  obtain ⟨a, rfl, s⟩ := row_seq hx r
  exact ⟨a, ex, s⟩

def spCWid (K : PySem.W.Frag) : Sp := fun vs H Q E => ∃ (p : Addr) (st : List (List Int)) (m : Int), vs = [.ref p, .int m] ∧ Tb K H p st ∧ (m < 1 ∨ (∃ row ∈ st, (row.length : Int) ≠ m) → Bad K E H "BadCheck" "letters") ∧ (1 ≤ m → (∀ row ∈ st, (row.length : Int) = m) → Q .non H)
theorem sc_check_widths : FnScope ["states", "letters", "row"] ["states", "letters"] (defScope s_check_widths) := ⟨rfl, rfl, rfl, by decide +kernel, rfl, by decide +kernel, by decide +kernel⟩
theorem ok_check_widths (T : Txt w K mg) : CalG P w K mg base 4 "check_widths" ["states", "letters"] (spCWid K) := by
  have c_BadCheck : ErrI P w K mg base "BadCheck" ["self", "what"] _ := ci_BadCheck T
  refine calG_of T.g_check_widths T.d_check_widths sc_check_widths (fun _ _ _ _ _ _ _ us hl => match us, hl with | [_, _], _ => rfl) (fun vs H Q E h => by obtain ⟨_, _, _, rfl, _⟩ := h; rfl) (fun cdv A outer s H vs Q E hr h => ?_)
  have nd := sc_check_widths.nd
  have hu := hu64 hr
  obtain ⟨p, st, m, rfl, hp, b, k⟩ := h
  obtain ⟨xs, h1, h2, h3⟩ := hp.get
  refine ⟨_, (pss_cons (ps_if (pt_cmpR op_lt (pv 1) pe_int (nomark _)) (pss_one (L2N.ps_raise rfl (L2N.takes_of rfl rfl rfl rfl) (pmk_errI T.e_BadCheck c_BadCheck hr (by decide) T.g_BadCheck (pa_cons pe_str pa_nil)))) pss_nil)
        (pss_one (ps_for (passes_of rfl) rfl (piL (K := K) (pv 0)) (pg_name (i := 2) nd rfl (Or.inl rfl)) (pss_one (ps_if (pt_cmpR (otherK (K := K) hu) (pe_callB (lenK (K := K)) (by rfl) T.f_len boot_len (pa_cons (pv 2) pa_nil)) (pv 1) (nomark _)) (pss_one (L2N.ps_raise rfl (L2N.takes_of rfl rfl rfl rfl) (pmk_errI T.e_BadCheck c_BadCheck hr (by decide) T.g_BadCheck (pa_cons pe_str pa_nil)))) pss_nil))))), ?_⟩
  walk_at "st"
  refine ite_d (fun c => ?_) (fun c => ?_)
  · walk_at "st"
    exact r_mk1 (b (.inl c))
  walk_at "st"
  refine r_li h1 ?_
  refine forW_list (fun i σ' H' => ∃ v, σ' = [some (.ref p), some (.int m), v] ∧ H = H' ∧ ∀ row ∈ st.take i, (row.length : Int) = m) ⟨none, rfl, rfl, fun s h => by rw [List.take_zero] at h; cases h⟩ (fun i σ' H' _ ⟨_, _, e, _⟩ => e ▸ h1) ?_ ?_
  · rintro i x σ' H' hx ⟨v, rfl, rfl, hall⟩
    have hi : i < st.length := by rw [← h2]; exact (List.getElem?_eq_some_iff.mp hx).1
    have er : st[i]? = some st[i] := List.getElem?_eq_getElem hi
    obtain ⟨a, ea, ha⟩ := h3 i _ er
    rw [hx] at ea
    cases ea
    walk_at "st"
    refine r_lenA ha (n := st[i].length) (by rw [List.length_map]) ?_
    walk_at "st"
    refine ite_n (fun c => ?_) (fun c => ?_)
    · walk_at "st"
      exact r_mk1 (b (.inr ⟨st[i], List.getElem_mem hi, fun e => c (by rw [e])⟩))
    · walk_at "st"
      refine ⟨_, rfl, rfl, fun row hrow => ?_⟩
      rw [List.take_succ, er] at hrow
      rcases List.mem_append.mp hrow with hs | hs
      · exact hall row hs
      · have e : row = st[i] := by simpa using hs
        rw [e]
        exact V.int.inj c
  · rintro σ' H' ⟨v, rfl, rfl, hall⟩
    rw [h2, List.take_length] at hall
    walk_at "st"
    exact k (by omega) hall
def spIsSt (K : PySem.W.Frag) : Sp := fun vs H Q _ => ∃ (p : Addr) (st : List (List Int)) (z : Int), vs = [.int z, .ref p] ∧ Tb K H p st ∧ Q (.bl (decide (0 ≤ z ∧ z < st.length))) H
theorem sc_is_state : FnScope ["number", "states"] ["number", "states"] (defScope s_is_state) := ⟨rfl, rfl, rfl, by decide +kernel, rfl, by decide +kernel, by decide +kernel⟩
theorem ok_is_state (T : Txt w K mg) : CalG P w K mg base 1 "is_state" ["number", "states"] (spIsSt K) := by
  refine calG_of T.g_is_state T.d_is_state sc_is_state (fun _ _ _ _ _ _ _ us hl => match us, hl with | [_, _], _ => rfl) (fun vs H Q E h => by obtain ⟨_, _, _, rfl, _⟩ := h; rfl) (fun cdv A outer s H vs Q E hr h => ?_)
  have nd := sc_is_state.nd
  have hu := hu64 hr
  obtain ⟨p, st, z, rfl, hp, k⟩ := h
  obtain ⟨xs, h1, h2, h3⟩ := hp.get
  refine ⟨_, (pss_one (ps_ret (pe_and (pe_callB (isiK (K := K)) (by rfl) T.f_isinstance (by decide +kernel) (pa_cons (pv 0) (pa_cons (pe_ty T.f_int) pa_nil))) (pe_and (pe_not (pe_callB (isiK (K := K)) (by rfl) T.f_isinstance (by decide +kernel) (pa_cons (pv 0) (pa_cons (pe_ty T.f_bool) pa_nil)))) (pe_one (pe_chain op_le op_lt pe_int (pv 0) (pe_callB (lenK (K := K)) (by rfl) T.f_len boot_len (pa_cons (pv 1) pa_nil)))))))), ?_⟩
  walk_at "st"
  refine r_isi (.int z) (by simp) ?_
  rw [show isB (tyD (.int z)) "int" = true by simp [isB, tyD]]
  walk_at "st"
  refine r_isi (.int z) (by simp) ?_
  rw [show isB (tyD (.int z)) "bool" = false by simp [isB, tyD]]
  walk_at "st"
  refine ite_d (fun c1 => ?_) (fun c1 => ?_)
  · walk_at "st"
    refine r_lenL h1 (n := st.length) (by rw [h2]) ?_
    walk_at "st"
    have e : decide (0 ≤ z ∧ z < st.length) = decide (z < st.length) := by
      by_cases c : z < st.length
      · rw [decide_eq_true c, decide_eq_true ⟨c1, c⟩]
      · rw [decide_eq_false c, decide_eq_false fun h => c h.2]
    rw [e] at k
    exact k
  · have e : decide (0 ≤ z ∧ z < st.length) = false := decide_eq_false fun h => c1 h.1
    rw [e] at k
    exact k

/-! ### the whole table is right -/
def BadSt (st : List (List Int)) (m : Int) (what : Str) : Prop := ((m < 1 ∨ ∃ row ∈ st, (row.length : Int) ≠ m) ∧ what = "letters") ∨ ((1 ≤ m ∧ ∀ row ∈ st, (row.length : Int) = m) ∧ (st = [] ∨ ∃ row ∈ st, ∃ z ∈ row, ¬ (0 ≤ z ∧ z < st.length)) ∧ what = "state")
def GoodSt (st : List (List Int)) (m : Int) : Prop := (1 ≤ m ∧ ∀ row ∈ st, (row.length : Int) = m) ∧ st ≠ [] ∧ ∀ row ∈ st, ∀ z ∈ row, 0 ≤ z ∧ z < st.length
def spCSt (K : PySem.W.Frag) : Sp := fun vs H Q E => ∃ (p : Addr) (st : List (List Int)) (m : Int), vs = [.ref p, .int m] ∧ Tb K H p st ∧ (∀ what, BadSt st m what → Bad K E H "BadCheck" what) ∧ (GoodSt st m → Q .non H)
theorem sc_check_states : FnScope ["states", "letters", "row", "number"] ["states", "letters"] (defScope s_check_states) := ⟨rfl, rfl, rfl, by decide +kernel, rfl, by decide +kernel, by decide +kernel⟩
theorem ok_check_states (T : Txt w K mg) : CalG P w K mg base 5 "check_states" ["states", "letters"] (spCSt K) := by
  have c_BadCheck : ErrI P w K mg base "BadCheck" ["self", "what"] _ := ci_BadCheck T
  have c_check_widths := ok_check_widths (P := P) (base := base) T
  have c_is_state := ok_is_state (P := P) (base := base) T
  refine calG_of T.g_check_states T.d_check_states sc_check_states (fun _ _ _ _ _ _ _ us hl => match us, hl with | [_, _], _ => rfl) (fun vs H Q E h => by obtain ⟨_, _, _, rfl, _⟩ := h; rfl) (fun cdv A outer s H vs Q E hr h => ?_)
  have nd := sc_check_states.nd
  have hu := hu64 hr
  obtain ⟨p, st, m, rfl, hp, b, k⟩ := h
  obtain ⟨xs, h1, h2, h3⟩ := hp.get
  refine ⟨_, (pss_cons (ps_expr (pe_cal c_check_widths hr (by omega) (fun σ => L2N.passAt (L2N.takes_of rfl rfl rfl rfl) σ) (pa_cons (pv 0) (pa_cons (pv 1) pa_nil))))
        (pss_cons (ps_if (pt_cmpR (sameK (K := K) hu) (pe_callB (lenK (K := K)) (by rfl) T.f_len boot_len (pa_cons (pv 0) pa_nil)) pe_int (nomark _)) (pss_one (L2N.ps_raise rfl (L2N.takes_of rfl rfl rfl rfl) (pmk_errI T.e_BadCheck c_BadCheck hr (by decide) T.g_BadCheck (pa_cons pe_str pa_nil)))) pss_nil)
        (pss_one (ps_for (passes_of rfl) rfl (piL (K := K) (pv 0)) (pg_name (i := 2) nd rfl (Or.inl rfl)) (pss_one (ps_for (passes_of rfl) rfl (piS (K := K) (pv 2)) (pg_name (i := 3) nd rfl (Or.inl rfl)) (pss_one (ps_if (pt_not (pt_val (pe_cal c_is_state hr (by omega) (fun σ => L2N.passAt (L2N.takes_of rfl rfl rfl rfl) σ) (pa_cons (pv 3) (pa_cons (pv 0) pa_nil))))) (pss_one (L2N.ps_raise rfl (L2N.takes_of rfl rfl rfl rfl) (pmk_errI T.e_BadCheck c_BadCheck hr (by decide) T.g_BadCheck (pa_cons pe_str pa_nil)))) pss_nil)))))))), ?_⟩
  walk_at "st"
  refine ⟨p, st, m, rfl, hp, fun h => b _ (.inl ⟨h, rfl⟩), fun m1 hw => ?_⟩
  walk_at "st"
  refine r_lenL h1 (n := st.length) (by rw [h2]) ?_
  walk_at "st"
  refine ite_d (fun c => ?_) (fun c => ?_)
  · walk_at "st"
    exact r_mk1 (b _ (.inr ⟨⟨m1, hw⟩, .inl (List.eq_nil_of_length_eq_zero (by have := V.int.inj c; omega)), rfl⟩))
  walk_at "st"
  refine r_li h1 ?_
  refine forW_list (fun i σ' H' => ∃ v1 v2, σ' = [some (.ref p), some (.int m), v1, v2] ∧ H = H' ∧ ∀ row ∈ st.take i, ∀ z ∈ row, 0 ≤ z ∧ z < st.length) ⟨none, none, rfl, rfl, fun s h => by rw [List.take_zero] at h; cases h⟩ (fun i σ' H' _ ⟨_, _, _, e, _⟩ => e ▸ h1) ?_ ?_
  · rintro i x σ' H' hx ⟨v1, v2, rfl, rfl, hall⟩
    have hi : i < st.length := by rw [← h2]; exact (List.getElem?_eq_some_iff.mp hx).1
    have er : st[i]? = some st[i] := List.getElem?_eq_getElem hi
    obtain ⟨a, ea, ha⟩ := h3 i _ er
    rw [hx] at ea
    cases ea
    walk_at "st"
    refine r_iSv ha rfl (fun J hJ => ?_)
    refine forW_seq hJ (fun t σ' H' => ∃ v2, σ' = [some (.ref p), some (.int m), some (.ref a), v2] ∧ H = H' ∧ ∀ z ∈ st[i].take t, 0 ≤ z ∧ z < st.length) ⟨v2, rfl, rfl, fun s h => by rw [List.take_zero] at h; cases h⟩ (fun t σ' H' ⟨_, _, e, _⟩ => e ▸ Ext.rfl) ?_ ?_
    · rintro t y σ' H' hy ⟨v2, rfl, rfl, hall2⟩
      rw [List.getElem?_map] at hy
      obtain ⟨z, hz, rfl⟩ := Option.map_eq_some_iff.mp hy
      walk_at "st"
      refine ⟨p, st, z, rfl, hp, ?_⟩
      walk_at "st"
      refine ite_n (fun c2 => ?_) (fun c2 => ?_)
      · walk_at "st"
        exact r_mk1 (b _ (.inr ⟨⟨m1, hw⟩, .inr ⟨st[i], List.getElem_mem hi, z, List.mem_of_getElem? hz, c2⟩, rfl⟩))
      · walk_at "st"
        refine ⟨_, rfl, rfl, fun s hs => ?_⟩
        rw [List.take_succ, hz] at hs
        rcases List.mem_append.mp hs with hs | hs
        · exact hall2 s hs
        · have e : s = z := by simpa using hs
          rw [e]
          exact c2
    · rintro σ' H' ⟨v2, rfl, rfl, hall2⟩
      rw [List.length_map, List.take_length] at hall2
      refine ⟨_, _, rfl, rfl, fun row hrow => ?_⟩
      rw [List.take_succ, er] at hrow
      rcases List.mem_append.mp hrow with hs | hs
      · exact hall row hs
      · have e : row = st[i] := by simpa using hs
        rw [e]
        exact hall2
  · rintro σ' H' ⟨v1, v2, rfl, rfl, hall⟩
    rw [h2, List.take_length] at hall
    walk_at "st"
    exact k ⟨⟨m1, hw⟩, fun e => c (by rw [e]; rfl), hall⟩

/-! ### a row of letters run -/
/-- one step of the table -/
def stp (st : List (List Int)) (s a : Nat) : Nat := ((st.getD s []).getD a 0).toNat
def runF (st : List (List Int)) (m : Int) (s : Nat) (ns : List Int) : Nat := ns.foldl (fun s x => stp st s (x % m).toNat) s
theorem good_row {st : List (List Int)} {m : Int} (g : GoodSt st m) {s : Nat} (hs : s < st.length) : ∃ row, st[s]? = some row ∧ (row.length : Int) = m ∧ ∀ a : Nat, a < row.length → row[a]? = some ((stp st s a : Nat) : Int) ∧ stp st s a < st.length := by
  have er : st[s]? = some st[s] := List.getElem?_eq_getElem hs
  have hm := List.getElem_mem hs
  refine ⟨st[s], er, g.1.2 _ hm, fun a ha => ?_⟩
  have ea : st[s][a]? = some st[s][a] := List.getElem?_eq_getElem ha
  have h := g.2.2 _ hm _ (List.getElem_mem ha)
  have e : stp st s a = (st[s][a]).toNat := by
    have e0 : st.getD s [] = st[s] := by
      rw [List.getD_eq_getElem?_getD, er]
      rfl
    have e1 : (st[s]).getD a 0 = st[s][a] := by
      rw [List.getD_eq_getElem?_getD, ea]
      rfl
    unfold stp
    rw [e0, e1]
  rw [ea, e]
  exact ⟨by rw [Int.toNat_of_nonneg h.1], by omega⟩
theorem run_lt {st : List (List Int)} {m : Int} (g : GoodSt st m) : ∀ (ns : List Int) {s : Nat}, s < st.length → runF st m s ns < st.length
  | [], s, hs => hs
  | x :: ns, s, hs => by
    obtain ⟨row, e, hl, h⟩ := good_row g hs
    have m1 := g.1.1
    exact run_lt g ns (h (x % m).toNat (by have := Int.emod_lt_of_pos x (show 0 < m by omega); have := Int.emod_nonneg x (show m ≠ 0 by omega); omega)).2
/-- states[s][a] of a right table -/
theorem tb_at {K : PySem.W.Frag} {H : Hp} {p : Addr} {st : List (List Int)} {m : Int} (h : Tb K H p st) (g : GoodSt st m) {s : Nat} (hs : s < st.length) : ∃ xs row a, SqL K H p xs ∧ xs[s]? = some (V.ref a) ∧ Seq K H a ((row : List Int).map V.int) ∧ ∀ b : Nat, (b : Int) < m → (row.map V.int)[b]? = some (V.int (stp st s b : Nat)) := by
  obtain ⟨xs, h1, h2, h3⟩ := h.get
  obtain ⟨row, e, hl, hr⟩ := good_row g hs
  obtain ⟨a, ea, ha⟩ := h3 s row e
  refine ⟨xs, row, a, h1, ea, ha, fun b hb => ?_⟩
  rw [List.getElem?_map, (hr b (by omega)).1]
  rfl

def spCTab (K : PySem.W.Frag) : Sp := fun vs H Q E => ∃ (p : Addr) (st : List (List Int)) (m : Int), vs = [.ref p, .int m] ∧ Tb K H p st ∧ (8 < m → Bad K E H "TooMany" "letters") ∧ (m ≤ 8 → 12 < st.length → Bad K E H "TooMany" "states") ∧ (m ≤ 8 → st.length ≤ 12 → ∀ what, BadSt st m what → Bad K E H "BadCheck" what) ∧ (m ≤ 8 → st.length ≤ 12 → GoodSt st m → Q .non H)
theorem sc_check_table : FnScope ["states", "letters"] ["states", "letters"] (defScope s_check_table) := ⟨rfl, rfl, rfl, by decide +kernel, rfl, by decide +kernel, by decide +kernel⟩
theorem ok_check_table (T : Txt w K mg) : CalG P w K mg base 6 "check_table" ["states", "letters"] (spCTab K) := by
  have c_bound := ok_bound (P := P) (base := base) T
  have c_check_states := ok_check_states (P := P) (base := base) T
  refine calG_of T.g_check_table T.d_check_table sc_check_table (fun _ _ _ _ _ _ _ us hl => match us, hl with | [_, _], _ => rfl) (fun vs H Q E h => by obtain ⟨_, _, _, rfl, _⟩ := h; rfl) (fun cdv A outer s H vs Q E hr h => ?_)
  have nd := sc_check_table.nd
  have hu := hu64 hr
  obtain ⟨p, st, m, rfl, hp, b1, b2, b3, k⟩ := h
  obtain ⟨xs, h1, h2, _⟩ := hp.get
  refine ⟨_, (pss_cons (ps_expr (pe_cal c_bound hr (by omega) (fun σ => L2N.passAt (L2N.takes_of rfl rfl rfl rfl) σ) (pa_cons pe_str (pa_cons (pv 1) pa_nil))))
        (pss_cons (ps_expr (pe_cal c_bound hr (by omega) (fun σ => L2N.passAt (L2N.takes_of rfl rfl rfl rfl) σ) (pa_cons pe_str (pa_cons (pe_callB (lenK (K := K)) (by rfl) T.f_len boot_len (pa_cons (pv 0) pa_nil)) pa_nil))))
        (pss_one (ps_expr (pe_cal c_check_states hr (by omega) (fun σ => L2N.passAt (L2N.takes_of rfl rfl rfl rfl) σ) (pa_cons (pv 0) (pa_cons (pv 1) pa_nil))))))), ?_⟩
  walk_at "st"
  refine ⟨_, 8, m, rfl, by simp [kv_LIMITS], fun c => b1 c, fun c1 => ?_⟩
  have c1 : m ≤ 8 := by omega
  walk_at "st"
  refine r_lenL h1 (n := st.length) (by rw [h2]) ?_
  walk_at "st"
  refine ⟨_, 12, _, rfl, by simp [kv_LIMITS], fun c => b2 c1 (by omega), fun c2 => ?_⟩
  have c2 : st.length ≤ 12 := by omega
  walk_at "st"
  refine ⟨p, st, m, rfl, hp, fun what h => b3 c1 c2 what h, fun g => ?_⟩
  walk_at "st"
  exact k c1 c2 g

end
end K29
set_option maxRecDepth 100000
set_option maxHeartbeats 4000000
namespace K29
open PySem PySem.Spec PyProof.Rows L2 L3
local macro_rules | `(tactic| walk_at "s1") => `(tactic| first
  | with_reducible refine r_seq ?_
  | with_reducible refine r_asgN ?_
  | with_reducible refine r_ret ?_
  | with_reducible refine r_next ?_
  | ((with_reducible refine' r_var ?hv ?_); (case hv => exact rfl))
  | with_reducible refine r_c ?_
  | with_reducible refine r_op ?_
  | with_reducible refine r_cons ?_
  | with_reducible refine r_nil ?_
  | with_reducible refine r_plusI ?_
  | with_reducible refine r_I0 ?_
  | with_reducible refine r_test ?_
  | with_reducible refine r_bl ?_
  | with_reducible refine r_ifS ?_
  | with_reducible refine r_cb ?_
  | with_reducible refine r_callS ?_
  | with_reducible refine r_and ?_
  | with_reducible refine r_or ?_
  | with_reducible refine r_not ?_
  | with_reducible refine r_B ?_
  | ((with_reducible refine' r_aug ?hv ?_); (case hv => exact rfl))
  | with_reducible refine r_augS ?_
  | with_reducible refine r_ipI ?_
  | with_reducible refine r_asg ?_
  | with_reducible refine r_sub ?_
  | with_reducible refine r_brk ?_
  | with_reducible refine r_isN1 ?_
  | with_reducible refine r_notN1 ?_
  | with_reducible refine r_intI ?_
  | with_reducible refine r_abs ?_
  | with_reducible refine r_min ?_
  | with_reducible refine r_max ?_
  | ((with_reducible refine' r_mod ?hz ?_); (case hz => omega))
  | ((with_reducible refine' r_pow ?hz ?_); (case hz => exact ⟨by decide, by decide, by decide⟩))
  | ((with_reducible refine' r_rg1 ?hz ?_); (case hz => omega))
  | ((with_reducible refine' r_rg2 ?hz ?_); (case hz => omega))
  | ((with_reducible refine' r_newL ?hz ?_); (case hz => exact Nat.le_of_ble_eq_true rfl))
  | ((with_reducible refine' r_newT ?hz ?_); (case hz => exact Nat.le_of_ble_eq_true rfl))
  | with_reducible refine r_for ?_
  | with_reducible refine r_lc ?_
  | with_reducible refine r_iR1 ?_
  | with_reducible refine r_iR2 ?_
  | with_reducible refine r_iL ?_
  | with_reducible refine r_iT ?_
  | with_reducible refine r_gname ?_
  | with_reducible refine r_gcons ?_
  | with_reducible refine r_gnil ?_
  | with_reducible refine r_yes ?_
  | with_reducible refine r_mkO ?_
  | with_reducible refine r_cont ?_
  | with_reducible refine r_drop ?_
  | with_reducible refine r_retN ?_
  | with_reducible refine r_ifC ?_
  | with_reducible refine r_ifI ?_
  | with_reducible refine r_if ?_
  | with_reducible refine r_un ?_
  | with_reducible refine r_neg ?_
  | with_reducible refine r_andV ?_
  | with_reducible refine r_orV ?_
  | with_reducible refine r_notV ?_
  | with_reducible refine r_tup ?_
  | with_reducible refine r_lst ?_
  | with_reducible refine r_bm ?_
  | with_reducible refine r_bm0 ?_
  | with_reducible refine r_sl ?_
  | with_reducible refine r_chain ?_
  | with_reducible refine r_listDn ?_
  | with_reducible refine r_listRg2 ?_
  | with_reducible refine r_revL ?_
  | with_reducible refine r_noPart ?_
  | with_reducible refine r_dgt ?_
  | with_reducible refine r_din ?_
  | with_reducible refine r_dnin ?_
  | with_reducible refine r_dput ?_
  | with_reducible refine r_dnew ?_
  | with_reducible refine r_disp1 ?_
  | with_reducible refine r_lenSet ?_
  | with_reducible refine r_part ?_
  | with_reducible refine r_int ?_
  | ((with_reducible refine' r_sameS ?hs ?_); (case hs => exact rfl))
  | ((with_reducible refine' r_otherS ?hs ?_); (case hs => exact rfl))
  | with_reducible refine ite_t ?_
  | with_reducible refine ite_f ?_
  | with_reducible refine ite_nt ?_
  | with_reducible refine ite_nf ?_)
local macro_rules | `(tactic| walk_at "st") => `(tactic| repeat (walk_at "s1"))

section
variable {P : Program} {w : World} {K : PySem.W.Frag} {mg : Str → Option Value} {base : Heap}
/-! ### a letter often -/
def itF (f : Nat → Nat) : Nat → Nat → Nat
  | 0, s => s
  | k + 1, s => f (itF f k s)
theorem itF_add (f : Nat → Nat) (a : Nat) : ∀ b s, itF f (a + b) s = itF f b (itF f a s)
  | 0, s => rfl
  | b + 1, s => by show f (itF f (a + b) s) = f (itF f b (itF f a s)); rw [itF_add f a b s]
theorem itF_ring {f : Nat → Nat} {s j t : Nat} (h : itF f t s = itF f j s) (hjt : j < t) : ∀ k, itF f (j + k) s = itF f (j + k % (t - j)) s := by
  intro k
  induction k using Nat.strongRecOn with
  | _ k ih =>
    by_cases c : k < t - j
    · rw [Nat.mod_eq_of_lt c]
    · have e : k % (t - j) = (k - (t - j)) % (t - j) := by rw [Nat.mod_eq_sub_mod (by omega)]
      rw [e, ← ih (k - (t - j)) (by omega)]
      have e1 : j + k = t + (k - (t - j)) := by omega
      rw [e1, itF_add, itF_add, h]

def flI (l : List Int) : (l.map V.int).all flatV = true := by
  rw [List.all_eq_true]
  intro x hx
  obtain ⟨i, _, rfl⟩ := List.mem_map.mp hx
  rfl
theorem inV_ints {z : Int} {l : List Int} : inV (.int z) (l.map V.int) = decide (z ∈ l) := by
  unfold inV
  rw [Bool.eq_iff_iff, List.any_eq_true, decide_eq_true_iff]
  constructor
  · rintro ⟨x, hx, e⟩
    obtain ⟨i, hi, rfl⟩ := List.mem_map.mp hx
    have : (i == z) = true := e
    rw [← eq_of_beq this]
    exact hi
  · intro h
    exact ⟨.int z, List.mem_map.mpr ⟨z, h, rfl⟩, by show (z == z) = true; simp⟩
theorem r_notInI {K : PySem.W.Frag} {H : Hp} {Q : VK} {p : Addr} {l : List Int} {z : Int} (h : SqL K H p (l.map V.int)) (k : Q (.bl (!decide (z ∈ l))) H) : rIn K true (.int z) (.ref p) H Q :=
  ⟨p, _, rfl, .inl h, rfl, flI l, by rw [inV_ints]; exact k⟩
theorem r_inI {K : PySem.W.Frag} {H : Hp} {Q : VK} {p : Addr} {l : List Int} {z : Int} (h : SqL K H p (l.map V.int)) (k : Q (.bl (decide (z ∈ l))) H) : rIn K false (.int z) (.ref p) H Q :=
  ⟨p, _, rfl, .inl h, rfl, flI l, by rw [inV_ints]; exact k⟩
theorem r_idxI {K : PySem.W.Frag} {H : Hp} {Q : VK} {p : Addr} {l : List Int} {z : Int} {j : Nat} (h : SqL K H p (l.map V.int)) (hj : l[j]? = some z) (hm : ∀ m y, m < j → l[m]? = some y → y ≠ z) (k : Q (.int (j : Nat)) H) : rIndex K (.ref p) [.int z] H Q :=
  ⟨p, _, .int z, j, .int z, rfl, rfl, h, rfl, flI l, by rw [List.getElem?_map, hj]; rfl, by show (z == z) = true; simp, fun m z' hm' e => by
    rw [List.getElem?_map] at e
    obtain ⟨y, hy, rfl⟩ := Option.map_eq_some_iff.mp e
    show (y == z) = false
    have := hm m y hm' hy
    simpa using this, k⟩

/-! ### the states come to -/
inductive Reach (st : List (List Int)) (m : Int) : Nat → Prop
  | z : Reach st m 0
  | s {c a : Nat} : Reach st m c → (a : Int) < m → Reach st m (stp st c a)
theorem stp_lt {st : List (List Int)} {m : Int} (g : GoodSt st m) {s a : Nat} (hs : s < st.length) (ha : (a : Int) < m) : stp st s a < st.length := by
  obtain ⟨row, _, hl, h⟩ := good_row g hs
  exact (h a (by omega)).2
theorem good_pos {st : List (List Int)} {m : Int} (g : GoodSt st m) : 0 < st.length := List.length_pos_iff.mpr g.2.1
theorem Reach.lt {st : List (List Int)} {m : Int} (g : GoodSt st m) {c : Nat} (h : Reach st m c) : c < st.length := by
  induction h with
  | z => exact good_pos g
  | s _ ha ih => exact stp_lt g ih ha
structure ComeS (st : List (List Int)) (m : Int) (cs : List Nat) : Prop where
  nd : cs.Nodup
  so : cs.Pairwise (· ≤ ·)
  mem : ∀ c, c ∈ cs ↔ Reach st m c
def ntV (cs : List Nat) : List V := (cs.map fun (c : Nat) => (c : Int)).map V.int
theorem ntV_len (cs : List Nat) : (ntV cs).length = cs.length := by unfold ntV; rw [List.length_map, List.length_map]
theorem ntV_at {cs : List Nat} {i c : Nat} (h : cs[i]? = some c) : (ntV cs)[i]? = some (V.int (c : Nat)) := by
  unfold ntV
  rw [List.getElem?_map, List.getElem?_map, h]
  rfl
theorem ntV_get {cs : List Nat} {i : Nat} {x : V} (h : (ntV cs)[i]? = some x) : ∃ c, cs[i]? = some c ∧ x = .int (c : Nat) := by
  unfold ntV at h
  rw [List.getElem?_map, List.getElem?_map] at h
  obtain ⟨y, hy, rfl⟩ := Option.map_eq_some_iff.mp h
  obtain ⟨c, hc, rfl⟩ := Option.map_eq_some_iff.mp hy
  exact ⟨c, hc, rfl⟩
theorem mem_nt {cs : List Nat} {c : Nat} : (c : Int) ∈ cs.map (fun (c : Nat) => (c : Int)) ↔ c ∈ cs := by
  rw [List.mem_map]
  exact ⟨fun ⟨a, ha, e⟩ => by rw [← show a = c by omega]; exact ha, fun h => ⟨c, h, rfl⟩⟩
theorem come_len {st : List (List Int)} {m : Int} (g : GoodSt st m) {cs : List Nat} (nd : cs.Nodup) (h : ∀ c ∈ cs, Reach st m c) : cs.length ≤ st.length := Lay.nodup_len _ cs nd fun c hc => (h c hc).lt g

/-! ### sums -/
theorem nodup_at {l : List Nat} (h : l.Nodup) : ∀ {i j a : Nat}, l[i]? = some a → l[j]? = some a → i = j := by
  induction l with
  | nil => intro i j a hi; simp at hi
  | cons b l ih =>
    intro i j a hi hj
    rw [List.nodup_cons] at h
    cases i with
    | zero =>
      cases j with
      | zero => rfl
      | succ j =>
        simp at hi hj
        exact absurd (List.mem_of_getElem? hj) (hi ▸ h.1)
    | succ i =>
      cases j with
      | zero =>
        simp at hi hj
        exact absurd (List.mem_of_getElem? hi) (hj ▸ h.1)
      | succ j =>
        simp at hi hj
        rw [ih h.2 hi hj]
abbrev stF (st : List (List Int)) (a : Nat) : Nat → Nat := fun s => stp st s a
structure SumAt (st : List (List Int)) (m : Int) (a : Nat) : Prop where
  inj : ∀ c c', Reach st m c → Reach st m c' → stp st c a = stp st c' a → c = c'
  com : ∀ b, b < a → ∀ c, Reach st m c → stp st (stp st c a) b = stp st (stp st c b) a
def IsSum (st : List (List Int)) (m : Int) : Prop := ∀ a : Nat, (a : Int) < m → SumAt st m a
structure IsOrd (f : Nat → Nat) (k : Nat) : Prop where
  pos : 1 ≤ k
  ret : itF f k 0 = 0
  fst : ∀ j, 1 ≤ j → j < k → itF f j 0 ≠ 0
theorem reach_it {st : List (List Int)} {m : Int} {a : Nat} (ha : (a : Int) < m) {s : Nat} (hs : Reach st m s) : ∀ k, Reach st m (itF (stF st a) k s)
  | 0 => hs
  | k + 1 => .s (reach_it ha hs k) ha
theorem it_back {st : List (List Int)} {m : Int} {a : Nat} (ha : (a : Int) < m) (h : SumAt st m a) : ∀ i j, itF (stF st a) i 0 = itF (stF st a) (i + j) 0 → itF (stF st a) j 0 = 0
  | 0, j, e => by rw [Nat.zero_add] at e; exact e.symm
  | i + 1, j, e => it_back ha h i j (h.inj _ _ (reach_it ha .z i) (reach_it ha .z (i + j)) (by
      rw [show i + 1 + j = i + j + 1 by omega] at e
      exact e))
theorem it_small {st : List (List Int)} {m : Int} (g : GoodSt st m) {a : Nat} (ha : (a : Int) < m) (h : SumAt st m a) {t : Nat} (n0 : ∀ j, 1 ≤ j → j ≤ t → itF (stF st a) j 0 ≠ 0) : t < st.length := by
  have := Lay.nodup_len st.length ((List.range (t + 1)).map fun i => itF (stF st a) i 0) (Lay.nd_map (fun x hx y hy e => by
    rw [List.mem_range] at hx hy
    have key : ∀ i j, i < j → j ≤ t → itF (stF st a) i 0 ≠ itF (stF st a) j 0 := fun i j hij hj e => by
      refine n0 (j - i) (by omega) (by omega) (it_back ha h i (j - i) ?_)
      rw [e, show i + (j - i) = j by omega]
    rcases Nat.lt_trichotomy x y with c | c | c
    · exact absurd e (key x y c (by omega))
    · exact c
    · exact absurd e.symm (key y x c (by omega))) List.nodup_range) (fun x hx => by
    obtain ⟨i, _, rfl⟩ := List.mem_map.mp hx
    exact (reach_it ha .z i).lt g)
  rw [List.length_map, List.length_range] at this
  omega
structure Ords (st : List (List Int)) (m : Int) (os : List Nat) : Prop where
  len : (os.length : Int) = m
  ord : ∀ a : Nat, a < os.length → IsOrd (stF st a) (os.getD a 0)
theorem getD_at {cs : List Nat} {i : Nat} (h : i < cs.length) : cs[i]? = some (cs.getD i 0) := by rw [List.getD_eq_getElem?_getD, List.getElem?_eq_getElem h]; rfl
theorem range_bl (n : Nat) (b : Nat → Bool) : (List.range n).map (fun i => V.bl (b i)) = ((List.range n).map b).map V.bl := by rw [List.map_map]; rfl
theorem range_nt (n : Nat) (b : Nat → Nat) : (List.range n).map (fun i => V.int (b i : Nat)) = ntV ((List.range n).map b) := by unfold ntV; rw [List.map_map, List.map_map]; rfl

/-! ### sums, in plain numbers -/
section
variable {st : List (List Int)} {m : Int}
theorem sum_com (S : IsSum st m) {a b c : Nat} (ha : (a : Int) < m) (hb : (b : Int) < m) (hc : Reach st m c) : stp st (stp st c a) b = stp st (stp st c b) a := by
  rcases Nat.lt_trichotomy a b with h | h | h
  · exact ((S b hb).com a h c hc).symm
  · rw [h]
  · exact (S a ha).com b h c hc
theorem it_com (S : IsSum st m) {a b : Nat} (ha : (a : Int) < m) (hb : (b : Int) < m) : ∀ (k c : Nat), Reach st m c → itF (stF st a) k (stp st c b) = stp st (itF (stF st a) k c) b
  | 0, c, _ => rfl
  | k + 1, c, hc => by
    show stp st (itF (stF st a) k (stp st c b)) a = stp st (stp st (itF (stF st a) k c) a) b
    rw [it_com S ha hb k c hc, sum_com S hb ha (reach_it ha hc k)]
theorem it_succ' (f : Nat → Nat) : ∀ k s, itF f (k + 1) s = itF f k (f s)
  | 0, s => rfl
  | k + 1, s => by
    show f (itF f (k + 1) s) = f (itF f k (f s))
    rw [it_succ' f k s]
theorem it_it (S : IsSum st m) {a b : Nat} (ha : (a : Int) < m) (hb : (b : Int) < m) (k : Nat) : ∀ (j c : Nat), Reach st m c → itF (stF st a) k (itF (stF st b) j c) = itF (stF st b) j (itF (stF st a) k c)
  | 0, c, _ => rfl
  | j + 1, c, hc => by
    show itF (stF st a) k (stp st (itF (stF st b) j c) b) = stp st (itF (stF st b) j (itF (stF st a) k c)) b
    rw [it_com S ha hb k _ (reach_it hb hc j), it_it S ha hb k j c hc]
theorem ord_all (S : IsSum st m) {a o : Nat} (ha : (a : Int) < m) (h : itF (stF st a) o 0 = 0) {c : Nat} (hc : Reach st m c) : itF (stF st a) o c = c := by
  induction hc with
  | z => exact h
  | s hc hb ih => rw [it_com S ha hb _ _ hc, ih]
end

/-! ### words that lead to each state -/
structure Word (st : List (List Int)) (m : Int) (c : Nat) (ls : List Int) : Prop where
  rng : ∀ l ∈ ls, 0 ≤ l ∧ l < m
  run : runF st m 0 ls = c
theorem Word.snoc {st : List (List Int)} {m : Int} {c a : Nat} {ls : List Int} (h : Word st m c ls) (ha : (a : Int) < m) : Word st m (stp st c a) (ls ++ [(a : Int)]) := by
  refine ⟨fun l hl => ?_, ?_⟩
  · rcases List.mem_append.mp hl with hl | hl
    · exact h.rng l hl
    · rw [List.mem_singleton.mp hl]; omega
  · unfold runF
    rw [List.foldl_append]
    show stp st (runF st m 0 ls) ((a : Int) % m).toNat = _
    rw [h.run, Int.emod_eq_of_lt (by omega) ha, Int.toNat_natCast]
/-- a dict of words for these states -/
structure WD (st : List (List Int)) (m : Int) (S : Addr → Prop) (H : Hp) (q : Addr) (fs : List Nat) : Prop where
  ex : ∃ kvs : List (Key × V), H q = some (.dK kvs) ∧ kvs.map (·.1) = (fs.map fun (c : Nat) => (c : Int)).map Sum.inl ∧ (∀ (j c : Nat), fs[j]? = some c → ∃ a ls, valV kvs (.inl (c : Int)) = some (.ref a) ∧ S a ∧ H a = some (.lst (ls.map V.int)) ∧ Word st m c ls ∧ ls.length ≤ j) ∧ ∀ c : Nat, c ∉ fs → valV kvs (.inl (c : Int)) = none
theorem WD.keep {st : List (List Int)} {m : Int} {S S' : Addr → Prop} {H H' : Hp} {q : Addr} {fs : List Nat} (h : WD st m S H q fs) (hq : H' q = H q) (e : ∀ a o, S a → H a = some o → H' a = some o ∧ S' a) : WD st m S' H' q fs := by
  obtain ⟨kvs, h1, h2, h3, h4⟩ := h
  exact ⟨kvs, hq.trans h1, h2, fun j c hj => by
    obtain ⟨a, ls, a1, a2, a3, a4⟩ := h3 j c hj
    exact ⟨a, ls, a1, (e _ _ a2 a3).2, (e _ _ a2 a3).1, a4⟩, h4⟩
theorem WD.ext {st : List (List Int)} {m : Int} {S : Addr → Prop} {H H' : Hp} {q : Addr} {fs : List Nat} (h : WD st m S H q fs) (e : Ext H H') : WD st m S H' q fs := by
  obtain ⟨kvs, h1, _⟩ := h.ex
  exact h.keep ((e _ _ h1).trans h1.symm) fun a o s q => ⟨e _ _ q, s⟩
theorem WD.get {st : List (List Int)} {m : Int} {S : Addr → Prop} {H : Hp} {q : Addr} {fs : List Nat} (h : WD st m S H q fs) {j c : Nat} (hj : fs[j]? = some c) : ∃ kvs a ls, H q = some (.dK kvs) ∧ valV kvs (.inl (c : Int)) = some (.ref a) ∧ S a ∧ H a = some (.lst (ls.map V.int)) ∧ Word st m c ls ∧ ls.length ≤ j := by
  obtain ⟨kvs, h1, h2, h3, h4⟩ := h
  obtain ⟨a, ls, h⟩ := h3 j c hj
  exact ⟨kvs, a, ls, h1, h⟩
theorem WD.push {st : List (List Int)} {m : Int} {S : Addr → Prop} {H H' : Hp} {q a : Addr} {fs : List Nat} {kvs : List (Key × V)} {c : Nat} {ls : List Int} (h : WD st m S H q fs) (hq : H q = some (.dK kvs)) (hc : c ∉ fs) (ha : S a) (hl : H a = some (.lst (ls.map V.int))) (w : Word st m c ls) (hn : ls.length ≤ fs.length)
    (h1 : H' q = some (.dK (putK kvs (.inl (c : Int)) (.ref a)))) (n : ∀ b, b ≠ q → H' b = H b) : WD st m S H' q (fs ++ [c]) := by
  obtain ⟨kvs', e1, e2, e3, e4⟩ := h
  rw [hq] at e1
  cases e1
  have nq : ∀ b xs, H b = some (.lst xs) → b ≠ q := fun b xs hb z => by rw [z, hq] at hb; cases hb
  rw [putK_new _ (e4 c hc)] at h1
  have val : ∀ j : Nat, valV (kvs ++ [(Sum.inl (c : Int), V.ref a)]) (.inl (j : Int)) = if j = c then some (.ref a) else valV kvs (.inl (j : Int)) := fun j => by
    rw [valV_snoc _ _ _ kvs (e4 c hc)]
    by_cases z : j = c
    · rw [if_pos z, if_pos (by rw [z])]
    · rw [if_neg z, if_neg (fun y => z (by injection y with y; omega))]
  refine ⟨_, h1, by rw [List.map_append, e2, List.map_append, List.map_append]; rfl, fun j x hj => ?_, fun x hx => ?_⟩
  · by_cases z : j < fs.length
    · rw [List.getElem?_append_left z] at hj
      obtain ⟨b, l, b1, b2, b3, b4⟩ := e3 j x hj
      refine ⟨b, l, ?_, b2, (n b (nq _ _ b3)).trans b3, b4⟩
      rw [val, if_neg (fun y => hc (by rw [← y]; exact List.mem_of_getElem? hj))]
      exact b1
    · have hlt := (List.getElem?_eq_some_iff.mp hj).1
      rw [List.length_append] at hlt
      have hlt : j < fs.length + 1 := hlt
      rw [List.getElem?_append_right (by omega), show j - fs.length = 0 by omega] at hj
      cases hj
      exact ⟨a, ls, by rw [val, if_pos rfl], ha, (n a (nq _ _ hl)).trans hl, w, by omega⟩
  · rw [val, if_neg (fun y => hx (by rw [y]; exact List.mem_append_right _ (List.mem_singleton.mpr rfl)))]
    exact e4 x fun y => hx (List.mem_append_left _ y)
def spWords (K : PySem.W.Frag) : Sp := fun vs H Q _ => ∃ (p : Addr) (st : List (List Int)) (m : Int), vs = [.ref p, .int m] ∧ Tb K H p st ∧ GoodSt st m ∧ m ≤ 1000 ∧ st.length ≤ 1000 ∧ ∀ q H' fs, H q = none → Ext H H' → WD st m (fun a => H a = none) H' q fs → fs.Nodup → (∀ c, c ∈ fs ↔ Reach st m c) → Q (.ref q) H'
theorem sc_words_to : FnScope ["states", "letters", "found", "waiting", "at", "state", "letter", "after"] ["states", "letters"] (defScope s_words_to) := ⟨rfl, rfl, rfl, by decide +kernel, rfl, by decide +kernel, by decide +kernel⟩
theorem ok_words_to (T : Txt w K mg) : CalG P w K mg base 1 "words_to" ["states", "letters"] (spWords K) := by
  refine calG_of T.g_words_to T.d_words_to sc_words_to (fun _ _ _ _ _ _ _ us hl => match us, hl with | [_, _], _ => rfl) (fun vs H Q E h => by obtain ⟨_, _, _, rfl, _⟩ := h; rfl) (fun cdv A outer s H vs Q E hr h => ?_)
  have nd := sc_words_to.nd
  have hu := hu64 hr
  have hu1 := hu1 hr
  obtain ⟨p, st, m, rfl, hp, g, m1, hsz, k⟩ := h
  have m0 := g.1.1
  refine ⟨_, (pss_cons (ps_set (i := 2) nd rfl (Or.inl rfl) (pe_disp (pps_cons pe_int (pe_lst pa_nil) pps_nil) (by rfl) (by rfl) (fun z => by cases z) (by decide)))
        (pss_cons (ps_set (i := 3) nd rfl (Or.inl rfl) (pe_lst (pa_cons pe_int pa_nil)))
        (pss_cons (ps_set (i := 4) nd rfl (Or.inl rfl) pe_int)
        (pss_cons (ps_while (passes_of rfl) (pt_cmpR op_lt (pv 4) (pe_callB (lenK (K := K)) (by rfl) T.f_len boot_len (pa_cons (pv 3) pa_nil)) (nomark _)) (pss_cons (ps_set (i := 5) nd rfl (Or.inl rfl) (pe_ix (ixK (K := K)) (pv 3) (pv 4) (fun _ _ => rfl)))
        (pss_cons (ps_aug (i := 4) nd rfl (Or.inl rfl) pe_int ip_add)
        (pss_one (ps_for (passes_of rfl) rfl (pi_range1 (by rfl) T.f_range (pa_cons (pv 1) pa_nil)) (pg_name (i := 6) nd rfl (Or.inl rfl)) (pss_cons (ps_set (i := 7) nd rfl (Or.inl rfl) (pe_ix (ixK (K := K)) (pe_ix (ixK (K := K)) (pv 0) (pv 5) (fun _ _ => rfl)) (pv 6) (fun _ _ => rfl)))
        (pss_one (ps_if (pt_cmp (pc_dnotin hu1 (pv 7) (pv 2))) (pss_cons (ps_dput hu1 (pv 2) (pv 7) (pe_op (plusK (K := K)) (pe_dget hu1 (pv 2) (pv 5) (fun _ _ => rfl)) (pe_lst (pa_cons (pv 6) pa_nil))) rfl)
        (pss_one (ps_expr (peBM (K := K) (pe_bm PySem.F.plainAttrs_list PySem.F.slot_list_append PySem.F.type_list_append mt_append (pv 3) (pa_cons (pv 7) pa_nil)))))) pss_nil))))))))
        (pss_one (ps_ret (pv 2))))))), ?_⟩
  walk_at "st"
  refine r_disp fun f H1 hf e1 h1 => ?_
  walk_at "st"
  intro l0 H2 hl0 e2 h2
  refine r_dp1 (e2 _ _ h1) fun H3 h3 n3 => ?_
  have fl0 : f ≠ l0 := ne_of_none h1 hl0
  have W3 : WD st m (fun a => H a = none ∧ a ≠ f) H3 f [0] := ⟨_, h3, rfl, fun j c hj => by
    cases j with
    | zero =>
      cases hj
      exact ⟨l0, [], rfl, ⟨e1.none hl0, fl0.symm⟩, (n3 _ fl0.symm).trans h2, ⟨fun l hl => absurd hl List.not_mem_nil, rfl⟩, Nat.le_refl _⟩
    | succ j => simp at hj, fun c hc => by
    have : c ≠ 0 := fun e => hc (by rw [e]; exact List.mem_singleton.mpr rfl)
    rw [valV_neg (fun e => this (by injection e with e; have e : (0 : Int) = c := e; omega))]
    rfl⟩
  have e03 : Ext H H3 := mut_ext (e1.trans e2) hf n3
  walk_at "st"
  intro wt H4 hwt e4 h4
  have fwt : f ≠ wt := ne_of_none h3 hwt
  have hwt0 : H wt = none := e03.none hwt
  have W4 : WD st m (fun a => H a = none ∧ a ≠ f ∧ a ≠ wt) H4 f [0] := W3.keep ((e4 _ _ h3).trans h3.symm) fun a o s q => ⟨e4 _ _ q, s.1, s.2, ne_of_none q hwt⟩
  clear W3 h1 h2 h3 n3 e1 e2
  walk_at "st"
  refine whileW (fun μ σ' H' => ∃ (t : Nat) (fs : List Nat) (v5 v6 v7 : Option V), μ = st.length + 1 - t ∧ σ' = [some (.ref p), some (.int m), some (.ref f), some (.ref wt), some (.int (t : Nat)), v5, v6, v7] ∧ Ext H H' ∧ H' wt = some (.lst (ntV fs)) ∧ WD st m (fun a => H a = none ∧ a ≠ f ∧ a ≠ wt) H' f fs ∧ fs.Nodup ∧ (∀ c ∈ fs, Reach st m c) ∧ 0 ∈ fs ∧ t ≤ fs.length ∧
    (∀ (i c a : Nat), i < t → fs[i]? = some c → (a : Int) < m → stp st c a ∈ fs)) (st.length + 1) ⟨0, [0], none, none, none, rfl, rfl, e03.trans e4, h4, W4, by simp, fun c hc => by rw [List.mem_singleton.mp hc]; exact .z, List.mem_singleton.mpr rfl, Nat.zero_le _, fun i c a hi => absurd hi (Nat.not_lt_zero _)⟩ ?_
  rintro μ σ' H5 ⟨t, fs, v5, v6, v7, rfl, rfl, e5, h5, W5, fnd, fre, f0, ft, fcl⟩
  have fle := come_len g fnd fre
  walk_at "st"
  refine r_lenL (sqL h5) (n := fs.length) (by rw [ntV_len]) ?_
  walk_at "st"
  refine ite_d (fun c => r_N ?_) (fun c => ?_)
  · have ht : t < fs.length := by omega
    have et : fs[t]? = some fs[t] := List.getElem?_eq_getElem ht
    have tr := fre _ (List.getElem_mem ht)
    walk_at "st"
    refine r_atL (sqL h5) (atI_nat (ntV_at et)) ?_
    walk_at "st"
    refine forW_range (fun i σ' H' => ∃ (fs' : List Nat) (v6 v7 : Option V), σ' = [some (.ref p), some (.int m), some (.ref f), some (.ref wt), some (.int ((t : Nat) + 1)), some (.int (fs[t] : Nat)), v6, v7] ∧ Ext H H' ∧ H' wt = some (.lst (ntV fs')) ∧ WD st m (fun a => H a = none ∧ a ≠ f ∧ a ≠ wt) H' f fs' ∧ fs'.Nodup ∧ (∀ c ∈ fs', Reach st m c) ∧ (∀ (j c : Nat), fs[j]? = some c → fs'[j]? = some c) ∧ ∀ a : Nat, a < i → stp st fs[t] a ∈ fs') ⟨fs, v6, v7, rfl, e5, h5, W5, fnd, fre, fun j c h => h, fun a ha => absurd ha (Nat.not_lt_zero _)⟩ ?_ ?_
    · rintro i σ' H6 hi ⟨fs', v6, v7, rfl, e6, h6, W6, nd6, re6, pr6, cl6⟩
      have le6 := come_len g nd6 re6
      obtain ⟨xs, row, b, q1, q2, q3, q4⟩ := tb_at (hp.ext e6) g (tr.lt g)
      have hi' : (i : Int) < m := by omega
      obtain ⟨kvs, hk⟩ := W6.ex
      obtain ⟨k1, k2, k3, k4⟩ := hk
      walk_at "st"
      rw [Int.zero_add]
      refine r_atL q1 (atI_nat q2) ?_
      walk_at "st"
      refine r_atA q3 (atI_nat (q4 i hi')) ?_
      walk_at "st"
      refine r_dninI k1 ?_
      walk_at "st"
      by_cases c2 : stp st fs[t] i ∈ fs'
      · obtain ⟨j, hj⟩ := List.mem_iff_getElem?.mp c2
        obtain ⟨a, ls, a1, _⟩ := k3 j _ hj
        rw [a1]
        refine ite_f ?_
        walk_at "st"
        refine ⟨fs', _, _, rfl, e6, h6, W6, nd6, re6, pr6, fun a ha => ?_⟩
        by_cases ca : a = i
        · rw [ca]; exact c2
        · exact cl6 a (by omega)
      · rw [k4 _ c2]
        refine ite_t ?_
        walk_at "st"
        obtain ⟨kvs', a, ls, y1, y2, y3, y4, y5, y6⟩ := W6.get (pr6 _ _ et)
        rw [k1] at y1
        cases y1
        have pl := (List.getElem?_eq_some_iff.mp (pr6 _ _ et)).1
        refine r_dgI k1 y2 ?_
        walk_at "st"
        intro l7 H7 hl7 e7 h7
        walk_at "st"
        refine r_catL (e7 _ _ y4) h7 (by rw [List.length_map]; show _ + 1 ≤ 100000; omega) (fun l8 H8 hl8 e8 h8 => ?_)
        have e68 := e7.trans e8
        have h8' : H8 l8 = some (.lst ((ls ++ [(i : Int)]).map V.int)) := by rw [h8, List.map_append]; rfl
        have hl8' : H6 l8 = none := e7.none hl8
        walk_at "st"
        refine r_dputI (e68 _ _ k1) ?_ (fun H9 h9 n9 => ?_)
        · have := congrArg List.length k2
          rw [List.length_map, List.length_map, List.length_map] at this
          omega
        have wtf : wt ≠ f := fwt.symm
        have W9 := (W6.ext e68).push (e68 _ _ k1) c2 (a := l8) ⟨e6.none hl8', (ne_of_none k1 hl8').symm, (ne_of_none h6 hl8').symm⟩ h8' (y5.snoc hi') (by rw [List.length_append]; show _ + 1 ≤ _; omega) h9 n9
        have h9w := (n9 _ wtf).trans (e68 _ _ h6)
        walk_at "st"
        refine ⟨.inl ⟨rfl, _, sqL h9w⟩, ?_⟩
        walk_at "st"
        refine r_app h9w (by rw [ntV_len]; omega) (fun H10 h10 n10 => ?_)
        have e10 : Ext H H10 := mut_ext (mut_ext (e6.trans e68) hf n9) hwt0 n10
        refine ⟨fs' ++ [stp st fs[t] i], _, _, rfl, e10, ?_, W9.keep (n10 _ fwt) (fun a o s q => ⟨(n10 a s.2.2).trans q, s⟩), ?_, ?_, fun j c h => ?_, fun a ha => ?_⟩
        · rw [h10]; unfold ntV; rw [List.map_append, List.map_append]; rfl
        · rw [List.nodup_append]
          exact ⟨nd6, by simp, fun a ha b hb e => c2 (by rw [← List.mem_singleton.mp hb, ← e]; exact ha)⟩
        · intro c hc
          rcases List.mem_append.mp hc with hc | hc
          · exact re6 c hc
          · rw [List.mem_singleton.mp hc]; exact .s tr hi'
        · have := pr6 j c h
          rw [List.getElem?_append_left (List.getElem?_eq_some_iff.mp this).1]
          exact this
        · by_cases ca : a = i
          · rw [ca]; exact List.mem_append_right _ (List.mem_singleton.mpr rfl)
          · exact List.mem_append_left _ (cl6 a (by omega))
    · rintro σ' H6 ⟨fs', v6, v7, rfl, e6, h6, W6, nd6, re6, pr6, cl6⟩
      have sub : ∀ c ∈ fs, c ∈ fs' := fun c hc => by
        obtain ⟨j, hj⟩ := List.mem_iff_getElem?.mp hc
        exact List.mem_of_getElem? (pr6 j c hj)
      refine ⟨st.length + 1 - (t + 1), by omega, t + 1, fs', _, v6, v7, rfl, rfl, e6, h6, W6, nd6, re6, sub 0 f0, (List.getElem?_eq_some_iff.mp (pr6 _ _ et)).1, fun i c a hi hc ha => ?_⟩
      by_cases ci : i < t
      · have : fs[i]? = some fs[i] := List.getElem?_eq_getElem (by omega)
        have e := pr6 _ _ this
        rw [hc] at e
        cases e
        exact sub _ (fcl i _ a ci this ha)
      · have e : i = t := by omega
        subst e
        have e := pr6 _ _ et
        rw [hc] at e
        cases e
        exact cl6 a (by omega)
  · have ht : t = fs.length := by omega
    walk_at "st"
    refine k f H5 fs hf e5 (W5.keep rfl fun a o s q => ⟨q, s.1⟩) fnd fun c => ⟨fre c, fun h => ?_⟩
    induction h with
    | z => exact f0
    | s _ ha ih =>
      obtain ⟨j, hj⟩ := List.mem_iff_getElem?.mp ih
      exact fcl j _ _ (by rw [ht]; exact (List.getElem?_eq_some_iff.mp hj).1) hj ha

end
end K29
set_option maxRecDepth 100000
set_option maxHeartbeats 4000000
namespace K29
open PySem PySem.Spec PyProof.Rows L2 L3
local macro_rules | `(tactic| walk_at "s1") => `(tactic| first
  | with_reducible refine r_seq ?_
  | with_reducible refine r_asgN ?_
  | with_reducible refine r_ret ?_
  | with_reducible refine r_next ?_
  | ((with_reducible refine' r_var ?hv ?_); (case hv => exact rfl))
  | with_reducible refine r_c ?_
  | with_reducible refine r_op ?_
  | with_reducible refine r_cons ?_
  | with_reducible refine r_nil ?_
  | with_reducible refine r_plusI ?_
  | with_reducible refine r_I0 ?_
  | with_reducible refine r_test ?_
  | with_reducible refine r_bl ?_
  | with_reducible refine r_ifS ?_
  | with_reducible refine r_cb ?_
  | with_reducible refine r_callS ?_
  | with_reducible refine r_and ?_
  | with_reducible refine r_or ?_
  | with_reducible refine r_not ?_
  | with_reducible refine r_B ?_
  | ((with_reducible refine' r_aug ?hv ?_); (case hv => exact rfl))
  | with_reducible refine r_augS ?_
  | with_reducible refine r_ipI ?_
  | with_reducible refine r_asg ?_
  | with_reducible refine r_sub ?_
  | with_reducible refine r_brk ?_
  | with_reducible refine r_isN1 ?_
  | with_reducible refine r_notN1 ?_
  | with_reducible refine r_intI ?_
  | with_reducible refine r_abs ?_
  | with_reducible refine r_min ?_
  | with_reducible refine r_max ?_
  | ((with_reducible refine' r_mod ?hz ?_); (case hz => omega))
  | ((with_reducible refine' r_pow ?hz ?_); (case hz => exact ⟨by decide, by decide, by decide⟩))
  | ((with_reducible refine' r_rg1 ?hz ?_); (case hz => omega))
  | ((with_reducible refine' r_rg2 ?hz ?_); (case hz => omega))
  | ((with_reducible refine' r_newL ?hz ?_); (case hz => exact Nat.le_of_ble_eq_true rfl))
  | ((with_reducible refine' r_newT ?hz ?_); (case hz => exact Nat.le_of_ble_eq_true rfl))
  | with_reducible refine r_for ?_
  | with_reducible refine r_lc ?_
  | with_reducible refine r_iR1 ?_
  | with_reducible refine r_iR2 ?_
  | with_reducible refine r_iL ?_
  | with_reducible refine r_iT ?_
  | with_reducible refine r_gname ?_
  | with_reducible refine r_gcons ?_
  | with_reducible refine r_gnil ?_
  | with_reducible refine r_yes ?_
  | with_reducible refine r_mkO ?_
  | with_reducible refine r_cont ?_
  | with_reducible refine r_drop ?_
  | with_reducible refine r_retN ?_
  | with_reducible refine r_ifC ?_
  | with_reducible refine r_ifI ?_
  | with_reducible refine r_if ?_
  | with_reducible refine r_un ?_
  | with_reducible refine r_neg ?_
  | with_reducible refine r_andV ?_
  | with_reducible refine r_orV ?_
  | with_reducible refine r_notV ?_
  | with_reducible refine r_tup ?_
  | with_reducible refine r_lst ?_
  | with_reducible refine r_bm ?_
  | with_reducible refine r_bm0 ?_
  | with_reducible refine r_sl ?_
  | with_reducible refine r_chain ?_
  | with_reducible refine r_listDn ?_
  | with_reducible refine r_listRg2 ?_
  | with_reducible refine r_revL ?_
  | with_reducible refine r_noPart ?_
  | with_reducible refine r_dgt ?_
  | with_reducible refine r_din ?_
  | with_reducible refine r_dnin ?_
  | with_reducible refine r_dput ?_
  | with_reducible refine r_dnew ?_
  | with_reducible refine r_disp1 ?_
  | with_reducible refine r_lenSet ?_
  | with_reducible refine r_part ?_
  | with_reducible refine r_int ?_
  | ((with_reducible refine' r_sameS ?hs ?_); (case hs => exact rfl))
  | ((with_reducible refine' r_otherS ?hs ?_); (case hs => exact rfl))
  | with_reducible refine ite_t ?_
  | with_reducible refine ite_f ?_
  | with_reducible refine ite_nt ?_
  | with_reducible refine ite_nf ?_)
local macro_rules | `(tactic| walk_at "st") => `(tactic| repeat (walk_at "s1"))

section
variable {P : Program} {w : World} {K : PySem.W.Frag} {mg : Str → Option Value} {base : Heap}
/-! ### rows that part -/
theorem perm_come {st : List (List Int)} {m : Int} {fs : List Nat} (fnd : fs.Nodup) (mem : ∀ c, c ∈ fs ↔ Reach st m c) {ns : List Int} (pe : ns.Perm (fs.map fun (c : Nat) => (c : Int))) (so : ns.Pairwise (· ≤ ·)) : ∃ cs : List Nat, ns = cs.map (fun (c : Nat) => (c : Int)) ∧ ComeS st m cs ∧ cs.length = fs.length := by
  obtain ⟨cs, rfl⟩ : ∃ cs : List Nat, ns = cs.map fun (c : Nat) => (c : Int) := by
    refine ⟨ns.map Int.toNat, ?_⟩
    rw [List.map_map]
    conv => lhs; rw [← List.map_id ns]
    refine List.map_congr_left fun x hx => ?_
    obtain ⟨c, _, rfl⟩ := List.mem_map.mp (pe.mem_iff.mp hx)
    rfl
  have mm : ∀ c, c ∈ cs ↔ c ∈ fs := fun c => by rw [← mem_nt, pe.mem_iff, mem_nt]
  refine ⟨cs, rfl, ⟨?_, ?_, fun c => by rw [mm, mem]⟩, ?_⟩
  · have h := pe.nodup_iff.mpr (Lay.nd_map (f := fun (c : Nat) => (c : Int)) (fun x _ y _ e => by have e : (x : Int) = y := e; omega) fnd)
    rw [List.Nodup, List.pairwise_map] at h
    exact h.imp fun n e => n (by rw [e])
  · rw [List.pairwise_map] at so
    exact so.imp fun h => by omega
  · have := pe.length_eq
    rwa [List.length_map, List.length_map] at this
theorem come_uniq {st : List (List Int)} {m : Int} {cs ds : List Nat} (hc : ComeS st m cs) (hd : ComeS st m ds) : cs = ds := by
  have pe : cs.Perm ds := (List.perm_ext_iff_of_nodup hc.nd hd.nd).mpr fun x => by rw [hc.mem, hd.mem]
  exact pe.eq_of_pairwise (fun a b _ _ h1 h2 => Nat.le_antisymm h1 h2) hc.so hd.so
def Com (st : List (List Int)) (m : Int) : Prop := ∀ a b c : Nat, a < b → (b : Int) < m → Reach st m c → stp st (stp st c a) b = stp st (stp st c b) a
def Inj (st : List (List Int)) (m : Int) : Prop := ∀ a : Nat, (a : Int) < m → ∀ c c', Reach st m c → Reach st m c' → stp st c a = stp st c' a → c = c'
theorem sum_iff {st : List (List Int)} {m : Int} : IsSum st m ↔ Com st m ∧ Inj st m :=
  ⟨fun S => ⟨fun a b c h hb hc => ((S b hb).com a h c hc).symm, fun a ha => (S a ha).inj⟩, fun ⟨h1, h2⟩ a ha => ⟨h2 a ha, fun b hb c hc => (h1 b a c hb ha hc).symm⟩⟩
structure Parts (kind : Str) (first : List Int) (i : Nat) (second : List Int) (j : Nat) (letter : Nat) (H H' : Hp) (q : Addr) : Prop where
  ex : ∃ r1 r2, H r1 = none ∧ H r2 = none ∧ H' r1 = some (.lst (first.map V.int)) ∧ H' r2 = some (.lst (second.map V.int)) ∧ H' q = some (.tup [.str kind, .ref r1, .int i, .ref r2, .int j, .int letter])
structure Shown (st : List (List Int)) (m : Int) (kind : Str) (first : List Int) (i : Nat) (second : List Int) (j : Nat) (letter : Nat) : Prop where
  r1 : ∀ l ∈ first, 0 ≤ l ∧ l < m
  r2 : ∀ l ∈ second, 0 ≤ l ∧ l < m
  rl : (letter : Int) < m
  same : runF st m 0 first = runF st m 0 second
  l1 : first.length ≤ 1000
  l2 : second.length ≤ 1000
  part : (kind = "put" ∧ ¬ Com st m ∧ i ≤ first.length ∧ j ≤ second.length ∧ runF st m 0 (first.take i ++ [(letter : Int)] ++ first.drop i) ≠ runF st m 0 (second.take j ++ [(letter : Int)] ++ second.drop j)) ∨
    (kind = "take" ∧ Com st m ∧ first[i]? = some (letter : Int) ∧ second[j]? = some (letter : Int) ∧ runF st m 0 (first.take i ++ first.drop (i + 1)) ≠ runF st m 0 (second.take j ++ second.drop (j + 1)))
def spPut (K : PySem.W.Frag) : Sp := fun vs H Q _ => ∃ (p q : Addr) (st : List (List Int)) (m : Int) (S : Addr → Prop) (fs : List Nat), vs = [.ref p, .int m, .ref q] ∧ Tb K H p st ∧ GoodSt st m ∧ m ≤ 1000 ∧ st.length ≤ 63 ∧ WD st m S H q fs ∧ fs.Nodup ∧ (∀ c, c ∈ fs ↔ Reach st m c) ∧
  (Com st m → ∀ H', Ext H H' → Q .non H') ∧ (∀ q H' first i second j letter, Ext H H' → Shown st m "put" first i second j letter → Parts "put" first i second j letter H H' q → Q (.ref q) H')
theorem sc_parted_by_put : FnScope ["states", "letters", "words", "state", "letter", "other", "first", "row"] ["states", "letters", "words"] (defScope s_parted_by_put) := ⟨rfl, rfl, rfl, by decide +kernel, rfl, by decide +kernel, by decide +kernel⟩
theorem ok_parted_by_put (T : Txt w K mg) : CalG P w K mg base 1 "parted_by_put" ["states", "letters", "words"] (spPut K) := by
  refine calG_of T.g_parted_by_put T.d_parted_by_put sc_parted_by_put (fun _ _ _ _ _ _ _ us hl => match us, hl with | [_, _, _], _ => rfl) (fun vs H Q E h => by obtain ⟨_, _, _, _, _, _, rfl, _⟩ := h; rfl) (fun cdv A outer s H vs Q E hr h => ?_)
  have nd := sc_parted_by_put.nd
  have hu := hu64 hr
  have hu1 := hu1 hr
  obtain ⟨p, q, st, m, S, fs, rfl, hp, g, m1, hsz, W, fnd, fre, kn, k⟩ := h
  have m0 := g.1.1
  have fle := come_len g fnd fun c hc => (fre c).mp hc
  obtain ⟨kvs, k1, k2, k3, k4⟩ := W.ex
  refine ⟨_, (pss_cons (ps_for (passes_of rfl) rfl (piL (K := K) (pe_callB (sortedD rfl) (by rfl) T.f_sorted (by decide +kernel) (pa_cons (pv 2) pa_nil))) (pg_name (i := 3) nd rfl (Or.inl rfl)) (pss_one (ps_for (passes_of rfl) rfl (pi_range1 (by rfl) T.f_range (pa_cons (pv 1) pa_nil)) (pg_name (i := 4) nd rfl (Or.inl rfl)) (pss_one (ps_for (passes_of rfl) rfl (pi_range2 (by rfl) T.f_range (pa_cons (pe_op (plusK (K := K)) (pv 4) pe_int) (pa_cons (pv 1) pa_nil))) (pg_name (i := 5) nd rfl (Or.inl rfl)) (pss_cons (ps_set (i := 6) nd rfl (Or.inl rfl) (pe_ix (ixK (K := K)) (pe_ix (ixK (K := K)) (pv 0) (pe_ix (ixK (K := K)) (pe_ix (ixK (K := K)) (pv 0) (pv 3) (fun _ _ => rfl)) (pv 4) (fun _ _ => rfl)) (fun _ _ => rfl)) (pv 5) (fun _ _ => rfl)))
        (pss_one (ps_if (pt_cmpR (otherK (K := K) hu) (pv 6) (pe_ix (ixK (K := K)) (pe_ix (ixK (K := K)) (pv 0) (pe_ix (ixK (K := K)) (pe_ix (ixK (K := K)) (pv 0) (pv 3) (fun _ _ => rfl)) (pv 5) (fun _ _ => rfl)) (fun _ _ => rfl)) (pv 4) (fun _ _ => rfl)) (nomark _)) (pss_cons (ps_set (i := 7) nd rfl (Or.inl rfl) (pe_op (plusK (K := K)) (pe_dget hu1 (pv 2) (pv 3) (fun _ _ => rfl)) (pe_lst (pa_cons (pv 5) pa_nil))))
        (pss_one (ps_ret (pe_tup (pa_cons pe_str (pa_cons (pv 7) (pa_cons (pe_op op_sub (pe_callB (lenK (K := K)) (by rfl) T.f_len boot_len (pa_cons (pv 7) pa_nil)) pe_int) (pa_cons (pe_callTy (listK (K := K)) (by rfl) T.f_list (by decide +kernel) (pa_cons (pv 7) pa_nil)) (pa_cons (pe_callB (lenK (K := K)) (by rfl) T.f_len boot_len (pa_cons (pv 7) pa_nil)) (pa_cons (pv 4) pa_nil)))))))))) pss_nil))))))))
        (pss_one (ps_ret pe_non))), ?_⟩
  walk_at "st"
  refine r_srtD k1 k2 (by rw [List.length_map]; omega) (fun ns l H1 pe so hl e1 h1 => ?_)
  obtain ⟨cs, rfl, C, cl⟩ := perm_come fnd fre pe so
  walk_at "st"
  refine r_li (sqL h1) ?_
  refine forW_list (fun i σ' H' => ∃ v3 v4 v5 v6 v7, σ' = [some (.ref p), some (.int m), some (.ref q), v3, v4, v5, v6, v7] ∧ H1 = H' ∧ ∀ (t c : Nat), t < i → cs[t]? = some c → ∀ a b : Nat, a < b → (b : Int) < m → stp st (stp st c a) b = stp st (stp st c b) a) ⟨none, none, none, none, none, rfl, rfl, fun t c ht => absurd ht (Nat.not_lt_zero _)⟩ (fun i σ' H' _ ⟨_, _, _, _, _, _, e, _⟩ => e ▸ sqL h1) ?_ ?_
  · rintro i x σ' H2 hx ⟨v3, v4, v5, v6, v7, rfl, rfl, hall⟩
    obtain ⟨c, hc, rfl⟩ := ntV_get hx
    have rc : Reach st m c := (C.mem c).mp (List.mem_of_getElem? hc)
    obtain ⟨jw, hjw⟩ := List.mem_iff_getElem?.mp ((fre c).mpr rc)
    obtain ⟨aw, ls, w1, w2, w3, w4, w5⟩ := k3 jw c hjw
    have jwl := (List.getElem?_eq_some_iff.mp hjw).1
    walk_at "st"
    refine forW_range (fun a σ' H' => ∃ v4 v5 v6 v7, σ' = [some (.ref p), some (.int m), some (.ref q), some (.int (c : Nat)), v4, v5, v6, v7] ∧ H1 = H' ∧ ∀ a' : Nat, a' < a → ∀ b : Nat, a' < b → (b : Int) < m → stp st (stp st c a') b = stp st (stp st c b) a') ⟨v4, v5, v6, v7, rfl, rfl, fun t ht => absurd ht (Nat.not_lt_zero _)⟩ ?_ ?_
    · rintro a σ' H2 ha ⟨v4, v5, v6, v7, rfl, rfl, hall2⟩
      have ha' : (a : Int) < m := by omega
      walk_at "st"
      rw [Int.zero_add]
      walk_at "st"
      refine forW_range (fun b σ' H' => ∃ v5 v6 v7, σ' = [some (.ref p), some (.int m), some (.ref q), some (.int (c : Nat)), some (.int (a : Nat)), v5, v6, v7] ∧ H1 = H' ∧ ∀ b' : Nat, b' < b → stp st (stp st c a) (a + 1 + b') = stp st (stp st c (a + 1 + b')) a) ⟨v5, v6, v7, rfl, rfl, fun t ht => absurd ht (Nat.not_lt_zero _)⟩ ?_ ?_
      · rintro b σ' H2 hb ⟨v5, v6, v7, rfl, rfl, hall3⟩
        have hb' : ((a + 1 + b : Nat) : Int) < m := by omega
        rw [show ((a : Int) + 1 + (b : Int)) = ((a + 1 + b : Nat) : Int) by omega]
        have hp1 := hp.ext e1
        obtain ⟨xs, row, d, q1, q2, q3, q4⟩ := tb_at hp1 g (rc.lt g)
        obtain ⟨xs', row', d', q1', q2', q3', q4'⟩ := tb_at hp1 g (stp_lt g (rc.lt g) ha')
        obtain ⟨xs2, row2, d2, q12, q22, q32, q42⟩ := tb_at hp1 g (stp_lt g (rc.lt g) hb')
        walk_at "st"
        refine r_atL q1 (atI_nat q2) ?_
        walk_at "st"
        refine r_atA q3 (atI_nat (q4 a ha')) ?_
        refine r_atL q1' (atI_nat q2') ?_
        walk_at "st"
        refine r_atA q3' (atI_nat (q4' _ hb')) ?_
        walk_at "st"
        refine r_atL q1 (atI_nat q2) ?_
        walk_at "st"
        refine r_atA q3 (atI_nat (q4 _ hb')) ?_
        refine r_atL q12 (atI_nat q22) ?_
        walk_at "st"
        refine r_atA q32 (atI_nat (q42 a ha')) ?_
        walk_at "st"
        refine ite_n (fun z => ?_) (fun z => ?_)
        · have ne : stp st (stp st c a) (a + 1 + b) ≠ stp st (stp st c (a + 1 + b)) a := fun e => z (by rw [e])
          walk_at "st"
          refine r_dgI (e1 _ _ k1) w1 ?_
          walk_at "st"
          intro l2 H2 hl2 e2 h2
          have e12 := e1.trans e2
          walk_at "st"
          refine r_catL (e12 _ _ w3) h2 (by rw [List.length_map]; show _ + 1 ≤ 100000; omega) (fun l3 H3 hl3 e3 h3 => ?_)
          have h3' : H3 l3 = some (.lst ((ls ++ [((a + 1 + b : Nat) : Int)]).map V.int)) := by rw [h3, List.map_append]; rfl
          walk_at "st"
          refine r_lenL (sqL h3') (n := (ls.length + 1 : Nat)) (by rw [List.length_map, List.length_append]; rfl) ?_
          walk_at "st"
          refine r_listL (sqL h3') (fun l4 H4 hl4 e4 h4 => ?_)
          walk_at "st"
          refine r_lenL (sqL (e4 _ _ h3')) (n := (ls.length + 1 : Nat)) (by rw [List.length_map, List.length_append]; rfl) ?_
          walk_at "st"
          intro t5 H5 ht5 e5 h5
          have e15 := (e12.trans e3).trans (e4.trans e5)
          have W1 := w4.snoc ha'
          have W2 := w4.snoc hb'
          have rn : ∀ (u : Nat) (v : Nat), (u : Int) < m → runF st m 0 (ls ++ [(u : Int)] ++ [(v : Int)]) = stp st (stp st c u) (v % m).toNat := fun u v hu => by
            unfold runF
            rw [List.foldl_append, List.foldl_append]
            show stp st (stp st (runF st m 0 ls) ((u : Int) % m).toNat) ((v : Int) % m).toNat = _
            rw [w4.run, Int.emod_eq_of_lt (by omega) hu, Int.toNat_natCast]
          rw [show ((ls.length + 1 : Nat) : Int) - 1 = ((ls.length : Nat) : Int) by omega] at h5
          refine k t5 H5 _ ls.length _ (ls.length + 1) a e15 ⟨W2.rng, W2.rng, ha', rfl, by rw [List.length_append]; show _ + 1 ≤ _; omega, by rw [List.length_append]; show _ + 1 ≤ _; omega, .inl ⟨rfl, fun cm => ne (cm a _ c (by omega) hb' rc), by rw [List.length_append]; omega, by rw [List.length_append]; exact Nat.le_refl _, ?_⟩⟩ ⟨l3, l4, (e1.trans e2).none hl3, ((e1.trans e2).trans e3).none hl4, (e4.trans e5) _ _ h3', e5 _ _ h4, h5⟩
          rw [List.take_left, List.drop_left, List.take_of_length_le (by rw [List.length_append]; exact Nat.le_refl _), List.drop_of_length_le (by rw [List.length_append]; exact Nat.le_refl _), List.append_nil, rn a _ ha', rn _ a hb', Int.emod_eq_of_lt (by omega) hb', Int.emod_eq_of_lt (by omega) ha', Int.toNat_natCast, Int.toNat_natCast]
          exact ne
        · walk_at "st"
          have eq : stp st (stp st c a) (a + 1 + b) = stp st (stp st c (a + 1 + b)) a := by have := V.int.inj z; omega
          refine ⟨_, _, _, rfl, rfl, fun b' hb2 => ?_⟩
          by_cases cb : b' < b
          · exact hall3 b' cb
          · rw [show b' = b by omega]; exact eq
      · rintro σ' H2 ⟨v5, v6, v7, rfl, rfl, hall3⟩
        refine ⟨_, _, _, _, rfl, rfl, fun a' ha2 b hab hb => ?_⟩
        by_cases ca : a' < a
        · exact hall2 a' ca b hab hb
        · have : a' = a := by omega
          subst this
          have := hall3 (b - (a' + 1)) (by omega)
          rwa [show a' + 1 + (b - (a' + 1)) = b by omega] at this
    · rintro σ' H2 ⟨v4, v5, v6, v7, rfl, rfl, hall2⟩
      refine ⟨_, _, _, _, _, rfl, rfl, fun t c' ht hc' a b hab hb => ?_⟩
      by_cases ct : t < i
      · exact hall t c' ct hc' a b hab hb
      · have : t = i := by omega
        subst this
        rw [hc] at hc'
        cases hc'
        exact hall2 a (by omega) b hab hb
  · rintro σ' H2 ⟨v3, v4, v5, v6, v7, rfl, rfl, hall⟩
    walk_at "st"
    refine kn (fun a b c hab hb hc => ?_) H1 e1
    obtain ⟨t, ht⟩ := List.mem_iff_getElem?.mp ((C.mem c).mpr hc)
    exact hall t c (by have := (List.getElem?_eq_some_iff.mp ht).1; rw [List.length_map, List.length_map]; exact this) ht a b hab hb

end
end K29
set_option maxRecDepth 100000
set_option maxHeartbeats 4000000
namespace K29
open PySem PySem.Spec PyProof.Rows L2 L3
local macro_rules | `(tactic| walk_at "s1") => `(tactic| first
  | with_reducible refine r_seq ?_
  | with_reducible refine r_asgN ?_
  | with_reducible refine r_ret ?_
  | with_reducible refine r_next ?_
  | ((with_reducible refine' r_var ?hv ?_); (case hv => exact rfl))
  | with_reducible refine r_c ?_
  | with_reducible refine r_op ?_
  | with_reducible refine r_cons ?_
  | with_reducible refine r_nil ?_
  | with_reducible refine r_plusI ?_
  | with_reducible refine r_I0 ?_
  | with_reducible refine r_test ?_
  | with_reducible refine r_bl ?_
  | with_reducible refine r_ifS ?_
  | with_reducible refine r_cb ?_
  | with_reducible refine r_callS ?_
  | with_reducible refine r_and ?_
  | with_reducible refine r_or ?_
  | with_reducible refine r_not ?_
  | with_reducible refine r_B ?_
  | ((with_reducible refine' r_aug ?hv ?_); (case hv => exact rfl))
  | with_reducible refine r_augS ?_
  | with_reducible refine r_ipI ?_
  | with_reducible refine r_asg ?_
  | with_reducible refine r_sub ?_
  | with_reducible refine r_brk ?_
  | with_reducible refine r_isN1 ?_
  | with_reducible refine r_notN1 ?_
  | with_reducible refine r_intI ?_
  | with_reducible refine r_abs ?_
  | with_reducible refine r_min ?_
  | with_reducible refine r_max ?_
  | ((with_reducible refine' r_mod ?hz ?_); (case hz => omega))
  | ((with_reducible refine' r_pow ?hz ?_); (case hz => exact ⟨by decide, by decide, by decide⟩))
  | ((with_reducible refine' r_rg1 ?hz ?_); (case hz => omega))
  | ((with_reducible refine' r_rg2 ?hz ?_); (case hz => omega))
  | ((with_reducible refine' r_newL ?hz ?_); (case hz => exact Nat.le_of_ble_eq_true rfl))
  | ((with_reducible refine' r_newT ?hz ?_); (case hz => exact Nat.le_of_ble_eq_true rfl))
  | with_reducible refine r_for ?_
  | with_reducible refine r_lc ?_
  | with_reducible refine r_iR1 ?_
  | with_reducible refine r_iR2 ?_
  | with_reducible refine r_iL ?_
  | with_reducible refine r_iT ?_
  | with_reducible refine r_gname ?_
  | with_reducible refine r_gcons ?_
  | with_reducible refine r_gnil ?_
  | with_reducible refine r_yes ?_
  | with_reducible refine r_mkO ?_
  | with_reducible refine r_cont ?_
  | with_reducible refine r_drop ?_
  | with_reducible refine r_retN ?_
  | with_reducible refine r_ifC ?_
  | with_reducible refine r_ifI ?_
  | with_reducible refine r_if ?_
  | with_reducible refine r_un ?_
  | with_reducible refine r_neg ?_
  | with_reducible refine r_andV ?_
  | with_reducible refine r_orV ?_
  | with_reducible refine r_notV ?_
  | with_reducible refine r_tup ?_
  | with_reducible refine r_lst ?_
  | with_reducible refine r_bm ?_
  | with_reducible refine r_bm0 ?_
  | with_reducible refine r_sl ?_
  | with_reducible refine r_chain ?_
  | with_reducible refine r_listDn ?_
  | with_reducible refine r_listRg2 ?_
  | with_reducible refine r_revL ?_
  | with_reducible refine r_noPart ?_
  | with_reducible refine r_dgt ?_
  | with_reducible refine r_din ?_
  | with_reducible refine r_dnin ?_
  | with_reducible refine r_dput ?_
  | with_reducible refine r_dnew ?_
  | with_reducible refine r_disp1 ?_
  | with_reducible refine r_lenSet ?_
  | with_reducible refine r_part ?_
  | with_reducible refine r_int ?_
  | ((with_reducible refine' r_sameS ?hs ?_); (case hs => exact rfl))
  | ((with_reducible refine' r_otherS ?hs ?_); (case hs => exact rfl))
  | with_reducible refine ite_t ?_
  | with_reducible refine ite_f ?_
  | with_reducible refine ite_nt ?_
  | with_reducible refine ite_nf ?_)
local macro_rules | `(tactic| walk_at "st") => `(tactic| repeat (walk_at "s1"))

section
variable {P : Program} {w : World} {K : PySem.W.Frag} {mg : Str → Option Value} {base : Heap}
def spTake (K : PySem.W.Frag) : Sp := fun vs H Q _ => ∃ (p q : Addr) (st : List (List Int)) (m : Int) (S : Addr → Prop) (fs : List Nat), vs = [.ref p, .int m, .ref q] ∧ Tb K H p st ∧ GoodSt st m ∧ m ≤ 1000 ∧ st.length ≤ 63 ∧ WD st m S H q fs ∧ fs.Nodup ∧ (∀ c, c ∈ fs ↔ Reach st m c) ∧ Com st m ∧
  (Inj st m → ∀ H', Ext H H' → Q .non H') ∧ (∀ q H' first i second j letter, Ext H H' → Shown st m "take" first i second j letter → Parts "take" first i second j letter H H' q → Q (.ref q) H')
theorem sc_parted_by_take : FnScope ["states", "letters", "words", "letter", "back", "state", "after", "first", "second"] ["states", "letters", "words"] (defScope s_parted_by_take) := ⟨rfl, rfl, rfl, by decide +kernel, rfl, by decide +kernel, by decide +kernel⟩
theorem ok_parted_by_take (T : Txt w K mg) : CalG P w K mg base 1 "parted_by_take" ["states", "letters", "words"] (spTake K) := by
  refine calG_of T.g_parted_by_take T.d_parted_by_take sc_parted_by_take (fun _ _ _ _ _ _ _ us hl => match us, hl with | [_, _, _], _ => rfl) (fun vs H Q E h => by obtain ⟨_, _, _, _, _, _, rfl, _⟩ := h; rfl) (fun cdv A outer s H vs Q E hr h => ?_)
  have nd := sc_parted_by_take.nd
  have hu := hu64 hr
  have hu1 := hu1 hr
  obtain ⟨p, q, st, m, S, fs, rfl, hp, g, m1, hsz, W, fnd, fre, cm, kn, k⟩ := h
  have m0 := g.1.1
  have fle := come_len g fnd fun c hc => (fre c).mp hc
  obtain ⟨kvs, k1, k2, k3, k4⟩ := W.ex
  have word : ∀ c, Reach st m c → ∃ aw ls, valV kvs (.inl (c : Int)) = some (.ref aw) ∧ H aw = some (.lst (ls.map V.int)) ∧ Word st m c ls ∧ ls.length ≤ 63 := fun c hc => by
    obtain ⟨jw, hjw⟩ := List.mem_iff_getElem?.mp ((fre c).mpr hc)
    obtain ⟨aw, ls, w1, w2, w3, w4, w5⟩ := k3 jw c hjw
    have jwl := (List.getElem?_eq_some_iff.mp hjw).1
    exact ⟨aw, ls, w1, w3, w4, by omega⟩
  refine ⟨_, (pss_cons (ps_for (passes_of rfl) rfl (pi_range1 (by rfl) T.f_range (pa_cons (pv 1) pa_nil)) (pg_name (i := 3) nd rfl (Or.inl rfl)) (pss_cons (ps_set (i := 4) nd rfl (Or.inl rfl) pe_dnewK)
        (pss_one (ps_for (passes_of rfl) rfl (piL (K := K) (pe_callB (sortedD rfl) (by rfl) T.f_sorted (by decide +kernel) (pa_cons (pv 2) pa_nil))) (pg_name (i := 5) nd rfl (Or.inl rfl)) (pss_cons (ps_set (i := 6) nd rfl (Or.inl rfl) (pe_ix (ixK (K := K)) (pe_ix (ixK (K := K)) (pv 0) (pv 5) (fun _ _ => rfl)) (pv 3) (fun _ _ => rfl)))
        (pss_cons (ps_if (pt_cmp (pc_din hu1 (pv 6) (pv 4))) (pss_cons (ps_set (i := 7) nd rfl (Or.inl rfl) (pe_dget hu1 (pv 2) (pe_dget hu1 (pv 4) (pv 6) (fun _ _ => rfl)) (fun _ _ => rfl)))
        (pss_cons (ps_set (i := 8) nd rfl (Or.inl rfl) (pe_dget hu1 (pv 2) (pv 5) (fun _ _ => rfl)))
        (pss_one (ps_ret (pe_tup (pa_cons pe_str (pa_cons (pe_op (plusK (K := K)) (pv 7) (pe_lst (pa_cons (pv 3) pa_nil))) (pa_cons (pe_callB (lenK (K := K)) (by rfl) T.f_len boot_len (pa_cons (pv 7) pa_nil)) (pa_cons (pe_op (plusK (K := K)) (pv 8) (pe_lst (pa_cons (pv 3) pa_nil))) (pa_cons (pe_callB (lenK (K := K)) (by rfl) T.f_len boot_len (pa_cons (pv 8) pa_nil)) (pa_cons (pv 3) pa_nil))))))))))) pss_nil)
        (pss_one (ps_dput hu1 (pv 4) (pv 6) (pv 5) rfl))))))))
        (pss_one (ps_ret pe_non))), ?_⟩
  walk_at "st"
  refine forW_range (fun a σ' H' => ∃ v3 v4 v5 v6 v7 v8, σ' = [some (.ref p), some (.int m), some (.ref q), v3, v4, v5, v6, v7, v8] ∧ Ext H H' ∧ ∀ a' : Nat, a' < a → ∀ c c', Reach st m c → Reach st m c' → stp st c a' = stp st c' a' → c = c') ⟨none, none, none, none, none, none, rfl, .rfl, fun t ht => absurd ht (Nat.not_lt_zero _)⟩ ?_ ?_
  · rintro a σ' H1 ha ⟨v3, v4, v5, v6, v7, v8, rfl, e1, hall⟩
    have ha' : (a : Int) < m := by omega
    walk_at "st"
    refine r_dnewK fun bk H2 hbk e2 h2 => ?_
    have hbk0 : H bk = none := e1.none hbk
    walk_at "st"
    refine r_srtD ((e1.trans e2) _ _ k1) k2 (by rw [List.length_map]; omega) (fun ns l H3 pe so hl e3 h3 => ?_)
    obtain ⟨cs, rfl, C, cl⟩ := perm_come fnd fre pe so
    have e13 := (e1.trans e2).trans e3
    have lbk : l ≠ bk := (ne_of_none h2 hl).symm
    walk_at "st"
    rw [Int.zero_add]
    refine r_li (sqL h3) ?_
    refine forW_list (fun i σ' H' => ∃ v5 v6 v7 v8 bs, σ' = [some (.ref p), some (.int m), some (.ref q), some (.int (a : Nat)), some (.ref bk), v5, v6, v7, v8] ∧ Ext H H' ∧ H' l = some (.lst (ntV cs)) ∧ H' bk = some (.dK bs) ∧ bs.length ≤ i ∧
      (∀ (x : Int) (v : V), valV bs (.inl x) = some v → ∃ t c : Nat, t < i ∧ cs[t]? = some c ∧ v = .int (c : Nat) ∧ x = (stp st c a : Nat)) ∧ (∀ (t c : Nat), t < i → cs[t]? = some c → (valV bs (.inl ((stp st c a : Nat) : Int))).isSome = true) ∧
      ∀ (t t' c c' : Nat), t < t' → t' < i → cs[t]? = some c → cs[t']? = some c' → stp st c a ≠ stp st c' a) ⟨v5, v6, v7, v8, [], rfl, e13, h3, e3 _ _ h2, Nat.le_refl _, fun x v (h : valV ([] : List (Key × V)) (Sum.inl x) = some v) => absurd h (by simp [valV]), fun t c ht => absurd ht (Nat.not_lt_zero _), fun t t' c c' _ ht => absurd ht (Nat.not_lt_zero _)⟩ (fun i σ' H' _ ⟨_, _, _, _, _, _, _, h, _⟩ => sqL h) ?_ ?_
    · rintro i x σ' H4 hx ⟨v5, v6, v7, v8, bs, rfl, e4, h4l, h4, lb, hb1, hb2, hb3⟩
      obtain ⟨c, hc, rfl⟩ := ntV_get hx
      have rc : Reach st m c := (C.mem c).mp (List.mem_of_getElem? hc)
      have hi := (List.getElem?_eq_some_iff.mp hc).1
      obtain ⟨xs, row, d, q1, q2, q3, q4⟩ := tb_at (hp.ext e4) g (rc.lt g)
      walk_at "st"
      refine r_atL q1 (atI_nat q2) ?_
      walk_at "st"
      refine r_atA q3 (atI_nat (q4 a ha')) ?_
      walk_at "st"
      refine r_dinI h4 ?_
      cases hv : valV bs (.inl ((stp st c a : Nat) : Int)) with
      | some v =>
        refine ⟨true, rfl, ite_t ?_⟩
        obtain ⟨t, c', ht, hc', rfl, ex⟩ := hb1 _ _ hv
        have rc' : Reach st m c' := (C.mem c').mp (List.mem_of_getElem? hc')
        obtain ⟨aw, ls, w1, w2, w3, w4⟩ := word c rc
        obtain ⟨aw', ls', w1', w2', w3', w4'⟩ := word c' rc'
        have k1' := e4 _ _ k1
        walk_at "st"
        refine r_dgI h4 hv ?_
        refine r_dgI k1' w1' ?_
        walk_at "st"
        refine r_dgI k1' w1 ?_
        walk_at "st"
        intro l5 H5 hl5 e5 h5
        have e45 := e4.trans e5
        walk_at "st"
        refine r_catL (e45 _ _ w2') h5 (by rw [List.length_map]; show _ + 1 ≤ 100000; omega) (fun l6 H6 hl6 e6 h6 => ?_)
        have h6' : H6 l6 = some (.lst ((ls' ++ [(a : Int)]).map V.int)) := by rw [h6, List.map_append]; rfl
        walk_at "st"
        refine r_lenL (sqL ((e45.trans e6) _ _ w2')) (n := (ls'.length : Nat)) (by rw [List.length_map]) ?_
        walk_at "st"
        intro l7 H7 hl7 e7 h7
        have e47 := (e45.trans e6).trans e7
        walk_at "st"
        refine r_catL (e47 _ _ w2) h7 (by rw [List.length_map]; show _ + 1 ≤ 100000; omega) (fun l8 H8 hl8 e8 h8 => ?_)
        have h8' : H8 l8 = some (.lst ((ls ++ [(a : Int)]).map V.int)) := by rw [h8, List.map_append]; rfl
        walk_at "st"
        refine r_lenL (sqL ((e47.trans e8) _ _ w2)) (n := (ls.length : Nat)) (by rw [List.length_map]) ?_
        walk_at "st"
        intro t9 H9 ht9 e9 h9
        have ne : c' ≠ c := fun e => by
          subst e
          have := nodup_at C.nd hc hc'
          omega
        refine k t9 H9 _ ls'.length _ ls.length a ((e47.trans e8).trans e9) ⟨(w3'.snoc ha').rng, (w3.snoc ha').rng, ha', ?_, by rw [List.length_append]; show _ + 1 ≤ _; omega, by rw [List.length_append]; show _ + 1 ≤ _; omega, .inr ⟨rfl, cm, ?_, ?_, ?_⟩⟩ ⟨l6, l8, e45.none hl6, e47.none hl8, (e7.trans (e8.trans e9)) _ _ h6', e9 _ _ h8', h9⟩
        · rw [(w3'.snoc ha').run, (w3.snoc ha').run]
          omega
        · rw [List.getElem?_append_right (Nat.le_refl _), Nat.sub_self]; rfl
        · rw [List.getElem?_append_right (Nat.le_refl _), Nat.sub_self]; rfl
        · rw [List.take_left, List.take_left, List.drop_of_length_le (by rw [List.length_append]; exact Nat.le_refl _), List.drop_of_length_le (by rw [List.length_append]; exact Nat.le_refl _), List.append_nil, List.append_nil, w3'.run, w3.run]
          exact ne
      | none =>
        refine ⟨false, rfl, ite_f ?_⟩
        walk_at "st"
        refine r_dputI h4 (by have := (List.getElem?_eq_some_iff.mp hx).1; unfold ntV at this; rw [List.length_map, List.length_map] at this; omega) (fun H5 h5 n5 => ?_)
        rw [putK_new _ hv] at h5
        have val : ∀ x : Int, valV (bs ++ [(Sum.inl ((stp st c a : Nat) : Int), V.int (c : Nat))]) (.inl x) = if x = (stp st c a : Nat) then some (.int (c : Nat)) else valV bs (.inl x) := fun x => by
          rw [valV_snoc _ _ _ bs hv]
          by_cases z : x = (stp st c a : Nat)
          · rw [if_pos z, if_pos (by rw [z])]
          · rw [if_neg z, if_neg (fun y => z (by injection y))]
        refine ⟨_, _, v7, v8, _, rfl, mut_ext e4 hbk0 n5, (n5 _ lbk).trans h4l, h5, by rw [List.length_append]; show _ + 1 ≤ _; omega, fun x v h => ?_, fun t c2 ht hc2 => ?_, fun t t' c1 c2 htt ht' h1 h2 => ?_⟩
        · rw [val] at h
          by_cases z : x = (stp st c a : Nat)
          · rw [if_pos z] at h
            exact ⟨i, c, by omega, hc, (Option.some.inj h).symm, z⟩
          · rw [if_neg z] at h
            obtain ⟨t, c2, h1, h2⟩ := hb1 x v h
            exact ⟨t, c2, by omega, h2⟩
        · rw [val]
          by_cases z : ((stp st c2 a : Nat) : Int) = (stp st c a : Nat)
          · rw [if_pos z]; rfl
          · rw [if_neg z]
            by_cases ct : t < i
            · exact hb2 t c2 ct hc2
            · have : t = i := by omega
              subst this
              rw [hc] at hc2
              cases hc2
              exact absurd rfl z
        · by_cases ct : t' < i
          · exact hb3 t t' c1 c2 htt ct h1 h2
          · have : t' = i := by omega
            subst this
            rw [hc] at h2
            cases h2
            intro e
            have := hb2 t c1 htt h1
            rw [e, hv] at this
            cases this
    · rintro σ' H4 ⟨v5, v6, v7, v8, bs, rfl, e4, h4l, h4, lb, hb1, hb2, hb3⟩
      refine ⟨_, _, _, _, _, _, rfl, e4, fun a' ha2 c c' rc rc' e => ?_⟩
      by_cases ca : a' < a
      · exact hall a' ca c c' rc rc' e
      · have : a' = a := by omega
        subst this
        obtain ⟨t, ht⟩ := List.mem_iff_getElem?.mp ((C.mem c).mpr rc)
        obtain ⟨t', ht'⟩ := List.mem_iff_getElem?.mp ((C.mem c').mpr rc')
        have l1 := (List.getElem?_eq_some_iff.mp ht).1
        have l2 := (List.getElem?_eq_some_iff.mp ht').1
        rw [ntV_len] at hb3
        rcases Nat.lt_trichotomy t t' with z | z | z
        · exact absurd e (hb3 t t' c c' z l2 ht ht')
        · rw [z, ht'] at ht
          exact (Option.some.inj ht).symm
        · exact absurd e.symm (hb3 t' t c' c z l1 ht' ht)
  · rintro σ' H1 ⟨v3, v4, v5, v6, v7, v8, rfl, e1, hall⟩
    walk_at "st"
    exact kn (fun a ha => hall a (by omega)) H1 e1
/-! ### orders -/
def spOrd (K : PySem.W.Frag) : Sp := fun vs H Q _ => ∃ (p cp : Addr) (st : List (List Int)) (m : Int) (a : Nat) (cs : List Nat), vs = [.ref p, .int a, .ref cp] ∧ Tb K H p st ∧ GoodSt st m ∧ IsSum st m ∧ (a : Int) < m ∧ st.length ≤ 1000 ∧ H cp = some (.lst (ntV cs)) ∧ ComeS st m cs ∧ ∀ k H', Ext H H' → IsOrd (stF st a) k → Q (.int (k : Nat)) H'
theorem map_eq {cs : List Nat} {f : Nat → Nat} : ((cs.map f).map fun (c : Nat) => (c : Int)) = cs.map (fun (c : Nat) => (c : Int)) ↔ ∀ c ∈ cs, f c = c := by
  rw [List.map_map]
  refine ⟨fun h c hc => ?_, fun h => List.map_congr_left fun c hc => by show ((f c : Nat) : Int) = c; rw [h c hc]⟩
  have := List.map_inj_left.mp h c hc
  have : ((f c : Nat) : Int) = c := this
  omega
theorem lc_nt {H1 H2 : Hp} {D : Addr} {cs : List Nat} {f : Nat → Nat} (q : LcP H1 D (fun j => .int (f (cs.getD j 0) : Nat)) cs.length H2) : H2 D = some (.lst (ntV (cs.map f))) := by
  rw [q.d, range_nt]
  congr 3
  apply List.ext_getElem?
  intro i
  by_cases c : i < cs.length
  · rw [List.getElem?_map, List.getElem?_range c, List.getElem?_map, getD_at c]; rfl
  · rw [List.getElem?_eq_none (by rw [List.length_map, List.length_range]; omega), List.getElem?_eq_none (by rw [List.length_map]; omega)]
theorem sc_order_of : FnScope ["states", "letter", "come", "now", "found", "state"] ["states", "letter", "come"] (defScope s_order_of) := ⟨rfl, rfl, rfl, by decide +kernel, rfl, by decide +kernel, by decide +kernel⟩
theorem ok_order_of (T : Txt w K mg) : CalG P w K mg base 1 "order_of" ["states", "letter", "come"] (spOrd K) := by
  refine calG_of T.g_order_of T.d_order_of sc_order_of (fun _ _ _ _ _ _ _ us hl => match us, hl with | [_, _, _], _ => rfl) (fun vs H Q E h => by obtain ⟨_, _, _, _, _, _, rfl, _⟩ := h; rfl) (fun cdv A outer s H vs Q E hr h => ?_)
  have nd := sc_order_of.nd
  have hu := hu64 hr
  obtain ⟨p, cp, st, m, a, cs, rfl, hp, g, S, ha, hsz, hcp, C, k⟩ := h
  have clen := come_len g C.nd fun c hc => (C.mem c).mp hc
  refine ⟨_, (pss_cons (ps_setLc (i := 3) (own := [("state", 5)]) rfl nd rfl rfl (sw_true rfl rfl rfl (by decide +kernel)) (piL (K := K) (pv 2)) (blkOk_by (N := ["states", "letter", "come", "now", "found", "state"]) (sc := defScope s_order_of) (by decide +kernel)) (fun _ _ _ _ _ => (pg_name (i := 5) nd rfl (Or.inl rfl))) (fun _ _ _ _ _ => pts_nil) (fun _ _ _ _ _ => (pe_ix (ixK (K := K)) (pe_ix (ixK (K := K)) (pv 0) (pv 5) (fun _ _ => rfl)) (pv 1) (fun _ _ => rfl))))
        (pss_cons (ps_set (i := 4) nd rfl (Or.inl rfl) pe_int)
        (pss_cons (ps_while (passes_of rfl) (pt_cmpR (otherK (K := K) hu) (pv 3) (pv 2) (nomark _)) (pss_cons (ps_setLc (i := 3) (own := [("state", 5)]) rfl nd rfl rfl (sw_true rfl rfl rfl (by decide +kernel)) (piL (K := K) (pv 3)) (blkOk_by (N := ["states", "letter", "come", "now", "found", "state"]) (sc := defScope s_order_of) (by decide +kernel)) (fun _ _ _ _ _ => (pg_name (i := 5) nd rfl (Or.inl rfl))) (fun _ _ _ _ _ => pts_nil) (fun _ _ _ _ _ => (pe_ix (ixK (K := K)) (pe_ix (ixK (K := K)) (pv 0) (pv 5) (fun _ _ => rfl)) (pv 1) (fun _ _ => rfl))))
        (pss_one (ps_aug (i := 4) nd rfl (Or.inl rfl) pe_int ip_add))))
        (pss_one (ps_ret (pv 4)))))), ?_⟩
  have step : ∀ (H1 : Hp) (x : V) (i : Nat) (ds : List Nat), Ext H H1 → (∀ d ∈ ds, d < st.length) → (ntV ds)[i]? = some x → ∃ xs row b, x = .int (ds.getD i 0 : Nat) ∧ i < ds.length ∧ SqL K H1 p xs ∧ xs[ds.getD i 0]? = some (V.ref b) ∧ Seq K H1 b ((row : List Int).map V.int) ∧ (row.map V.int)[a]? = some (V.int (stp st (ds.getD i 0) a : Nat)) := fun H1 x i ds e hd hx => by
    obtain ⟨c, hc, rfl⟩ := ntV_get hx
    have hi := (List.getElem?_eq_some_iff.mp hc).1
    have ec : c = ds.getD i 0 := by have := getD_at hi; rw [hc] at this; exact Option.some.inj this
    obtain ⟨xs, row, b, q1, q2, q3, q4⟩ := tb_at (hp.ext e) g (hd c (List.mem_of_getElem? hc))
    rw [← ec]
    exact ⟨xs, row, b, rfl, hi, q1, q2, q3, q4 a ha⟩
  walk_at "st"
  refine r_li (sqL hcp) ?_
  intro D hD
  refine lcW_list (LcP H D fun j => .int (stp st (cs.getD j 0) a : Nat)) (.start hD) (fun i H' _ q => q.e.l (sqL hcp)) ?_ ?_
  · intro i x H2 hx q
    obtain ⟨xs, row, b, rfl, hi, q1, q2, q3, q4⟩ := step H2 x i cs q.e (fun d hd => ((C.mem d).mp hd).lt g) hx
    walk_at "st"
    refine r_lcW rfl ?_
    walk_at "st"
    refine r_atL q1 (atI_nat q2) ?_
    walk_at "st"
    refine r_atA q3 (atI_nat q4) ?_
    exact q.push hD (by omega) .rfl rfl
  intro H2 q2
  rw [ntV_len] at q2
  have h2 := lc_nt (f := fun s => stp st s a) q2
  walk_at "st"
  refine whileW (fun μ σ' H' => ∃ (t : Nat) (nw : Addr), μ = st.length + 1 - t ∧ σ' = [some (.ref p), some (.int a), some (.ref cp), some (.ref nw), some (.int (t : Nat)), none] ∧ Ext H H' ∧ H' nw = some (.lst (ntV (cs.map (itF (stF st a) t)))) ∧ 1 ≤ t ∧ ∀ j, 1 ≤ j → j < t → itF (stF st a) j 0 ≠ 0) (st.length + 1 - 1) ⟨1, D, rfl, rfl, q2.e, h2, Nat.le_refl _, fun j h1 h2 => by omega⟩ ?_
  rintro μ σ' H3 ⟨t, nw, rfl, rfl, e3, h3, ht, hn⟩
  have c0 : 0 ∈ cs := (C.mem 0).mpr .z
  walk_at "st"
  refine r_otherI (sqL h3) (sqL (e3 _ _ hcp)) ?_
  walk_at "st"
  refine ite_n (fun c => r_N ?_) (fun c => ?_)
  · have t0 : itF (stF st a) t 0 ≠ 0 := fun e => c (map_eq.mpr fun d hd => ord_all S ha e ((C.mem d).mp hd))
    have hlt := it_small g ha (S a ha) (t := t) (fun j h1 h2 => by
      by_cases cj : j = t
      · rw [cj]; exact t0
      · exact hn j h1 (by omega))
    walk_at "st"
    refine r_li (sqL h3) ?_
    intro D4 hD4
    refine lcW_list (LcP H3 D4 fun j => .int (stp st ((cs.map (itF (stF st a) t)).getD j 0) a : Nat)) (.start hD4) (fun i H' _ q => q.e.l (sqL h3)) ?_ ?_
    · intro i x H5 hx q
      obtain ⟨xs, row, b, rfl, hi, q1, q2, q3, q4⟩ := step H5 x i _ (e3.trans q.e) (fun d hd => by
        obtain ⟨y, hy, rfl⟩ := List.mem_map.mp hd
        exact (reach_it ha ((C.mem y).mp hy) t).lt g) hx
      rw [List.length_map] at hi
      walk_at "st"
      refine r_lcW rfl ?_
      walk_at "st"
      refine r_atL q1 (atI_nat q2) ?_
      walk_at "st"
      refine r_atA q3 (atI_nat q4) ?_
      exact q.push hD4 (by omega) .rfl rfl
    intro H5 q5
    rw [ntV_len] at q5
    have h5 := lc_nt (f := fun s => stp st s a) q5
    rw [List.map_map] at h5
    walk_at "st"
    refine ⟨st.length + 1 - (t + 1), by omega, t + 1, D4, rfl, rfl, e3.trans q5.e, h5, by omega, fun j h1 h2 => ?_⟩
    by_cases cj : j = t
    · rw [cj]; exact t0
    · exact hn j h1 (by omega)
  · walk_at "st"
    exact k t H3 e3 ⟨ht, (map_eq.mp c) 0 c0, hn⟩
/-! ### the group -/
structure GrP (K : PySem.W.Frag) (H : Hp) (E : XK) (st : List (List Int)) (m : Int) : Prop where
  b1 : 8 < m → Bad K E H "TooMany" "letters"
  b2 : m ≤ 8 → 12 < st.length → Bad K E H "TooMany" "states"
  b3 : m ≤ 8 → st.length ≤ 12 → ∀ what, BadSt st m what → Bad K E H "BadCheck" what
structure SumT (st : List (List Int)) (m : Int) (H H' : Hp) (q : Addr) : Prop where
  ex : ∃ cq oq cs os, H' q = some (.tup [.str "sum", .ref cq, .ref oq]) ∧ H cq = none ∧ H oq = none ∧ H' cq = some (.lst (ntV cs)) ∧ H' oq = some (.lst (ntV os)) ∧ ComeS st m cs ∧ Ords st m os
def spGroup (K : PySem.W.Frag) : Sp := fun vs H Q E => ∃ (p : Addr) (st : List (List Int)) (m : Int), vs = [.ref p, .int m] ∧ Tb K H p st ∧ GrP K H E st m ∧ (m ≤ 8 → st.length ≤ 12 → GoodSt st m →
  (IsSum st m → ∀ q H', Ext H H' → SumT st m H H' q → Q (.ref q) H') ∧ (∀ q H' kind first i second j letter, Ext H H' → Shown st m kind first i second j letter → Parts kind first i second j letter H H' q → Q (.ref q) H'))
theorem sc_check_group : FnScope ["states", "letters", "words", "told", "come", "letter"] ["states", "letters"] (defScope s_check_group) := ⟨rfl, rfl, rfl, by decide +kernel, rfl, by decide +kernel, by decide +kernel⟩
theorem ok_check_group (T : Txt w K mg) : CalG P w K mg base 7 "check_group" ["states", "letters"] (spGroup K) := by
  have c_check_table := ok_check_table (P := P) (base := base) T
  have c_words_to := ok_words_to (P := P) (base := base) T
  have c_parted_by_put := ok_parted_by_put (P := P) (base := base) T
  have c_parted_by_take := ok_parted_by_take (P := P) (base := base) T
  have c_order_of := ok_order_of (P := P) (base := base) T
  refine calG_of T.g_check_group T.d_check_group sc_check_group (fun _ _ _ _ _ _ _ us hl => match us, hl with | [_, _], _ => rfl) (fun vs H Q E h => by obtain ⟨_, _, _, rfl, _⟩ := h; rfl) (fun cdv A outer s H vs Q E hr h => ?_)
  have nd := sc_check_group.nd
  have hu := hu64 hr
  obtain ⟨p, st, m, rfl, hp, b, k⟩ := h
  refine ⟨_, (pss_cons (ps_expr (pe_cal c_check_table hr (by omega) (fun σ => L2N.passAt (L2N.takes_of rfl rfl rfl rfl) σ) (pa_cons (pv 0) (pa_cons (pv 1) pa_nil))))
        (pss_cons (ps_set (i := 2) nd rfl (Or.inl rfl) (pe_cal c_words_to hr (by omega) (fun σ => L2N.passAt (L2N.takes_of rfl rfl rfl rfl) σ) (pa_cons (pv 0) (pa_cons (pv 1) pa_nil))))
        (pss_cons (ps_set (i := 3) nd rfl (Or.inl rfl) (pe_cal c_parted_by_put hr (by omega) (fun σ => L2N.passAt (L2N.takes_of rfl rfl rfl rfl) σ) (pa_cons (pv 0) (pa_cons (pv 1) (pa_cons (pv 2) pa_nil)))))
        (pss_cons (ps_if (pt_cmpR op_isN1 (pv 3) pe_non (nomark _)) (pss_one (ps_set (i := 3) nd rfl (Or.inl rfl) (pe_cal c_parted_by_take hr (by omega) (fun σ => L2N.passAt (L2N.takes_of rfl rfl rfl rfl) σ) (pa_cons (pv 0) (pa_cons (pv 1) (pa_cons (pv 2) pa_nil)))))) pss_nil)
        (pss_cons (ps_if (pt_cmpR op_notN1 (pv 3) pe_non (nomark _)) (pss_one (ps_ret (pv 3))) pss_nil)
        (pss_cons (ps_set (i := 4) nd rfl (Or.inr rfl) (pe_callB (sortedD rfl) (by rfl) T.f_sorted (by decide +kernel) (pa_cons (pv 2) pa_nil)))
        (pss_one (ps_ret (pe_tup (pa_cons pe_str (pa_cons (pv 4) (pa_cons (pe_lc (own := [("letter", 5)]) rfl nd (pi_range1 (by rfl) T.f_range (pa_cons (pv 1) pa_nil)) (blkOk_by (N := ["states", "letters", "words", "told", "come", "letter"]) (sc := defScope s_check_group) (by decide +kernel)) (fun _ _ _ _ _ => (pg_name (i := 5) nd rfl (Or.inl rfl))) (fun _ _ _ _ _ => pts_nil) (fun _ _ _ _ _ => (pe_cal c_order_of hr (by omega) passN (pa_cons (pv 0) (pa_cons (pv 5) (pa_cons (pv 4) pa_nil)))))) pa_nil)))))))))))), ?_⟩
  walk_at "st"
  refine ⟨p, st, m, rfl, hp, b.b1, b.b2, b.b3, fun m8 l12 g => ?_⟩
  obtain ⟨ks, kp⟩ := k m8 l12 g
  walk_at "st"
  refine ⟨p, st, m, rfl, hp, g, by omega, by omega, fun wq H1 fs hwq e1 W1 fnd fre => ?_⟩
  have shift : ∀ {kind first i second j letter H2 H3 q}, Ext H H2 → Parts kind first i second j letter H2 H3 q → Parts kind first i second j letter H H3 q := fun e ⟨r1, r2, a1, a2, a3⟩ => ⟨r1, r2, e.none a1, e.none a2, a3⟩
  walk_at "st"
  refine ⟨p, wq, st, m, _, fs, rfl, hp.ext e1, g, by omega, by omega, W1, fnd, fre, fun cm H2 e2 => ?_, fun q H2 first i second j letter e2 S2 P2 => ?_⟩
  · walk_at "st"
    refine ite_d (fun _ => ?_) (fun c => absurd rfl c)
    have e12 := e1.trans e2
    walk_at "st"
    refine ⟨p, wq, st, m, _, fs, rfl, hp.ext e12, g, by omega, by omega, W1.ext e2, fnd, fre, cm, fun inj H3 e3 => ?_, fun q H3 first i second j letter e3 S3 P3 => ?_⟩
    · walk_at "st"
      refine ite_n (fun c => absurd rfl c) (fun _ => ?_)
      have S : IsSum st m := sum_iff.mpr ⟨cm, inj⟩
      have m0 := g.1.1
      have e13 := e12.trans e3
      obtain ⟨kvs, k1, k2, k3, k4⟩ := (W1.ext (e2.trans e3)).ex
      have fle := come_len g fnd fun c hc => (fre c).mp hc
      walk_at "st"
      refine r_srtD k1 k2 (by rw [List.length_map]; omega) (fun ns l H4 pe so hl e4 h4 => ?_)
      obtain ⟨cs, rfl, C, cl⟩ := perm_come fnd fre pe so
      have e14 := e13.trans e4
      walk_at "st"
      intro D hD
      refine lcW_range (fun i H' => Ext H4 H' ∧ ∃ os, H' D = some (.lst (ntV os)) ∧ os.length = i ∧ ∀ a : Nat, a < i → IsOrd (stF st a) (os.getD a 0)) ⟨.new hD, [], upd_same, rfl, fun a ha => absurd ha (Nat.not_lt_zero _)⟩ (fun i H5 hi ⟨e5, os, h5, lo, ho⟩ => ?_) (fun H5 ⟨e5, os, h5, lo, ho⟩ => ?_)
      · have hi' : (i : Int) < m := by omega
        walk_at "st"
        refine r_lcW rfl ?_
        walk_at "st"
        rw [Int.zero_add]
        refine ⟨p, l, st, m, i, cs, rfl, hp.ext (e14.trans e5), g, S, hi', by omega, e5 _ _ h4, C, fun o H6 e6 O => ⟨_, e6 _ _ h5, by rw [ntV_len, sizeLine_eq]; omega, (e5.trans e6).mut hD, os ++ [o], ?_, by rw [List.length_append, lo]; rfl, fun a ha => ?_⟩⟩
        · rw [upd_same]; unfold ntV; rw [List.map_append, List.map_append]; rfl
        · by_cases ca : a < os.length
          · rw [List.getD_eq_getElem?_getD, List.getElem?_append_left ca, ← List.getD_eq_getElem?_getD]
            exact ho a (by omega)
          · have : a = os.length := by omega
            rw [this, List.getD_eq_getElem?_getD, List.getElem?_append_right (Nat.le_refl _), Nat.sub_self, lo]
            exact O
      walk_at "st"
      intro t6 H6 ht6 e6 h6
      have m0 := g.1.1
      exact ks S t6 H6 ((e14.trans e5).trans e6) ⟨l, D, cs, os, h6, e13.none hl, e14.none hD, (e5.trans e6) _ _ h4, e6 _ _ h5, C, ⟨by omega, fun a ha => ho a (by omega)⟩⟩
    · walk_at "st"
      refine ite_n (fun _ => ?_) (fun c => nomatch c)
      walk_at "st"
      exact kp q H3 _ _ _ _ _ _ (e12.trans e3) S3 (shift e12 P3)
  · walk_at "st"
    refine ite_d (fun c => nomatch c) (fun _ => ?_)
    walk_at "st"
    refine ite_n (fun _ => ?_) (fun c => nomatch c)
    walk_at "st"
    exact kp q H2 _ _ _ _ _ _ (e1.trans e2) S2 (shift e1 P2)

end
end K29
set_option maxRecDepth 100000
set_option maxHeartbeats 4000000
namespace K29
open PySem PySem.Spec PyProof.Rows L2 L3
local macro_rules | `(tactic| walk_at "s1") => `(tactic| first
  | with_reducible refine r_seq ?_
  | with_reducible refine r_asgN ?_
  | with_reducible refine r_ret ?_
  | with_reducible refine r_next ?_
  | ((with_reducible refine' r_var ?hv ?_); (case hv => exact rfl))
  | with_reducible refine r_c ?_
  | with_reducible refine r_op ?_
  | with_reducible refine r_cons ?_
  | with_reducible refine r_nil ?_
  | with_reducible refine r_plusI ?_
  | with_reducible refine r_I0 ?_
  | with_reducible refine r_test ?_
  | with_reducible refine r_bl ?_
  | with_reducible refine r_ifS ?_
  | with_reducible refine r_cb ?_
  | with_reducible refine r_callS ?_
  | with_reducible refine r_and ?_
  | with_reducible refine r_or ?_
  | with_reducible refine r_not ?_
  | with_reducible refine r_B ?_
  | ((with_reducible refine' r_aug ?hv ?_); (case hv => exact rfl))
  | with_reducible refine r_augS ?_
  | with_reducible refine r_ipI ?_
  | with_reducible refine r_asg ?_
  | with_reducible refine r_sub ?_
  | with_reducible refine r_brk ?_
  | with_reducible refine r_isN1 ?_
  | with_reducible refine r_notN1 ?_
  | with_reducible refine r_intI ?_
  | with_reducible refine r_abs ?_
  | with_reducible refine r_min ?_
  | with_reducible refine r_max ?_
  | ((with_reducible refine' r_mod ?hz ?_); (case hz => omega))
  | ((with_reducible refine' r_pow ?hz ?_); (case hz => exact ⟨by decide, by decide, by decide⟩))
  | ((with_reducible refine' r_rg1 ?hz ?_); (case hz => omega))
  | ((with_reducible refine' r_rg2 ?hz ?_); (case hz => omega))
  | ((with_reducible refine' r_newL ?hz ?_); (case hz => exact Nat.le_of_ble_eq_true rfl))
  | ((with_reducible refine' r_newT ?hz ?_); (case hz => exact Nat.le_of_ble_eq_true rfl))
  | with_reducible refine r_for ?_
  | with_reducible refine r_lc ?_
  | with_reducible refine r_iR1 ?_
  | with_reducible refine r_iR2 ?_
  | with_reducible refine r_iL ?_
  | with_reducible refine r_iT ?_
  | with_reducible refine r_gname ?_
  | with_reducible refine r_gcons ?_
  | with_reducible refine r_gnil ?_
  | with_reducible refine r_yes ?_
  | with_reducible refine r_mkO ?_
  | with_reducible refine r_cont ?_
  | with_reducible refine r_drop ?_
  | with_reducible refine r_retN ?_
  | with_reducible refine r_ifC ?_
  | with_reducible refine r_ifI ?_
  | with_reducible refine r_if ?_
  | with_reducible refine r_un ?_
  | with_reducible refine r_neg ?_
  | with_reducible refine r_andV ?_
  | with_reducible refine r_orV ?_
  | with_reducible refine r_notV ?_
  | with_reducible refine r_tup ?_
  | with_reducible refine r_lst ?_
  | with_reducible refine r_bm ?_
  | with_reducible refine r_bm0 ?_
  | with_reducible refine r_sl ?_
  | with_reducible refine r_chain ?_
  | with_reducible refine r_listDn ?_
  | with_reducible refine r_listRg2 ?_
  | with_reducible refine r_revL ?_
  | with_reducible refine r_noPart ?_
  | with_reducible refine r_dgt ?_
  | with_reducible refine r_din ?_
  | with_reducible refine r_dnin ?_
  | with_reducible refine r_dput ?_
  | with_reducible refine r_dnew ?_
  | with_reducible refine r_disp1 ?_
  | with_reducible refine r_lenSet ?_
  | with_reducible refine r_part ?_
  | with_reducible refine r_int ?_
  | ((with_reducible refine' r_sameS ?hs ?_); (case hs => exact rfl))
  | ((with_reducible refine' r_otherS ?hs ?_); (case hs => exact rfl))
  | with_reducible refine ite_t ?_
  | with_reducible refine ite_f ?_
  | with_reducible refine ite_nt ?_
  | with_reducible refine ite_nf ?_)
local macro_rules | `(tactic| walk_at "st") => `(tactic| repeat (walk_at "s1"))

section
variable {P : Program} {w : World} {K : PySem.W.Frag} {mg : Str → Option Value} {base : Heap}
/-! ### draws -/
theorem sc__law_source : FnScope ["script", "at", "cell", "size", "small", "one"] ["script", "at"] (defScope s__law_source) := ⟨rfl, rfl, rfl, by decide +kernel, rfl, by decide +kernel, by decide +kernel⟩
theorem ok_law_source (T : Txt w K mg) : CalG P w K mg base 2 "_law_source" ["script", "at"] (spSource K) := by
  refine calG_of T.g__law_source T.d__law_source sc__law_source (fun _ _ _ _ _ _ _ us hl => match us, hl with | [_, _], _ => rfl) (fun vs H Q E h => by obtain ⟨c, k, n, rfl, _⟩ := h; rfl) (fun cdv A outer s H vs Q E hr h => ?_)
  have nd := sc__law_source.nd
  have hu := hu64 hr
  obtain ⟨a, ns, t, rfl, ha, hn, ht, k⟩ := h
  refine ⟨_, (C8.pss_cut (ps_set (i := 2) nd rfl (Or.inl rfl) (pe_ifExp (pt_cmpR op_lt (pv 1) (pe_callB (lenK (K := K)) (by rfl) T.f_len boot_len (pa_cons (pv 0) pa_nil)) (nomark _)) (pe_callTy cr_int (by rfl) T.f_int (by decide +kernel) (pa_cons (pe_ix (ixK (K := K)) (pv 0) (pv 1) (fun _ _ => rfl)) pa_nil)) (pe_op (plusK (K := K)) (pe_op op_timesB pe_int (pe_callB (sumK (K := K) rfl) (by rfl) T.f_sum (by decide +kernel) (pa_cons (pe_lc (own := [("one", 5)]) rfl nd (piL (K := K) (pe_slice (slK (K := K)) (pv 0) po_none (po_some pe_int))) (blkOk_by (N := ["script", "at", "cell", "size", "small", "one"]) (sc := defScope s__law_source) (by decide +kernel)) (fun _ _ _ _ _ => (pg_name (i := 5) nd rfl (Or.inl rfl))) (fun _ _ _ _ _ => pts_nil) (fun _ _ _ _ _ => (pe_op op_mod (pe_callTy cr_int (by rfl) T.f_int (by decide +kernel) (pa_cons (pv 5) pa_nil)) pe_int))) pa_nil))) pe_int)))
        (C8.pss_cut (ps_set (i := 3) nd rfl (Or.inl rfl) (pe_op op_mod (pe_callB cr_abs (by rfl) T.f_abs (by decide +kernel) (pa_cons (pv 2) pa_nil)) (pe_op op_timesB (pe_op op_pow pe_int pe_int) (pe_op op_pow pe_int pe_int))))
        (C8.pss_cut (ps_set (i := 4) nd rfl (Or.inl rfl) (pe_op op_mod (pe_callTy cr_int (by rfl) T.f_int (by decide +kernel) (pa_cons (pe_op (plusK (K := K)) (pe_op (plusK (K := K)) (pe_op (plusK (K := K)) (pe_op op_timesB pe_int (pv 3)) (pe_ifExp (pt_cmpR op_lt (pv 2) pe_int (nomark _)) pe_int pe_int)) (pe_op op_timesB (pv 1) pe_int)) pe_int) pa_nil)) pe_int))
        (pss_one (ps_ret (pe_lst (pa_cons (pe_ifExp (pt_cmpR op_ge (pv 3) (pe_op op_pow pe_int pe_int) (nomark _)) (pv 3) pe_int) (pa_cons (pe_op op_mod (pe_callTy cr_int (by rfl) T.f_int (by decide +kernel) (pa_cons (pe_op op_timesB (pe_op (plusK (K := K)) (pv 4) pe_int) (pe_op (plusK (K := K)) (pv 4) pe_int)) pa_nil)) pe_int) (pa_cons (pv 1) pa_nil))))))))), ?_⟩
  refine r_cut (fun σ' H' => ∃ cell : Int, σ' = [some (.ref a), some (.int t), some (.int cell), none, none, none] ∧ Ext H H') ?_ ?_
  · walk_at "st"
    refine r_lenL ha (by rw [List.length_map]) ?_
    walk_at "st"
    refine ite_d (fun c => ?_) (fun c => ?_)
    · obtain ⟨z, hz⟩ : ∃ z, ns[t]? = some z := ⟨ns[t]'(by omega), by simp⟩
      walk_at "st"
      refine r_atL ha (atI_nat (j := t) (v := .int z) (by rw [List.getElem?_map, hz]; rfl)) ?_
      walk_at "st"
      exact ⟨z, rfl, Ext.rfl⟩
    · walk_at "st"
      refine r_slL ha (fun l H1 hl e1 h1 => ?_)
      have hc : cutV (ns.map V.int) none (some 6) = (ns.take 6).map V.int := by rw [List.map_take]; exact cut_to _ 6
      rw [hc] at h1
      refine r_li (sqL h1) ?_
      intro Dl hD
      refine lcW_list (xs := (ns.take 6).map V.int) (LcP H1 Dl fun i => .int ((ns.take 6).getD i 0 % 999979)) (.start hD) (fun i H' _ p => p.e.l (sqL h1)) ?_ ?_
      · intro i x H' hx p
        obtain ⟨hi, rfl⟩ := ints_get hx
        have hl : (ns.take 6).length ≤ 63 := by rw [List.length_take]; omega
        walk_at "st"
        refine r_lcW rfl ?_
        walk_at "st"
        exact p.push hD (by omega) Ext.rfl rfl
      · intro H' p
        have hd := p.d
        rw [List.length_map, range_ints (ns.take 6) (fun z => z % 999979)] at hd
        walk_at "st"
        refine r_sum (sqL hd) ?_
        refine r_timesB (cmL (by decide) (by decide)) ?_
        walk_at "st"
        exact ⟨_, rfl, e1.trans p.e⟩
  rintro σ' H1 ⟨cell, rfl, e1⟩
  refine r_cut (fun σ' H' => ∃ size : Int, σ' = [some (.ref a), some (.int t), some (.int cell), some (.int size), none, none] ∧ Ext H H') ?_ ?_
  · walk_at "st"
    refine r_timesB (.inl (wide_mul (a := 250) (b := 250) bd128 bd128 (by decide) (by decide) (by decide))) ?_
    refine r_mod pos128 ?_
    exact ⟨_, rfl, e1⟩
  rintro σ' H2 ⟨size, rfl, e2⟩
  refine r_cut (fun σ' H' => ∃ small : Int, σ' = [some (.ref a), some (.int t), some (.int cell), some (.int size), some (.int small), none] ∧ Ext H H' ∧ 0 ≤ small ∧ small < 2147483629) ?_ ?_
  · walk_at "st"
    refine r_timesB (cmL (by decide) (by decide)) ?_
    walk_at "st"
    refine r_timesB (cmR (by decide) (by decide)) ?_
    walk_at "st"
    exact ⟨_, rfl, e2, bd31 _⟩
  rintro σ' H3 ⟨small, rfl, e3, s0, s1⟩
  walk_at "st"
  refine ite_d (fun c => ?_) (fun c => ?_)
  all_goals
    walk_at "st"
    refine r_timesB (cmR (by omega) (by omega)) ?_
    walk_at "st"
    intro p H4 hp e4 h4
    exact k p H4 (e3.none hp) (e3.trans e4) ⟨_, _, _, h4⟩

theorem sc__law_pick : FnScope ["source", "many", "found"] ["source", "many"] (defScope s__law_pick) := ⟨rfl, rfl, rfl, by decide +kernel, rfl, by decide +kernel, by decide +kernel⟩
theorem ok_law_pick (T : Txt w K mg) : CalG P w K mg base 2 "_law_pick" ["source", "many"] spPick := by
  refine calG_of T.g__law_pick T.d__law_pick sc__law_pick (fun _ _ _ _ _ _ _ us hl => match us, hl with | [_, _], _ => rfl) (fun vs H Q E h => by obtain ⟨c, k, rfl, _⟩ := h; rfl) (fun cdv A outer s H vs Q E hr h => ?_)
  have nd := sc__law_pick.nd
  have hu := hu64 hr
  obtain ⟨p, m, rfl, ⟨a, b, c, hp⟩, m0, m1, k⟩ := h
  refine ⟨_, (pss_cons (ps_if (pt_cmpR op_gt (pe_ix (ixK (K := K)) (pv 0) pe_int (fun _ _ => rfl)) pe_int (nomark _)) (pss_cons (ps_set (i := 2) nd rfl (Or.inl rfl) (pe_op op_mod (pe_callTy cr_int (by rfl) T.f_int (by decide +kernel) (pa_cons (pe_ix (ixK (K := K)) (pv 0) pe_int (fun _ _ => rfl)) pa_nil)) (pv 1)))
        (pss_cons (ps_asg (pe_op op_fdivW (pe_ix (ixK (K := K)) (pv 0) pe_int (fun _ _ => rfl)) (pv 1)) (pg_sub (pv 0) pe_int set_list))
        (pss_one (ps_ret (pv 2))))) pss_nil)
        (pss_cons (ps_augS (pv 0) pe_int (getLK (K := K)) pe_int ip_add set_list)
        (pss_cons (ps_asg (pe_op op_mod (pe_callTy cr_int (by rfl) T.f_int (by decide +kernel) (pa_cons (pe_op (plusK (K := K)) (pe_op op_timesB (pe_ix (ixK (K := K)) (pv 0) pe_int (fun _ _ => rfl)) pe_int) (pe_op op_timesB (pe_ix (ixK (K := K)) (pv 0) pe_int (fun _ _ => rfl)) pe_int)) pa_nil)) pe_int) (pg_sub (pv 0) pe_int set_list))
        (pss_one (ps_ret (pe_op op_mod (pe_op op_fdivW (pe_op op_mod (pe_callTy cr_int (by rfl) T.f_int (by decide +kernel) (pa_cons (pe_op (plusK (K := K)) (pe_op op_timesB (pe_ix (ixK (K := K)) (pv 0) pe_int (fun _ _ => rfl)) pe_int) (pe_op op_timesB (pe_ix (ixK (K := K)) (pv 0) pe_int (fun _ _ => rfl)) pe_int)) pa_nil)) pe_int) pe_int) (pv 1))))))), ?_⟩
  walk_at "st"
  refine r_atL (sqL hp) (atI_nat (j := 0) rfl) ?_
  walk_at "st"
  refine ite_d (fun c0 => ?_) (fun c0 => ?_)
  · walk_at "st"
    refine r_atL (sqL hp) (atI_nat (j := 0) rfl) ?_
    walk_at "st"
    refine r_atL (sqL hp) (atI_nat (j := 0) rfl) ?_
    walk_at "st"
    refine r_div (cdW m0 m1) ?_
    walk_at "st"
    refine r_setL (j := 0) hp rfl (by simp) (fun H1 h1 m1 => ?_)
    walk_at "st"
    exact k _ H1 (Int.emod_nonneg _ (by omega)) (Int.emod_lt_of_pos _ m0) ⟨_, _, _, h1⟩ m1
  · walk_at "st"
    refine r_getL (sqL hp) (by decide) rfl ?_
    walk_at "st"
    refine r_setL (j := 2) hp rfl (by simp) (fun H1 h1 n1 => ?_)
    walk_at "st"
    refine r_atL (sqL h1) (atI_nat (j := 1) rfl) ?_
    walk_at "st"
    refine r_timesB (cmR (by decide) (by decide)) ?_
    walk_at "st"
    refine r_atL (sqL h1) (atI_nat (j := 2) rfl) ?_
    walk_at "st"
    refine r_timesB (cmR (by decide) (by decide)) ?_
    walk_at "st"
    refine r_setL (j := 1) h1 rfl (by simp) (fun H2 h2 n2 => ?_)
    walk_at "st"
    refine r_atL (sqL h2) (atI_nat (j := 1) rfl) ?_
    walk_at "st"
    refine r_timesB (cmR (by decide) (by decide)) ?_
    walk_at "st"
    refine r_atL (sqL h2) (atI_nat (j := 2) rfl) ?_
    walk_at "st"
    refine r_timesB (cmR (by decide) (by decide)) ?_
    walk_at "st"
    refine r_div (cdW (by decide) (by decide)) ?_
    walk_at "st"
    exact k _ H2 (Int.emod_nonneg _ (by omega)) (Int.emod_lt_of_pos _ m0) ⟨_, _, _, h2⟩ fun b hb => (n2 b hb).trans (n1 b hb)

theorem sc__law_shuffled : FnScope ["source", "things", "left", "found"] ["source", "things"] (defScope s__law_shuffled) := ⟨rfl, rfl, rfl, by decide +kernel, rfl, by decide +kernel, by decide +kernel⟩
theorem ok_law_shuffled (T : Txt w K mg) : CalG P w K mg base 3 "_law_shuffled" ["source", "things"] (spShuf K) := by
  have c__law_pick := ok_law_pick (P := P) (base := base) T
  refine calG_of T.g__law_shuffled T.d__law_shuffled sc__law_shuffled (fun _ _ _ _ _ _ _ us hl => match us, hl with | [_, _], _ => rfl) (fun vs H Q E h => by obtain ⟨c, k, xs, rfl, _⟩ := h; rfl) (fun cdv A outer s H vs Q E hr h => ?_)
  have nd := sc__law_shuffled.nd
  have hu := hu64 hr
  obtain ⟨p, t, xs, rfl, hs, ht, hl, k⟩ := h
  refine ⟨_, (pss_cons (ps_set (i := 2) nd rfl (Or.inl rfl) (pe_callTy (listK (K := K)) (by rfl) T.f_list (by decide +kernel) (pa_cons (pv 1) pa_nil)))
        (pss_cons (ps_set (i := 3) nd rfl (Or.inl rfl) (pe_lst pa_nil))
        (pss_cons (ps_while (passes_of rfl) (pt_cmpR op_gt (pe_callB (lenK (K := K)) (by rfl) T.f_len boot_len (pa_cons (pv 2) pa_nil)) pe_int (nomark _)) (pss_one (ps_expr (peBM (K := K) (pe_bm PySem.F.plainAttrs_list PySem.F.slot_list_append PySem.F.type_list_append mt_append (pv 3) (pa_cons (peBM (K := K) (pe_bm PySem.F.plainAttrs_list PySem.F.slot_list_pop PySem.F.type_list_pop mt_popAt (pv 2) (pa_cons (pe_cal c__law_pick hr (by omega) (fun σ => L2N.passAt (L2N.takes_of rfl rfl rfl rfl) σ) (pa_cons (pv 0) (pa_cons (pe_callB (lenK (K := K)) (by rfl) T.f_len boot_len (pa_cons (pv 2) pa_nil)) pa_nil))) pa_nil))) pa_nil))))))
        (pss_one (ps_ret (pv 3)))))), ?_⟩
  walk_at "st"
  refine r_listL ht (fun l H1 hl1 e1 h1 => ?_)
  walk_at "st"
  intro f H2 hf e2 h2
  walk_at "st"
  have hf0 := e1.none hf
  refine whileW (fun μ σ' H' => ∃ (left done : List V), σ' = [some (.ref p), some (.ref t), some (.ref l), some (.ref f)] ∧ But p H H' ∧ Src H' p ∧ H' l = some (.lst left) ∧ H' f = some (.lst done) ∧ (done ++ left).Perm xs ∧ μ = left.length) xs.length
    ⟨xs, [], rfl, ext_but (e1.trans e2), (hs.ext e1).ext e2, e2 _ _ h1, h2, .refl _, rfl⟩ ?_
  rintro μ σ' H' ⟨left, done, rfl, b, s', hl', hf', pm, rfl⟩
  have hlen : done.length + left.length = xs.length := by rw [← pm.length_eq, List.length_append]
  have npl : p ≠ l := src_ne hs hl1
  have npf : p ≠ f := src_ne hs hf0
  have nlf : l ≠ f := ne_of_none h1 hf
  walk_at "st"
  refine r_lenL (sqL hl') rfl ?_
  walk_at "st"
  refine ite_d (fun c => r_N ?_) (fun c => ?_)
  · walk_at "st"
    refine ⟨.inl ⟨rfl, _, sqL hf'⟩, ?_⟩
    walk_at "st"
    refine ⟨.inl ⟨rfl, _, sqL hl'⟩, ?_⟩
    walk_at "st"
    refine r_lenL (sqL hl') rfl ?_
    walk_at "st"
    refine ⟨p, _, rfl, s', c, by omega, fun r H3 r0 r1 s3 n3 => ?_⟩
    walk_at "st"
    have hr : r.toNat < left.length := by omega
    have el : left[r.toNat]? = some left[r.toNat] := by simp [hr]
    refine r_popAt (j := r.toNat) (stay n3 npl.symm hl') (by omega) (by omega) el (fun H4 h4 n4 => ?_)
    walk_at "st"
    refine r_app (stay n4 nlf.symm (stay n3 npf.symm hf')) (by omega) (fun H5 h5 n5 => ?_)
    have s5 : Src H5 p := by
      obtain ⟨x, y, z, e⟩ := s3
      exact ⟨x, y, z, stay n5 npf (stay n4 npl e)⟩
    refine ⟨_, ?_, left.eraseIdx r.toNat, done ++ [left[r.toNat]], rfl, ((b.trans (.of n3)).mut hl1 n4).mut hf0 n5, s5, stay n5 nlf h4, h5, ?_, rfl⟩
    · rw [List.length_eraseIdx, if_pos hr]
      omega
    · rw [List.append_assoc]
      exact ((eraseIdx_perm el).append_left done).trans pm
  · walk_at "st"
    have e0 : left = [] := List.eq_nil_of_length_eq_zero (by omega)
    subst e0
    rw [List.append_nil] at pm
    exact k f H' done hf0 pm s' hf' b

theorem sc__law_same : FnScope ["answer", "due", "at", "key"] ["answer", "due"] (defScope s__law_same) := ⟨rfl, rfl, rfl, by decide +kernel, rfl, by decide +kernel, by decide +kernel⟩
theorem ok_law_same (T : Txt w K mg) : ∀ n, CalG P w K mg base (n + 2) "_law_same" ["answer", "due"] (spSame K n)
  | 0 => (calG_false T.g__law_same T.d__law_same (fun _ _ _ _ _ _ _ us hl => match us, hl with | [_, _], _ => rfl)).imp fun vs H Q E ⟨_, _, _, _, _, _, z, _⟩ => z.elim
  | n + 1 => by
    have c__law_same := ok_law_same T n
    refine calG_of T.g__law_same T.d__law_same sc__law_same (fun _ _ _ _ _ _ _ us hl => match us, hl with | [_, _], _ => rfl) (fun vs H Q E h => by obtain ⟨c, k, d, rfl, _⟩ := h; rfl) (fun cdv A outer s H vs Q E hr h => ?_)
    have nd := sc__law_same.nd
    have hu := hu64 hr
    obtain ⟨x, y, d, rfl, hx, hy, hd, k⟩ := h
    refine ⟨_, (pss_cons (ps_if (pt_val (pe_callB (isiTK (K := K)) (by rfl) T.f_isinstance (by decide +kernel) (pa_cons (pv 1) (pa_cons (pe_tup (pa_cons (pe_ty T.f_list) (pa_cons (pe_ty T.f_tuple) pa_nil))) pa_nil)))) (pss_cons (ps_if (PW.pt (pw_or (pt_not (pt_val (pe_callB (isiTK (K := K)) (by rfl) T.f_isinstance (by decide +kernel) (pa_cons (pv 0) (pa_cons (pe_tup (pa_cons (pe_ty T.f_list) (pa_cons (pe_ty T.f_tuple) pa_nil))) pa_nil))))) (pw_or (pt_cmpR (otherK (K := K) hu) (pe_callB (isiK (K := K)) (by rfl) T.f_isinstance (by decide +kernel) (pa_cons (pv 0) (pa_cons (pe_ty T.f_list) pa_nil))) (pe_callB (isiK (K := K)) (by rfl) T.f_isinstance (by decide +kernel) (pa_cons (pv 1) (pa_cons (pe_ty T.f_list) pa_nil))) (nomark _)) (pw_or1 (pt_cmpR (otherK (K := K) hu) (pe_callB (lenK (K := K)) (by rfl) T.f_len boot_len (pa_cons (pv 0) pa_nil)) (pe_callB (lenK (K := K)) (by rfl) T.f_len boot_len (pa_cons (pv 1) pa_nil)) (nomark _)))))) (pss_one (ps_ret pe_bl)) pss_nil)
        (pss_one (ps_ret (pe_callB (allK (K := K) rfl) (by rfl) T.f_all (by decide +kernel) (pa_cons (pe_lc (own := [("at", 2)]) rfl nd (pi_range1 (by rfl) T.f_range (pa_cons (pe_callB (lenK (K := K)) (by rfl) T.f_len boot_len (pa_cons (pv 1) pa_nil)) pa_nil)) (blkOk_by (N := ["answer", "due", "at", "key"]) (sc := defScope s__law_same) (by decide +kernel)) (fun _ _ _ _ _ => (pg_name (i := 2) nd rfl (Or.inl rfl))) (fun _ _ _ _ _ => pts_nil) (fun _ _ _ _ _ => (pe_cal c__law_same hr (by omega) passN (pa_cons (pe_ix (ixK (K := K)) (pv 0) (pv 2) (fun _ _ => rfl)) (pa_cons (pe_ix (ixK (K := K)) (pv 1) (pv 2) (fun _ _ => rfl)) pa_nil))))) pa_nil))))) pss_nil)
        (pss_cons (ps_if (pt_val (pe_callB (isiK (K := K)) (by rfl) T.f_isinstance (by decide +kernel) (pa_cons (pv 1) (pa_cons (pe_ty T.f_dict) pa_nil)))) pss_never pss_nil)
        (pss_cons (ps_if (PW.pt (pw_or (pt_cmpR op_isN1 (pv 1) pe_non (nomark _)) (pw_or1 (pt_cmpR op_isN1 (pv 0) pe_non (nomark _))))) (pss_one (ps_ret (pe_and (pe_cmpR op_isN1 (pv 1) pe_non (nomark _)) (pe_one (pe_cmpR op_isN1 (pv 0) pe_non (nomark _)))))) pss_nil)
        (pss_cons (ps_if (PW.pt (pw_or (pt_cmpR (otherK (K := K) hu) (pe_callB (isiK (K := K)) (by rfl) T.f_isinstance (by decide +kernel) (pa_cons (pv 1) (pa_cons (pe_ty T.f_bool) pa_nil))) (pe_callB (isiK (K := K)) (by rfl) T.f_isinstance (by decide +kernel) (pa_cons (pv 0) (pa_cons (pe_ty T.f_bool) pa_nil))) (nomark _)) (pw_or1 (pt_cmpR (otherK (K := K) hu) (pe_callB (isiK (K := K)) (by rfl) T.f_isinstance (by decide +kernel) (pa_cons (pv 1) (pa_cons (pe_ty T.f_str) pa_nil))) (pe_callB (isiK (K := K)) (by rfl) T.f_isinstance (by decide +kernel) (pa_cons (pv 0) (pa_cons (pe_ty T.f_str) pa_nil))) (nomark _))))) (pss_one (ps_ret pe_bl)) pss_nil)
        (pss_one (ps_ret (pe_and (pe_callB (isiTK (K := K)) (by rfl) T.f_isinstance (by decide +kernel) (pa_cons (pv 0) (pa_cons (pe_tup (pa_cons (pe_ty T.f_bool) (pa_cons (pe_ty T.f_int) (pa_cons (pe_ty T.f_str) pa_nil)))) pa_nil))) (pe_one (pe_cmpR (sameK (K := K) hu) (pv 0) (pv 1) (nomark _)))))))))), ?_⟩
    walk_at "st"
    intro t H1 ht e1 h1
    walk_at "st"
    refine r_isi2 (e1.dp d hy) h1 (by simp) (by simp) ?_
    walk_at "st"
    cases c : (isB (tyD d) "list" || isB (tyD d) "tuple") with
    | true =>
      walk_at "st"
      intro t2 H2 ht2 e2 h2
      have e12 := e1.trans e2
      walk_at "st"
      refine r_isi2 (e12.dp d hx) h2 (by simp) (by simp) ?_
      rw [c]
      walk_at "st"
      refine r_isi (b := "list") (e12.dp d hx) (by simp) ?_
      walk_at "st"
      refine r_isi (b := "list") (e12.dp d hy) (by simp) ?_
      walk_at "st"
      refine ite_n (fun z => absurd rfl z) (fun _ => ?_)
      obtain ⟨a, xs, rfl, ha, hxs⟩ := dp_seq (e12.dp d hx) c
      obtain ⟨b, ys, rfl, hb, hys⟩ := dp_seq (e12.dp d hy) c
      have lx := dps_len hxs
      have ly := dps_len hys
      walk_at "st"
      refine r_lenA ha (by rw [lx]) ?_
      walk_at "st"
      refine r_lenA hb (by rw [ly]) ?_
      walk_at "st"
      refine ite_n (fun z => absurd rfl z) (fun _ => ?_)
      walk_at "st"
      refine r_lenA hb (by rw [ly]) ?_
      have hsz := hd.1
      walk_at "st"
      intro Dl hD
      rw [Int.toNat_natCast]
      refine lcW_range (LcP H2 Dl fun _ => .bl true) (.start hD) ?_ ?_
      · intro i H3 hi p
        have hsz2 : i < 16777216 := by omega
        obtain ⟨x, ex, hx3⟩ := dps_get (i := i) hxs (List.getElem?_eq_getElem hi)
        obtain ⟨y, ey, hy3⟩ := dps_get (i := i) hys (List.getElem?_eq_getElem hi)
        walk_at "st"
        refine r_lcW rfl ?_
        walk_at "st"
        refine r_atA (p.e.sq ha) (by rw [Int.zero_add]; exact atI_nat ex) ?_
        walk_at "st"
        refine r_atA (p.e.sq hb) (by rw [Int.zero_add]; exact atI_nat ey) ?_
        walk_at "st"
        have hm : (itemsD d)[i] ∈ itemsD d := List.getElem_mem hi
        exact ⟨x, y, _, rfl, p.e.dp _ hx3, p.e.dp _ hy3, hd.2 _ hm, fun H4 e4 => p.pushB hD hsz2 e4 rfl⟩
      · intro H3 p
        have hd := p.d
        rw [map_bl] at hd
        walk_at "st"
        refine r_all (sqL hd) ?_
        rw [bools_all]
        exact k H3 (e12.trans p.e)
    | false =>
      walk_at "st"
      refine r_isi (e1.dp d hy) (by simp) ?_
      rw [dp_nodict hy]
      walk_at "st"
      have exy := dp_det hx hy c
      subst exy
      rcases dp_flat hx c with ⟨rfl, rfl⟩ | ⟨cb, nn, sc⟩
      · walk_at "st"
        refine ite_d (fun _ => ?_) (fun z => absurd rfl z)
        walk_at "st"
        refine ite_d (fun _ => ?_) (fun z => absurd rfl z)
        walk_at "st"
        exact k H1 e1
      · refine ite_d (fun z => absurd z nn) (fun _ => ?_)
        walk_at "st"
        refine ite_d (fun z => absurd z nn) (fun _ => ?_)
        walk_at "st"
        refine r_isi (e1.dp d hy) (by simp) ?_
        walk_at "st"
        refine r_isi (e1.dp d hy) (by simp) ?_
        walk_at "st"
        refine ite_n (fun z => absurd rfl z) (fun _ => ?_)
        walk_at "st"
        refine r_isi (e1.dp d hy) (by simp) ?_
        walk_at "st"
        refine r_isi (e1.dp d hy) (by simp) ?_
        walk_at "st"
        refine ite_n (fun z => absurd rfl z) (fun _ => ?_)
        walk_at "st"
        intro t2 H2 ht2 e2 h2
        walk_at "st"
        refine r_isi3 ((e1.trans e2).dp d hy) h2 (by simp) (by simp) (by simp) ?_
        rw [cb]
        walk_at "st"
        refine r_sameS sc ?_
        have e : decide (x = x) = true := decide_eq_true rfl
        rw [e]
        exact k H2 (e1.trans e2)

theorem scf_TooMany : FnScope ["error", "found"] ["error"] (defScope s__law_fault) := ⟨rfl, rfl, rfl, by decide +kernel, rfl, by decide +kernel, by decide +kernel⟩
theorem fault_TooMany (T : Txt w K mg) {fd : FuncData} (F : FunD K "_law_fault" "_law_fault" (defArgs s__law_fault) (defBody s__law_fault) (defScope s__law_fault) [] [] (He.ga K "_law_fault") fd) : FnP P w K mg base (L2N.CX P w) 1 (He.ga K "_law_fault") fd ["error"] (onP (spFlt K "TooMany" (["what"] : List Str))) := by
  refine fnP_of F scf_TooMany (fun p vs H Q E h => by obtain ⟨dd, kv, us, rfl, _⟩ := h; rfl) (fun p cdv A outer s H vs Q E hot hr h => ?_)
  have nd := scf_TooMany.nd
  obtain ⟨dd, kv, us, rfl, hz, hd, hus, k⟩ := h
  have hf : ∃ ws, p.2.data = .fields ws := by obtain ⟨ws, e, _⟩ := hot.2; exact ⟨ws, e⟩
  obtain ⟨u0, rfl, hu0⟩ : ∃ u0, us = [u0] ∧ kv.lookup ("what" : Str) = some u0 := by
    cases us with
    | nil => simp at hus
    | cons u r =>
      cases r with
      | nil => exact ⟨u, rfl, by simpa using hus⟩
      | cons v r => simp at hus
  have hp : p ∈ (L2H.cxH (L2N.CX P w) P w K mg base ["error", "found"] "_law_fault" (defScope s__law_fault) (He.ga K "_law_fault") cdv A outer s H E p).pn := List.mem_singleton.mpr rfl
  have hu : ((L2H.cxH (L2N.CX P w) P w K mg base ["error", "found"] "_law_fault" (defScope s__law_fault) (He.ga K "_law_fault") cdv A outer s H E p).A).units + 64 < cLine := by have := hr.un; show (A.deeper _).units + 64 < cLine; omega
  have hx : ("TooMany" : Str) ∈ errs := by simp [errs]
  refine ⟨_, (pss_cons (ps_set (i := 1) nd rfl (Or.inl rfl) (pe_lst pa_nil))
        (pss_cons (ps_if (pt_val (pe_callB (call_isP T.e_TooMany.e hz hf hp) (by rfl) T.f_isinstance (by decide +kernel) (pa_cons (pv 0) (pa_cons (pe_gl T.g_TooMany) pa_nil)))) (pss_one (ps_expr (peBM (K := K) (pe_bm PySem.F.plainAttrs_list PySem.F.slot_list_append PySem.F.type_list_append mt_append (pv 1) (pa_cons (pe_tup (pa_cons pe_str (pa_cons (pe_xp T.e_TooMany.f (T.e_TooMany.no _ (by simp)) hz hf hp (pv 0)) pa_nil))) pa_nil))))) pss_nil)
        (pss_cons (ps_if (pt_val (pe_callB (call_isP T.e_TooMany.e hz hf hp) (by rfl) T.f_isinstance (by decide +kernel) (pa_cons (pv 0) (pa_cons (pe_gl T.g_BadText) pa_nil)))) pss_never pss_nil)
        (pss_cons (ps_if (pt_val (pe_callB (call_isP T.e_TooMany.e hz hf hp) (by rfl) T.f_isinstance (by decide +kernel) (pa_cons (pv 0) (pa_cons (pe_gl T.g_BadFormat) pa_nil)))) pss_never pss_nil)
        (pss_cons (ps_if (pt_val (pe_callB (call_isP T.e_TooMany.e hz hf hp) (by rfl) T.f_isinstance (by decide +kernel) (pa_cons (pv 0) (pa_cons (pe_gl T.g_BadValue) pa_nil)))) pss_never pss_nil)
        (pss_cons (ps_if (pt_val (pe_callB (call_isP T.e_TooMany.e hz hf hp) (by rfl) T.f_isinstance (by decide +kernel) (pa_cons (pv 0) (pa_cons (pe_gl T.g_BadShape) pa_nil)))) pss_never pss_nil)
        (pss_cons (ps_if (pt_val (pe_callB (call_isP T.e_TooMany.e hz hf hp) (by rfl) T.f_isinstance (by decide +kernel) (pa_cons (pv 0) (pa_cons (pe_gl T.g_BadRow) pa_nil)))) pss_never pss_nil)
        (pss_cons (ps_if (pt_val (pe_callB (call_isP T.e_TooMany.e hz hf hp) (by rfl) T.f_isinstance (by decide +kernel) (pa_cons (pv 0) (pa_cons (pe_gl T.g_BadSet) pa_nil)))) pss_never pss_nil)
        (pss_cons (ps_if (pt_val (pe_callB (call_isP T.e_TooMany.e hz hf hp) (by rfl) T.f_isinstance (by decide +kernel) (pa_cons (pv 0) (pa_cons (pe_gl T.g_BadReader) pa_nil)))) pss_never pss_nil)
        (pss_cons (ps_if (pt_val (pe_callB (call_isP T.e_TooMany.e hz hf hp) (by rfl) T.f_isinstance (by decide +kernel) (pa_cons (pv 0) (pa_cons (pe_gl T.g_BadLayout) pa_nil)))) pss_never pss_nil)
        (pss_cons (ps_if (pt_val (pe_callB (call_isP T.e_TooMany.e hz hf hp) (by rfl) T.f_isinstance (by decide +kernel) (pa_cons (pv 0) (pa_cons (pe_gl T.g_BadCheck) pa_nil)))) pss_never pss_nil)
        (pss_cons (ps_if (pt_val (pe_callB (call_isP T.e_TooMany.e hz hf hp) (by rfl) T.f_isinstance (by decide +kernel) (pa_cons (pv 0) (pa_cons (pe_gl T.g_BadCode) pa_nil)))) pss_never pss_nil)
        (pss_cons (ps_if (pt_val (pe_callB (call_isP T.e_TooMany.e hz hf hp) (by rfl) T.f_isinstance (by decide +kernel) (pa_cons (pv 0) (pa_cons (pe_gl T.g_BadFeed) pa_nil)))) pss_never pss_nil)
        (pss_cons (ps_if (pt_val (pe_callB (call_isP T.e_TooMany.e hz hf hp) (by rfl) T.f_isinstance (by decide +kernel) (pa_cons (pv 0) (pa_cons (pe_gl T.g_BadEdit) pa_nil)))) pss_never pss_nil)
        (pss_cons (ps_if (pt_val (pe_callB (call_isP T.e_TooMany.e hz hf hp) (by rfl) T.f_isinstance (by decide +kernel) (pa_cons (pv 0) (pa_cons (pe_gl T.g_BadPatch) pa_nil)))) pss_never pss_nil)
        (pss_cons (ps_if (pt_val (pe_callB (call_isP T.e_TooMany.e hz hf hp) (by rfl) T.f_isinstance (by decide +kernel) (pa_cons (pv 0) (pa_cons (pe_gl T.g_BadPaper) pa_nil)))) pss_never pss_nil)
        (pss_cons (ps_if (pt_val (pe_callB (call_isP T.e_TooMany.e hz hf hp) (by rfl) T.f_isinstance (by decide +kernel) (pa_cons (pv 0) (pa_cons (pe_gl T.g_BadDeed) pa_nil)))) pss_never pss_nil)
        (pss_cons (ps_if (PW.pt (pw_or (pt_not (pt_val (pe_callB (call_isP T.e_TooMany.e hz hf hp) (by rfl) T.f_isinstance (by decide +kernel) (pa_cons (pv 0) (pa_cons (pe_gl T.g_OutsideError) pa_nil))))) (pw_or (pt_not (pt_val (pe_callB (call_isP T.e_TooMany.e hz hf hp) (by rfl) T.f_isinstance (by decide +kernel) (pa_cons (pv 0) (pa_cons (pe_ty T.f_ValueError) pa_nil))))) (pw_or1 (pt_cmpR (otherK (K := K) hu) (pe_callB (lenK (K := K)) (by rfl) T.f_len boot_len (pa_cons (pv 1) pa_nil)) pe_int (nomark _)))))) (pss_one (ps_ret (pe_tup (pa_cons pe_str pa_nil)))) pss_nil)
        (pss_one (ps_ret (pe_ix (ixK (K := K)) (pv 1) pe_int (fun _ _ => rfl)))))))))))))))))))))), ?_⟩
  walk_at "st"
  intro l H1 hl e1 h1
  have hd1 := e1 _ _ hd
  walk_at "st"
  refine r_isP hd1 (T.kits.yes hx) ?_
  walk_at "st"
  refine ⟨.inl ⟨rfl, _, sqL h1⟩, ?_⟩
  walk_at "st"
  refine r_xp ?_
  walk_at "st"
  refine ⟨rfl, _, _, hd1, hu0, ?_⟩
  walk_at "st"
  intro q H2 hq e2 h2
  walk_at "st"
  refine r_app (e2 _ _ h1) (by decide) (fun H3 h3 m3 => ?_)
  walk_at "st"
  have nl : dd ≠ l := ne_of_none hd hl
  have nq : q ≠ l := (ne_of_none h1 hq).symm
  have hd3 := mut_at m3 nl (e2 _ _ hd1)
  have hq3 := mut_at m3 nq h2
  have e3 : Ext H H3 := mut_ext (e1.trans e2) hl m3
  walk_at "st"
  refine r_isP hd3 (T.kits.no hx (by simp [errs]) (by decide)) ?_
  walk_at "st"
  refine r_isP hd3 (T.kits.no hx (by simp [errs]) (by decide)) ?_
  walk_at "st"
  refine r_isP hd3 (T.kits.no hx (by simp [errs]) (by decide)) ?_
  walk_at "st"
  refine r_isP hd3 (T.kits.no hx (by simp [errs]) (by decide)) ?_
  walk_at "st"
  refine r_isP hd3 (T.kits.no hx (by simp [errs]) (by decide)) ?_
  walk_at "st"
  refine r_isP hd3 (T.kits.no hx (by simp [errs]) (by decide)) ?_
  walk_at "st"
  refine r_isP hd3 (T.kits.no hx (by simp [errs]) (by decide)) ?_
  walk_at "st"
  refine r_isP hd3 (T.kits.no hx (by simp [errs]) (by decide)) ?_
  walk_at "st"
  refine r_isP hd3 (T.kits.no hx (by simp [errs]) (by decide)) ?_
  walk_at "st"
  refine r_isP hd3 (T.kits.no hx (by simp [errs]) (by decide)) ?_
  walk_at "st"
  refine r_isP hd3 (T.kits.no hx (by simp [errs]) (by decide)) ?_
  walk_at "st"
  refine r_isP hd3 (T.kits.no hx (by simp [errs]) (by decide)) ?_
  walk_at "st"
  refine r_isP hd3 (T.kits.no hx (by simp [errs]) (by decide)) ?_
  walk_at "st"
  refine r_isP hd3 (T.kits.no hx (by simp [errs]) (by decide)) ?_
  walk_at "st"
  refine r_isP hd3 (T.kits.no hx (by simp [errs]) (by decide)) ?_
  walk_at "st"
  refine r_isP hd3 (T.kits.kitO _ hx) ?_
  walk_at "st"
  refine r_isPV hd3 (T.kits.kitV _ hx) ?_
  walk_at "st"
  refine r_lenL (sqL h3) rfl ?_
  walk_at "st"
  refine ite_n (fun z => absurd rfl z) (fun _ => ?_)
  walk_at "st"
  refine r_atL (sqL h3) (atI_nat (j := 0) rfl) ?_
  exact k q H3 (e1.none hq) e3 hq3
theorem scf_BadCheck : FnScope ["error", "found"] ["error"] (defScope s__law_fault) := ⟨rfl, rfl, rfl, by decide +kernel, rfl, by decide +kernel, by decide +kernel⟩
theorem fault_BadCheck (T : Txt w K mg) {fd : FuncData} (F : FunD K "_law_fault" "_law_fault" (defArgs s__law_fault) (defBody s__law_fault) (defScope s__law_fault) [] [] (He.ga K "_law_fault") fd) : FnP P w K mg base (L2N.CX P w) 1 (He.ga K "_law_fault") fd ["error"] (onP (spFlt K "BadCheck" (["what"] : List Str))) := by
  refine fnP_of F scf_BadCheck (fun p vs H Q E h => by obtain ⟨dd, kv, us, rfl, _⟩ := h; rfl) (fun p cdv A outer s H vs Q E hot hr h => ?_)
  have nd := scf_BadCheck.nd
  obtain ⟨dd, kv, us, rfl, hz, hd, hus, k⟩ := h
  have hf : ∃ ws, p.2.data = .fields ws := by obtain ⟨ws, e, _⟩ := hot.2; exact ⟨ws, e⟩
  obtain ⟨u0, rfl, hu0⟩ : ∃ u0, us = [u0] ∧ kv.lookup ("what" : Str) = some u0 := by
    cases us with
    | nil => simp at hus
    | cons u r =>
      cases r with
      | nil => exact ⟨u, rfl, by simpa using hus⟩
      | cons v r => simp at hus
  have hp : p ∈ (L2H.cxH (L2N.CX P w) P w K mg base ["error", "found"] "_law_fault" (defScope s__law_fault) (He.ga K "_law_fault") cdv A outer s H E p).pn := List.mem_singleton.mpr rfl
  have hu : ((L2H.cxH (L2N.CX P w) P w K mg base ["error", "found"] "_law_fault" (defScope s__law_fault) (He.ga K "_law_fault") cdv A outer s H E p).A).units + 64 < cLine := by have := hr.un; show (A.deeper _).units + 64 < cLine; omega
  have hx : ("BadCheck" : Str) ∈ errs := by simp [errs]
  refine ⟨_, (pss_cons (ps_set (i := 1) nd rfl (Or.inl rfl) (pe_lst pa_nil))
        (pss_cons (ps_if (pt_val (pe_callB (call_isP T.e_BadCheck.e hz hf hp) (by rfl) T.f_isinstance (by decide +kernel) (pa_cons (pv 0) (pa_cons (pe_gl T.g_TooMany) pa_nil)))) pss_never pss_nil)
        (pss_cons (ps_if (pt_val (pe_callB (call_isP T.e_BadCheck.e hz hf hp) (by rfl) T.f_isinstance (by decide +kernel) (pa_cons (pv 0) (pa_cons (pe_gl T.g_BadText) pa_nil)))) pss_never pss_nil)
        (pss_cons (ps_if (pt_val (pe_callB (call_isP T.e_BadCheck.e hz hf hp) (by rfl) T.f_isinstance (by decide +kernel) (pa_cons (pv 0) (pa_cons (pe_gl T.g_BadFormat) pa_nil)))) pss_never pss_nil)
        (pss_cons (ps_if (pt_val (pe_callB (call_isP T.e_BadCheck.e hz hf hp) (by rfl) T.f_isinstance (by decide +kernel) (pa_cons (pv 0) (pa_cons (pe_gl T.g_BadValue) pa_nil)))) pss_never pss_nil)
        (pss_cons (ps_if (pt_val (pe_callB (call_isP T.e_BadCheck.e hz hf hp) (by rfl) T.f_isinstance (by decide +kernel) (pa_cons (pv 0) (pa_cons (pe_gl T.g_BadShape) pa_nil)))) pss_never pss_nil)
        (pss_cons (ps_if (pt_val (pe_callB (call_isP T.e_BadCheck.e hz hf hp) (by rfl) T.f_isinstance (by decide +kernel) (pa_cons (pv 0) (pa_cons (pe_gl T.g_BadRow) pa_nil)))) pss_never pss_nil)
        (pss_cons (ps_if (pt_val (pe_callB (call_isP T.e_BadCheck.e hz hf hp) (by rfl) T.f_isinstance (by decide +kernel) (pa_cons (pv 0) (pa_cons (pe_gl T.g_BadSet) pa_nil)))) pss_never pss_nil)
        (pss_cons (ps_if (pt_val (pe_callB (call_isP T.e_BadCheck.e hz hf hp) (by rfl) T.f_isinstance (by decide +kernel) (pa_cons (pv 0) (pa_cons (pe_gl T.g_BadReader) pa_nil)))) pss_never pss_nil)
        (pss_cons (ps_if (pt_val (pe_callB (call_isP T.e_BadCheck.e hz hf hp) (by rfl) T.f_isinstance (by decide +kernel) (pa_cons (pv 0) (pa_cons (pe_gl T.g_BadLayout) pa_nil)))) pss_never pss_nil)
        (pss_cons (ps_if (pt_val (pe_callB (call_isP T.e_BadCheck.e hz hf hp) (by rfl) T.f_isinstance (by decide +kernel) (pa_cons (pv 0) (pa_cons (pe_gl T.g_BadCheck) pa_nil)))) (pss_one (ps_expr (peBM (K := K) (pe_bm PySem.F.plainAttrs_list PySem.F.slot_list_append PySem.F.type_list_append mt_append (pv 1) (pa_cons (pe_tup (pa_cons pe_str (pa_cons (pe_xp T.e_BadCheck.f (T.e_BadCheck.no _ (by simp)) hz hf hp (pv 0)) pa_nil))) pa_nil))))) pss_nil)
        (pss_cons (ps_if (pt_val (pe_callB (call_isP T.e_BadCheck.e hz hf hp) (by rfl) T.f_isinstance (by decide +kernel) (pa_cons (pv 0) (pa_cons (pe_gl T.g_BadCode) pa_nil)))) pss_never pss_nil)
        (pss_cons (ps_if (pt_val (pe_callB (call_isP T.e_BadCheck.e hz hf hp) (by rfl) T.f_isinstance (by decide +kernel) (pa_cons (pv 0) (pa_cons (pe_gl T.g_BadFeed) pa_nil)))) pss_never pss_nil)
        (pss_cons (ps_if (pt_val (pe_callB (call_isP T.e_BadCheck.e hz hf hp) (by rfl) T.f_isinstance (by decide +kernel) (pa_cons (pv 0) (pa_cons (pe_gl T.g_BadEdit) pa_nil)))) pss_never pss_nil)
        (pss_cons (ps_if (pt_val (pe_callB (call_isP T.e_BadCheck.e hz hf hp) (by rfl) T.f_isinstance (by decide +kernel) (pa_cons (pv 0) (pa_cons (pe_gl T.g_BadPatch) pa_nil)))) pss_never pss_nil)
        (pss_cons (ps_if (pt_val (pe_callB (call_isP T.e_BadCheck.e hz hf hp) (by rfl) T.f_isinstance (by decide +kernel) (pa_cons (pv 0) (pa_cons (pe_gl T.g_BadPaper) pa_nil)))) pss_never pss_nil)
        (pss_cons (ps_if (pt_val (pe_callB (call_isP T.e_BadCheck.e hz hf hp) (by rfl) T.f_isinstance (by decide +kernel) (pa_cons (pv 0) (pa_cons (pe_gl T.g_BadDeed) pa_nil)))) pss_never pss_nil)
        (pss_cons (ps_if (PW.pt (pw_or (pt_not (pt_val (pe_callB (call_isP T.e_BadCheck.e hz hf hp) (by rfl) T.f_isinstance (by decide +kernel) (pa_cons (pv 0) (pa_cons (pe_gl T.g_OutsideError) pa_nil))))) (pw_or (pt_not (pt_val (pe_callB (call_isP T.e_BadCheck.e hz hf hp) (by rfl) T.f_isinstance (by decide +kernel) (pa_cons (pv 0) (pa_cons (pe_ty T.f_ValueError) pa_nil))))) (pw_or1 (pt_cmpR (otherK (K := K) hu) (pe_callB (lenK (K := K)) (by rfl) T.f_len boot_len (pa_cons (pv 1) pa_nil)) pe_int (nomark _)))))) (pss_one (ps_ret (pe_tup (pa_cons pe_str pa_nil)))) pss_nil)
        (pss_one (ps_ret (pe_ix (ixK (K := K)) (pv 1) pe_int (fun _ _ => rfl)))))))))))))))))))))), ?_⟩
  walk_at "st"
  intro l H1 hl e1 h1
  have hd1 := e1 _ _ hd
  walk_at "st"
  refine r_isP hd1 (T.kits.no hx (by simp [errs]) (by decide)) ?_
  walk_at "st"
  refine r_isP hd1 (T.kits.no hx (by simp [errs]) (by decide)) ?_
  walk_at "st"
  refine r_isP hd1 (T.kits.no hx (by simp [errs]) (by decide)) ?_
  walk_at "st"
  refine r_isP hd1 (T.kits.no hx (by simp [errs]) (by decide)) ?_
  walk_at "st"
  refine r_isP hd1 (T.kits.no hx (by simp [errs]) (by decide)) ?_
  walk_at "st"
  refine r_isP hd1 (T.kits.no hx (by simp [errs]) (by decide)) ?_
  walk_at "st"
  refine r_isP hd1 (T.kits.no hx (by simp [errs]) (by decide)) ?_
  walk_at "st"
  refine r_isP hd1 (T.kits.no hx (by simp [errs]) (by decide)) ?_
  walk_at "st"
  refine r_isP hd1 (T.kits.no hx (by simp [errs]) (by decide)) ?_
  walk_at "st"
  refine r_isP hd1 (T.kits.yes hx) ?_
  walk_at "st"
  refine ⟨.inl ⟨rfl, _, sqL h1⟩, ?_⟩
  walk_at "st"
  refine r_xp ?_
  walk_at "st"
  refine ⟨rfl, _, _, hd1, hu0, ?_⟩
  walk_at "st"
  intro q H2 hq e2 h2
  walk_at "st"
  refine r_app (e2 _ _ h1) (by decide) (fun H3 h3 m3 => ?_)
  walk_at "st"
  have nl : dd ≠ l := ne_of_none hd hl
  have nq : q ≠ l := (ne_of_none h1 hq).symm
  have hd3 := mut_at m3 nl (e2 _ _ hd1)
  have hq3 := mut_at m3 nq h2
  have e3 : Ext H H3 := mut_ext (e1.trans e2) hl m3
  walk_at "st"
  refine r_isP hd3 (T.kits.no hx (by simp [errs]) (by decide)) ?_
  walk_at "st"
  refine r_isP hd3 (T.kits.no hx (by simp [errs]) (by decide)) ?_
  walk_at "st"
  refine r_isP hd3 (T.kits.no hx (by simp [errs]) (by decide)) ?_
  walk_at "st"
  refine r_isP hd3 (T.kits.no hx (by simp [errs]) (by decide)) ?_
  walk_at "st"
  refine r_isP hd3 (T.kits.no hx (by simp [errs]) (by decide)) ?_
  walk_at "st"
  refine r_isP hd3 (T.kits.no hx (by simp [errs]) (by decide)) ?_
  walk_at "st"
  refine r_isP hd3 (T.kits.kitO _ hx) ?_
  walk_at "st"
  refine r_isPV hd3 (T.kits.kitV _ hx) ?_
  walk_at "st"
  refine r_lenL (sqL h3) rfl ?_
  walk_at "st"
  refine ite_n (fun z => absurd rfl z) (fun _ => ?_)
  walk_at "st"
  refine r_atL (sqL h3) (atI_nat (j := 0) rfl) ?_
  exact k q H3 (e1.none hq) e3 hq3
def faultL : List (Str × List Str) := [("TooMany", ["what"]), ("BadCheck", ["what"])]
theorem ok_fault (T : Txt w K mg) : FaultG P w K mg base faultL := by
  obtain ⟨fd, F⟩ := T.d__law_fault
  refine ⟨T.g__law_fault, F.kp, fd, fnP_any (fun x hx => ?_), F.bindsN fun _ _ _ _ _ _ us hl => match us, hl with | [_], _ => rfl⟩
  simp only [faultL, List.mem_cons, List.not_mem_nil, or_false] at hx
  rcases hx with rfl | rfl
  · exact fault_TooMany T F
  · exact fault_BadCheck T F
/-! ### copies, all in new places -/
def spCopied (K : PySem.W.Frag) (n : Nat) : Sp := fun vs H Q _ => ∃ (x : V) (d : PyData), vs = [x] ∧ Dp K H x d ∧ smallD n d ∧ ∀ y H', Ext H H' → Nw (fun a => H a = none) H' y d → Q y H'
/-- the copies made so far, at D -/
def Cops (H1 : Hp) (D : Addr) (ds : List PyData) (i : Nat) (H' : Hp) : Prop := Ext H1 H' ∧ ∃ ys, H' D = some (.lst ys) ∧ ys.length = i ∧ Nws (fun a => H1 a = none ∧ a ≠ D) H' ys (ds.take i)
theorem Cops.push {H1 H2 H3 : Hp} {D : Addr} {ds : List PyData} {i : Nat} {e : PyData} {y : V} (h : Cops H1 D ds i H2) (hD : H1 D = none) (he : ds[i]? = some e) (hi : i < 16777216) (e3 : Ext H2 H3) (c : Nw (fun a => H2 a = none) H3 y e) :
    ∃ acc, H3 D = some (.lst acc) ∧ acc.length < sizeLine ∧ Cops H1 D ds (i + 1) (upd H3 D (.lst (acc ++ [y]))) := by
  obtain ⟨e2, ys, hy, hyl, hys⟩ := h
  refine ⟨ys, e3 _ _ hy, by rw [hyl, sizeLine_eq]; exact hi, Ext.mut (e2.trans e3) hD, ys ++ [y], upd_same, by rw [List.length_append, hyl]; rfl, ?_⟩
  rw [List.take_succ, he]
  refine (hys.keep (fun a o s q => ⟨by rw [upd_ne s.2]; exact e3 _ _ q, s⟩) _).append (.cons (c.keep (fun a o s q => ?_) e) .nil)
  have aD : a ≠ D := fun z => by rw [z, hy] at s; cases s
  exact ⟨by rw [upd_ne aD]; exact q, e2.none s, aD⟩
theorem lcW_tup {K : PySem.W.Frag} {σ : L2.St} {H : Hp} {g : TG} {tt : TT} {te : TE} {a : Addr} {xs : List V} {vs : List Nat} {Dl : Addr} {Qd : Hp → Prop} (Pv : Nat → Hp → Prop) (h0 : Pv 0 (upd H Dl (.lst []))) (hl : ∀ i H, i ≤ xs.length → Pv i H → SqT K H a xs)
    (hs : ∀ i x H, xs[i]? = some x → Pv i H → g x (wipe σ vs) H fun σ2 H2 => wipe σ2 vs = wipe σ vs ∧ tt σ2 H2 fun b H3 =>
      if b = true then te σ2 H3 fun y H4 => ∃ acc, H4 Dl = some (.lst acc) ∧ acc.length < sizeLine ∧ Pv (i + 1) (upd H4 Dl (.lst (acc ++ [y]))) else Pv (i + 1) H3) (hd : ∀ H, Pv xs.length H → Qd H) : LcW (Itt K a) g tt te vs σ Dl Qd H := lc_tup Pv h0 hl hs hd
theorem sc__law_copied : FnScope ["thing", "one", "key"] ["thing"] (defScope s__law_copied) := ⟨rfl, rfl, rfl, by decide +kernel, rfl, by decide +kernel, by decide +kernel⟩
theorem ok_law_copied (T : Txt w K mg) : ∀ n, CalG P w K mg base (n + 2) "_law_copied" ["thing"] (spCopied K n)
  | 0 => (calG_false T.g__law_copied T.d__law_copied (fun _ _ _ _ _ _ _ us hl => match us, hl with | [_], _ => rfl)).imp fun vs H Q E ⟨_, _, _, _, z, _⟩ => z.elim
  | n + 1 => by
    have c__law_copied := ok_law_copied T n
    refine calG_of T.g__law_copied T.d__law_copied sc__law_copied (fun _ _ _ _ _ _ _ us hl => match us, hl with | [_], _ => rfl) (fun vs H Q E h => by obtain ⟨c, d, rfl, _⟩ := h; rfl) (fun cdv A outer s H vs Q E hr h => ?_)
    have nd := sc__law_copied.nd
    have hu := hu64 hr
    obtain ⟨x, d, rfl, hx, hd, k⟩ := h
    refine ⟨_, (pss_cons (ps_if (pt_val (pe_callB (isiK (K := K)) (by rfl) T.f_isinstance (by decide +kernel) (pa_cons (pv 0) (pa_cons (pe_ty T.f_list) pa_nil)))) (pss_one (ps_ret (pe_lc (own := [("one", 1)]) rfl nd (piL (K := K) (pv 0)) (blkOk_by (N := ["thing", "one", "key"]) (sc := defScope s__law_copied) (by decide +kernel)) (fun _ _ _ _ _ => (pg_name (i := 1) nd rfl (Or.inl rfl))) (fun _ _ _ _ _ => pts_nil) (fun _ _ _ _ _ => (pe_cal c__law_copied hr (by omega) passN (pa_cons (pv 1) pa_nil)))))) pss_nil)
        (pss_cons (ps_if (pt_val (pe_callB (isiK (K := K)) (by rfl) T.f_isinstance (by decide +kernel) (pa_cons (pv 0) (pa_cons (pe_ty T.f_tuple) pa_nil)))) (pss_one (ps_ret (pe_callTy (tupK (K := K)) (by rfl) T.f_tuple (by decide +kernel) (pa_cons (pe_lc (own := [("one", 1)]) rfl nd (piT (K := K) (pv 0)) (blkOk_by (N := ["thing", "one", "key"]) (sc := defScope s__law_copied) (by decide +kernel)) (fun _ _ _ _ _ => (pg_name (i := 1) nd rfl (Or.inl rfl))) (fun _ _ _ _ _ => pts_nil) (fun _ _ _ _ _ => (pe_cal c__law_copied hr (by omega) passN (pa_cons (pv 1) pa_nil)))) pa_nil)))) pss_nil)
        (pss_cons (ps_if (pt_val (pe_callB (isiK (K := K)) (by rfl) T.f_isinstance (by decide +kernel) (pa_cons (pv 0) (pa_cons (pe_ty T.f_dict) pa_nil)))) pss_never pss_nil)
        (pss_one (ps_ret (pv 0)))))), ?_⟩
    have hsz := hd.1
    have hsub := hd.2
    have flat : (itemsD d = []) → (Nw (fun a => H a = none) H x d) → Q x H := fun _ h => k x H .rfl h
    walk_at "st"
    refine r_isi (b := "list") hx (by simp) ?_
    cases hx with
    | lst h hs =>
      rename_i a xs ds
      rw [show isB (tyD (.list ds)) "list" = true by simp [isB, tyD]]
      walk_at "st"
      refine r_li h ?_
      intro D hD
      have hxl := dps_len hs
      refine lcW_list (Cops H D ds) ⟨.new hD, [], upd_same, rfl, by rw [List.take_zero]; exact .nil⟩ (fun i H' _ p => p.1.l h) ?_ ?_
      · intro i y H2 hy p
        have hi : i < ds.length := by rw [← hxl]; exact (List.getElem?_eq_some_iff.mp hy).1
        have ed : ds[i]? = some ds[i] := List.getElem?_eq_getElem hi
        obtain ⟨x', ex, hx'⟩ := dps_get hs ed
        rw [hy] at ex
        cases ex
        have hz : ds.length ≤ 100000 := hsz
        walk_at "st"
        refine r_lcW rfl ?_
        walk_at "st"
        exact ⟨y, ds[i], rfl, p.1.dp _ hx', hsub _ (List.getElem_mem hi), fun z H3 e3 c => p.push hD ed (by omega) e3 c⟩
      · rintro H2 ⟨e2, ys, hy, hyl, hys⟩
        rw [hxl, List.take_length] at hys
        refine k (.ref D) H2 e2 (.lst hD hy (hys.keep (fun a o s q => ⟨q, s.1⟩) _))
    | tup h hs =>
      rename_i a xs ds
      rw [show isB (tyD (.tuple ds)) "list" = false by simp [isB, tyD]]
      walk_at "st"
      refine r_isi (b := "tuple") (d := .tuple ds) (.tup h hs) (by simp) ?_
      rw [show isB (tyD (.tuple ds)) "tuple" = true by simp [isB, tyD]]
      walk_at "st"
      refine r_ti h ?_
      intro D hD
      have hxl := dps_len hs
      refine lcW_tup (Cops H D ds) ⟨.new hD, [], upd_same, rfl, by rw [List.take_zero]; exact .nil⟩ (fun i H' _ p => p.1.tu h) ?_ ?_
      · intro i y H2 hy p
        have hi : i < ds.length := by rw [← hxl]; exact (List.getElem?_eq_some_iff.mp hy).1
        have ed : ds[i]? = some ds[i] := List.getElem?_eq_getElem hi
        obtain ⟨x', ex, hx'⟩ := dps_get hs ed
        rw [hy] at ex
        cases ex
        have hz : ds.length ≤ 100000 := hsz
        walk_at "st"
        refine r_lcW rfl ?_
        walk_at "st"
        exact ⟨y, ds[i], rfl, p.1.dp _ hx', hsub _ (List.getElem_mem hi), fun z H3 e3 c => p.push hD ed (by omega) e3 c⟩
      · rintro H2 ⟨e2, ys, hy, hyl, hys⟩
        rw [hxl, List.take_length] at hys
        walk_at "st"
        refine ⟨D, ys, rfl, .inl ⟨sqL hy, fun l hl => ?_⟩⟩
        have e3 : Ext H2 (upd H2 l (.tup ys)) := .new hl
        refine k (.ref l) _ (e2.trans e3) (.tup (e2.none hl) upd_same (hys.keep (fun a o s q => ⟨e3 _ _ q, s.1⟩) _))
    | non =>
      rw [show isB (tyD .none) "list" = false by simp [isB, tyD]]
      walk_at "st"
      refine r_isi (b := "tuple") (d := .none) .non (by simp) ?_
      rw [show isB (tyD .none) "tuple" = false by simp [isB, tyD]]
      walk_at "st"
      refine r_isi (b := "dict") (d := .none) .non (by simp) ?_
      rw [show isB (tyD .none) "dict" = false by simp [isB, tyD]]
      walk_at "st"
      exact flat rfl (.non)
    | bl b =>
      rw [show isB (tyD (.bool b)) "list" = false by simp [isB, tyD]]
      walk_at "st"
      refine r_isi (b := "tuple") (d := .bool b) (.bl b) (by simp) ?_
      rw [show isB (tyD (.bool b)) "tuple" = false by simp [isB, tyD]]
      walk_at "st"
      refine r_isi (b := "dict") (d := .bool b) (.bl b) (by simp) ?_
      rw [show isB (tyD (.bool b)) "dict" = false by simp [isB, tyD]]
      walk_at "st"
      exact flat rfl (.bl b)
    | int b =>
      rw [show isB (tyD (.int b)) "list" = false by simp [isB, tyD]]
      walk_at "st"
      refine r_isi (b := "tuple") (d := .int b) (.int b) (by simp) ?_
      rw [show isB (tyD (.int b)) "tuple" = false by simp [isB, tyD]]
      walk_at "st"
      refine r_isi (b := "dict") (d := .int b) (.int b) (by simp) ?_
      rw [show isB (tyD (.int b)) "dict" = false by simp [isB, tyD]]
      walk_at "st"
      exact flat rfl (.int b)
    | str b =>
      rw [show isB (tyD (.str b)) "list" = false by simp [isB, tyD]]
      walk_at "st"
      refine r_isi (b := "tuple") (d := .str b) (.str b) (by simp) ?_
      rw [show isB (tyD (.str b)) "tuple" = false by simp [isB, tyD]]
      walk_at "st"
      refine r_isi (b := "dict") (d := .str b) (.str b) (by simp) ?_
      rw [show isB (tyD (.str b)) "dict" = false by simp [isB, tyD]]
      walk_at "st"
      exact flat rfl (.str b)

end
end K29
set_option maxRecDepth 100000
set_option maxHeartbeats 4000000
namespace K29
open PySem PySem.Spec PyProof.Rows L2 L3
local macro_rules | `(tactic| walk_at "s1") => `(tactic| first
  | with_reducible refine r_seq ?_
  | with_reducible refine r_asgN ?_
  | with_reducible refine r_ret ?_
  | with_reducible refine r_next ?_
  | ((with_reducible refine' r_var ?hv ?_); (case hv => exact rfl))
  | with_reducible refine r_c ?_
  | with_reducible refine r_op ?_
  | with_reducible refine r_cons ?_
  | with_reducible refine r_nil ?_
  | with_reducible refine r_plusI ?_
  | with_reducible refine r_I0 ?_
  | with_reducible refine r_test ?_
  | with_reducible refine r_bl ?_
  | with_reducible refine r_ifS ?_
  | with_reducible refine r_cb ?_
  | with_reducible refine r_callS ?_
  | with_reducible refine r_and ?_
  | with_reducible refine r_or ?_
  | with_reducible refine r_not ?_
  | with_reducible refine r_B ?_
  | ((with_reducible refine' r_aug ?hv ?_); (case hv => exact rfl))
  | with_reducible refine r_augS ?_
  | with_reducible refine r_ipI ?_
  | with_reducible refine r_asg ?_
  | with_reducible refine r_sub ?_
  | with_reducible refine r_brk ?_
  | with_reducible refine r_isN1 ?_
  | with_reducible refine r_notN1 ?_
  | with_reducible refine r_intI ?_
  | with_reducible refine r_abs ?_
  | with_reducible refine r_min ?_
  | with_reducible refine r_max ?_
  | ((with_reducible refine' r_mod ?hz ?_); (case hz => omega))
  | ((with_reducible refine' r_pow ?hz ?_); (case hz => exact ⟨by decide, by decide, by decide⟩))
  | ((with_reducible refine' r_rg1 ?hz ?_); (case hz => omega))
  | ((with_reducible refine' r_rg2 ?hz ?_); (case hz => omega))
  | ((with_reducible refine' r_newL ?hz ?_); (case hz => exact Nat.le_of_ble_eq_true rfl))
  | ((with_reducible refine' r_newT ?hz ?_); (case hz => exact Nat.le_of_ble_eq_true rfl))
  | with_reducible refine r_for ?_
  | with_reducible refine r_lc ?_
  | with_reducible refine r_iR1 ?_
  | with_reducible refine r_iR2 ?_
  | with_reducible refine r_iL ?_
  | with_reducible refine r_iT ?_
  | with_reducible refine r_gname ?_
  | with_reducible refine r_gcons ?_
  | with_reducible refine r_gnil ?_
  | with_reducible refine r_yes ?_
  | with_reducible refine r_mkO ?_
  | with_reducible refine r_cont ?_
  | with_reducible refine r_drop ?_
  | with_reducible refine r_retN ?_
  | with_reducible refine r_ifC ?_
  | with_reducible refine r_ifI ?_
  | with_reducible refine r_if ?_
  | with_reducible refine r_un ?_
  | with_reducible refine r_neg ?_
  | with_reducible refine r_andV ?_
  | with_reducible refine r_orV ?_
  | with_reducible refine r_notV ?_
  | with_reducible refine r_tup ?_
  | with_reducible refine r_lst ?_
  | with_reducible refine r_bm ?_
  | with_reducible refine r_bm0 ?_
  | with_reducible refine r_sl ?_
  | with_reducible refine r_chain ?_
  | with_reducible refine r_listDn ?_
  | with_reducible refine r_listRg2 ?_
  | with_reducible refine r_revL ?_
  | with_reducible refine r_noPart ?_
  | with_reducible refine r_dgt ?_
  | with_reducible refine r_din ?_
  | with_reducible refine r_dnin ?_
  | with_reducible refine r_dput ?_
  | with_reducible refine r_dnew ?_
  | with_reducible refine r_disp1 ?_
  | with_reducible refine r_lenSet ?_
  | with_reducible refine r_part ?_
  | with_reducible refine r_int ?_
  | ((with_reducible refine' r_sameS ?hs ?_); (case hs => exact rfl))
  | ((with_reducible refine' r_otherS ?hs ?_); (case hs => exact rfl))
  | with_reducible refine ite_t ?_
  | with_reducible refine ite_f ?_
  | with_reducible refine ite_nt ?_
  | with_reducible refine ite_nf ?_)
local macro_rules | `(tactic| walk_at "st") => `(tactic| repeat (walk_at "s1"))

section
variable {P : Program} {w : World} {K : PySem.W.Frag} {mg : Str → Option Value} {base : Heap}
/-! ### the law's run -/
def spLRun (K : PySem.W.Frag) : Sp := fun vs H Q _ => ∃ (p sg : Addr) (st : List (List Int)) (m : Int) (ns : List Int), vs = [.ref p, .int m, .ref sg] ∧ Tb K H p st ∧ SqL K H sg (ns.map V.int) ∧ GoodSt st m ∧ Q (.int (runF st m 0 ns : Nat)) H
theorem sc__law_run : FnScope ["states", "letters", "signs", "state", "sign"] ["states", "letters", "signs"] (defScope s__law_run) := ⟨rfl, rfl, rfl, by decide +kernel, rfl, by decide +kernel, by decide +kernel⟩
theorem ok_law_run (T : Txt w K mg) : CalG P w K mg base 1 "_law_run" ["states", "letters", "signs"] (spLRun K) := by
  refine calG_of T.g__law_run T.d__law_run sc__law_run (fun _ _ _ _ _ _ _ us hl => match us, hl with | [_, _, _], _ => rfl) (fun vs H Q E h => by obtain ⟨_, _, _, _, _, rfl, _⟩ := h; rfl) (fun cdv A outer s H vs Q E hr h => ?_)
  have nd := sc__law_run.nd
  have hu := hu64 hr
  obtain ⟨p, sg, st, m, ns, rfl, hp, hsg, g, k⟩ := h
  refine ⟨_, (pss_cons (ps_set (i := 3) nd rfl (Or.inl rfl) pe_int)
        (pss_cons (ps_for (passes_of rfl) rfl (piL (K := K) (pv 2)) (pg_name (i := 4) nd rfl (Or.inl rfl)) (pss_one (ps_set (i := 3) nd rfl (Or.inl rfl) (pe_ix (ixK (K := K)) (pe_ix (ixK (K := K)) (pv 0) (pv 3) (fun _ _ => rfl)) (pe_op op_mod (pe_callTy cr_int (by rfl) T.f_int (by decide +kernel) (pa_cons (pv 4) pa_nil)) (pv 1)) (fun _ _ => rfl)))))
        (pss_one (ps_ret (pv 3))))), ?_⟩
  have m1 := g.1.1
  have sp0 : 0 < st.length := by
    cases st with
    | nil => exact absurd rfl g.2.1
    | cons a l => simp
  walk_at "st"
  refine r_li hsg ?_
  refine forW_list (fun i σ' H' => ∃ v, σ' = [some (.ref p), some (.int m), some (.ref sg), some (.int (runF st m 0 (ns.take i) : Nat)), v] ∧ H = H') ⟨none, rfl, rfl⟩ (fun i σ' H' _ ⟨_, _, e⟩ => e ▸ hsg) ?_ ?_
  · rintro i x σ' H' hx ⟨v, rfl, rfl⟩
    rw [List.getElem?_map] at hx
    obtain ⟨z, hz, rfl⟩ := Option.map_eq_some_iff.mp hx
    have hs := run_lt g (ns.take i) sp0
    obtain ⟨xs', row, a, q1, q2, q3, q4⟩ := tb_at hp g hs
    have z0 := Int.emod_nonneg z (show m ≠ 0 by omega)
    have z1 := Int.emod_lt_of_pos z (show 0 < m by omega)
    walk_at "st"
    refine r_atL q1 (atI_nat q2) ?_
    walk_at "st"
    refine r_atA q3 (i := z % m) (v := .int (stp st (runF st m 0 (ns.take i)) (z % m).toNat : Nat)) ?_ ?_
    · rw [show z % m = (((z % m).toNat : Nat) : Int) by omega]
      exact atI_nat (q4 _ (by omega))
    refine ⟨some (.int z), ?_, rfl⟩
    rw [List.take_succ, hz]
    unfold runF
    rw [List.foldl_append]
    rfl
  · rintro σ' H' ⟨v, rfl, rfl⟩
    rw [List.length_map, List.take_length]
    walk_at "st"
    exact k

def spCome (K : PySem.W.Frag) : Sp := fun vs H Q _ => ∃ (p : Addr) (st : List (List Int)) (m : Int), vs = [.ref p, .int m] ∧ Tb K H p st ∧ GoodSt st m ∧ m ≤ 1000 ∧ st.length ≤ 1000 ∧ ∀ q H' cs, H q = none → Ext H H' → H' q = some (.lst (ntV cs)) → ComeS st m cs → Q (.ref q) H'
theorem sc__law_come : FnScope ["states", "letters", "found", "at", "letter"] ["states", "letters"] (defScope s__law_come) := ⟨rfl, rfl, rfl, by decide +kernel, rfl, by decide +kernel, by decide +kernel⟩
theorem ok_law_come (T : Txt w K mg) : CalG P w K mg base 1 "_law_come" ["states", "letters"] (spCome K) := by
  refine calG_of T.g__law_come T.d__law_come sc__law_come (fun _ _ _ _ _ _ _ us hl => match us, hl with | [_, _], _ => rfl) (fun vs H Q E h => by obtain ⟨_, _, _, rfl, _⟩ := h; rfl) (fun cdv A outer s H vs Q E hr h => ?_)
  have nd := sc__law_come.nd
  have hu := hu64 hr
  obtain ⟨p, st, m, rfl, hp, g, m1, hsz, k⟩ := h
  have m0 := g.1.1
  refine ⟨_, (pss_cons (ps_set (i := 2) nd rfl (Or.inl rfl) (pe_lst (pa_cons pe_int pa_nil)))
        (pss_cons (ps_set (i := 3) nd rfl (Or.inl rfl) pe_int)
        (pss_cons (ps_while (passes_of rfl) (pt_cmpR op_lt (pv 3) (pe_callB (lenK (K := K)) (by rfl) T.f_len boot_len (pa_cons (pv 2) pa_nil)) (nomark _)) (pss_cons (ps_for (passes_of rfl) rfl (pi_range1 (by rfl) T.f_range (pa_cons (pv 1) pa_nil)) (pg_name (i := 4) nd rfl (Or.inl rfl)) (pss_one (ps_if (pt_cmpR (notInK (K := K)) (pe_ix (ixK (K := K)) (pe_ix (ixK (K := K)) (pv 0) (pe_ix (ixK (K := K)) (pv 2) (pv 3) (fun _ _ => rfl)) (fun _ _ => rfl)) (pv 4) (fun _ _ => rfl)) (pv 2) (by rfl)) (pss_one (ps_expr (peBM (K := K) (pe_bm PySem.F.plainAttrs_list PySem.F.slot_list_append PySem.F.type_list_append mt_append (pv 2) (pa_cons (pe_ix (ixK (K := K)) (pe_ix (ixK (K := K)) (pv 0) (pe_ix (ixK (K := K)) (pv 2) (pv 3) (fun _ _ => rfl)) (fun _ _ => rfl)) (pv 4) (fun _ _ => rfl)) pa_nil))))) pss_nil)))
        (pss_one (ps_set (i := 3) nd rfl (Or.inl rfl) (pe_op (plusK (K := K)) (pv 3) pe_int)))))
        (pss_one (ps_ret (pe_callB (sortedK (K := K)) (by rfl) T.f_sorted (by decide +kernel) (pa_cons (pv 2) pa_nil))))))), ?_⟩
  walk_at "st"
  intro f H1 hf e1 h1
  walk_at "st"
  refine whileW (fun μ σ' H' => ∃ (t : Nat) (fs : List Nat) (v : Option V), μ = st.length + 1 - t ∧ σ' = [some (.ref p), some (.int m), some (.ref f), some (.int (t : Nat)), v] ∧ Ext H H' ∧ H' f = some (.lst (ntV fs)) ∧ fs.Nodup ∧ (∀ c ∈ fs, Reach st m c) ∧ 0 ∈ fs ∧ t ≤ fs.length ∧
    (∀ (i c a : Nat), i < t → fs[i]? = some c → (a : Int) < m → stp st c a ∈ fs)) (st.length + 1) ⟨0, [0], none, rfl, rfl, e1, h1, by simp, fun c hc => by rw [List.mem_singleton.mp hc]; exact .z, List.mem_singleton.mpr rfl, Nat.zero_le _, fun i c a hi => absurd hi (Nat.not_lt_zero _)⟩ ?_
  rintro μ σ' H2 ⟨t, fs, v, rfl, rfl, e2, h2, fnd, fre, f0, ft, fcl⟩
  have fle := come_len g fnd fre
  walk_at "st"
  refine r_lenL (sqL h2) (n := fs.length) (by rw [ntV_len]) ?_
  walk_at "st"
  refine ite_d (fun c => r_N ?_) (fun c => ?_)
  · have ht : t < fs.length := by omega
    have et : fs[t]? = some fs[t] := List.getElem?_eq_getElem ht
    have tr := fre _ (List.getElem_mem ht)
    walk_at "st"
    refine forW_range (fun i σ' H' => ∃ (fs' : List Nat) (v : Option V), σ' = [some (.ref p), some (.int m), some (.ref f), some (.int (t : Nat)), v] ∧ Ext H H' ∧ H' f = some (.lst (ntV fs')) ∧ fs'.Nodup ∧ (∀ c ∈ fs', Reach st m c) ∧ (∀ (j c : Nat), fs[j]? = some c → fs'[j]? = some c) ∧ ∀ a : Nat, a < i → stp st fs[t] a ∈ fs') ⟨fs, v, rfl, e2, h2, fnd, fre, fun j c h => h, fun a ha => absurd ha (Nat.not_lt_zero _)⟩ ?_ ?_
    · rintro i σ' H3 hi ⟨fs', v', rfl, e3, h3, nd3, re3, pr3, cl3⟩
      have le3 := come_len g nd3 re3
      obtain ⟨xs, row, b, q1, q2, q3, q4⟩ := tb_at (hp.ext e3) g (tr.lt g)
      have hi' : (i : Int) < m := by omega
      walk_at "st"
      rw [Int.zero_add]
      refine r_atL (sqL h3) (atI_nat (ntV_at (pr3 _ _ et))) ?_
      refine r_atL q1 (atI_nat q2) ?_
      walk_at "st"
      refine r_atA q3 (atI_nat (q4 i hi')) ?_
      walk_at "st"
      refine r_notInI (sqL h3) ?_
      walk_at "st"
      refine ite_n (fun c2 => ?_) (fun c2 => ?_)
      · walk_at "st"
        refine ⟨.inl ⟨rfl, _, sqL h3⟩, ?_⟩
        walk_at "st"
        refine r_atL (sqL h3) (atI_nat (ntV_at (pr3 _ _ et))) ?_
        refine r_atL q1 (atI_nat q2) ?_
        walk_at "st"
        refine r_atA q3 (atI_nat (q4 i hi')) ?_
        walk_at "st"
        refine r_app h3 (by rw [ntV_len]; omega) (fun H4 h4 n4 => ?_)
        have new : stp st fs[t] i ∉ fs' := fun z => c2 (mem_nt.mpr z)
        refine ⟨fs' ++ [stp st fs[t] i], _, rfl, mut_ext e3 hf n4, ?_, ?_, ?_, fun j c h => ?_, fun a ha => ?_⟩
        · rw [h4]; unfold ntV; rw [List.map_append, List.map_append]; rfl
        · rw [List.nodup_append]
          exact ⟨nd3, by simp, fun a ha b hb e => new (by rw [← List.mem_singleton.mp hb, ← e]; exact ha)⟩
        · intro c hc
          rcases List.mem_append.mp hc with hc | hc
          · exact re3 c hc
          · rw [List.mem_singleton.mp hc]; exact .s tr hi'
        · have := pr3 j c h
          rw [List.getElem?_append_left (List.getElem?_eq_some_iff.mp this).1]
          exact this
        · by_cases ca : a = i
          · rw [ca]; exact List.mem_append_right _ (List.mem_singleton.mpr rfl)
          · exact List.mem_append_left _ (cl3 a (by omega))
      · walk_at "st"
        refine ⟨fs', _, rfl, e3, h3, nd3, re3, pr3, fun a ha => ?_⟩
        by_cases ca : a = i
        · rw [ca]; exact mem_nt.mp c2
        · exact cl3 a (by omega)
    · rintro σ' H3 ⟨fs', v', rfl, e3, h3, nd3, re3, pr3, cl3⟩
      have le3 := come_len g nd3 re3
      have sub : ∀ c ∈ fs, c ∈ fs' := fun c hc => by
        obtain ⟨j, hj⟩ := List.mem_iff_getElem?.mp hc
        exact List.mem_of_getElem? (pr3 j c hj)
      walk_at "st"
      refine ⟨st.length + 1 - (t + 1), by omega, t + 1, fs', v', rfl, rfl, e3, h3, nd3, re3, sub 0 f0, (List.getElem?_eq_some_iff.mp (pr3 _ _ et)).1, fun i c a hi hc ha => ?_⟩
      by_cases ci : i < t
      · have : fs[i]? = some fs[i] := List.getElem?_eq_getElem (by omega)
        have e := pr3 _ _ this
        rw [hc] at e
        cases e
        exact sub _ (fcl i _ a ci this ha)
      · have e : i = t := by omega
        subst e
        have e := pr3 _ _ et
        rw [hc] at e
        cases e
        exact cl3 a (by omega)
  · have ht : t = fs.length := by omega
    walk_at "st"
    refine ⟨f, _, rfl, sqL h2, fun ns' q pe so hq => ?_⟩
    obtain ⟨cs, rfl⟩ : ∃ cs : List Nat, ns' = cs.map fun (c : Nat) => (c : Int) := by
      refine ⟨ns'.map Int.toNat, ?_⟩
      rw [List.map_map]
      conv => lhs; rw [← List.map_id ns']
      refine List.map_congr_left fun x hx => ?_
      obtain ⟨c, _, rfl⟩ := List.mem_map.mp (pe.mem_iff.mp hx)
      rfl
    have mm : ∀ c, c ∈ cs ↔ c ∈ fs := fun c => by rw [← mem_nt, pe.mem_iff, mem_nt]
    refine k q _ cs (e2.none hq) (e2.trans (Ext.new hq)) upd_same ⟨?_, ?_, fun c => ?_⟩
    · have h := pe.nodup_iff.mpr (Lay.nd_map (f := fun (c : Nat) => (c : Int)) (fun x _ y _ e => by have e : (x : Int) = y := e; omega) fnd)
      rw [List.Nodup, List.pairwise_map] at h
      exact h.imp fun n e => n (by rw [e])
    · rw [List.pairwise_map] at so
      exact so.imp fun h => by omega
    · rw [mm]
      refine ⟨fre c, fun h => ?_⟩
      induction h with
      | z => exact f0
      | s _ ha ih =>
        obtain ⟨j, hj⟩ := List.mem_iff_getElem?.mp ih
        exact fcl j _ _ (by rw [ht]; exact (List.getElem?_eq_some_iff.mp hj).1) hj ha

def spSum (K : PySem.W.Frag) : Sp := fun vs H Q _ => ∃ (p : Addr) (st : List (List Int)) (m : Int), vs = [.ref p, .int m] ∧ Tb K H p st ∧ GoodSt st m ∧ m ≤ 1000 ∧ st.length ≤ 1000 ∧ (¬ IsSum st m → ∀ H', Ext H H' → Q .non H') ∧
  (IsSum st m → ∀ q H' os, H q = none → Ext H H' → H' q = some (.lst (ntV os)) → Ords st m os → Q (.ref q) H')
theorem sc__law_sum : FnScope ["states", "letters", "come", "a", "b", "orders", "many", "state", "s"] ["states", "letters"] (defScope s__law_sum) := ⟨rfl, rfl, rfl, by decide +kernel, rfl, by decide +kernel, by decide +kernel⟩
theorem ok_law_sum (T : Txt w K mg) : CalG P w K mg base 2 "_law_sum" ["states", "letters"] (spSum K) := by
  have c__law_come := ok_law_come (P := P) (base := base) T
  refine calG_of T.g__law_sum T.d__law_sum sc__law_sum (fun _ _ _ _ _ _ _ us hl => match us, hl with | [_, _], _ => rfl) (fun vs H Q E h => by obtain ⟨_, _, _, rfl, _⟩ := h; rfl) (fun cdv A outer s H vs Q E hr h => ?_)
  have nd := sc__law_sum.nd
  have hu := hu64 hr
  obtain ⟨p, st, m, rfl, hp, g, m1, hsz, kn, k⟩ := h
  have m0 := g.1.1
  refine ⟨_, (pss_cons (ps_set (i := 2) nd rfl (Or.inl rfl) (pe_cal c__law_come hr (by omega) (fun σ => L2N.passAt (L2N.takes_of rfl rfl rfl rfl) σ) (pa_cons (pv 0) (pa_cons (pv 1) pa_nil))))
        (pss_cons (ps_for (passes_of rfl) rfl (pi_range1 (by rfl) T.f_range (pa_cons (pv 1) pa_nil)) (pg_name (i := 3) nd rfl (Or.inr rfl)) (pss_cons (ps_if (pt_cmpR op_lt (pe_lenSetN (K := K) T.f_len T.f_set (pe_lc (own := [("s", 8)]) rfl nd (piL (K := K) (pv 2)) (blkOk_by (N := ["states", "letters", "come", "a", "b", "orders", "many", "state", "s"]) (sc := defScope s__law_sum) (by decide +kernel)) (fun _ _ _ _ _ => (pg_name (i := 8) nd rfl (Or.inl rfl))) (fun _ _ _ _ _ => pts_nil) (fun _ _ _ _ _ => (pe_ix (ixK (K := K)) (pe_ix (ixK (K := K)) (pv 0) (pv 8) (fun _ _ => rfl)) (pv 3) (fun _ _ => rfl))))) (pe_callB (lenK (K := K)) (by rfl) T.f_len boot_len (pa_cons (pv 2) pa_nil)) (nomark _)) (pss_one (ps_ret pe_non)) pss_nil)
        (pss_one (ps_for (passes_of rfl) rfl (pi_range1 (by rfl) T.f_range (pa_cons (pv 3) pa_nil)) (pg_name (i := 4) nd rfl (Or.inr rfl)) (pss_one (ps_if (pt_val (pe_callB (anyK (K := K) rfl) (by rfl) T.f_any (by decide +kernel) (pa_cons (pe_lc (own := [("s", 8)]) rfl nd (piL (K := K) (pv 2)) (blkOk_by (N := ["states", "letters", "come", "a", "b", "orders", "many", "state", "s"]) (sc := defScope s__law_sum) (by decide +kernel)) (fun _ _ _ _ _ => (pg_name (i := 8) nd rfl (Or.inl rfl))) (fun _ _ _ _ _ => pts_nil) (fun _ _ _ _ _ => (pe_cmpR (otherK (K := K) hu) (pe_ix (ixK (K := K)) (pe_ix (ixK (K := K)) (pv 0) (pe_ix (ixK (K := K)) (pe_ix (ixK (K := K)) (pv 0) (pv 8) (fun _ _ => rfl)) (pv 3) (fun _ _ => rfl)) (fun _ _ => rfl)) (pv 4) (fun _ _ => rfl)) (pe_ix (ixK (K := K)) (pe_ix (ixK (K := K)) (pv 0) (pe_ix (ixK (K := K)) (pe_ix (ixK (K := K)) (pv 0) (pv 8) (fun _ _ => rfl)) (pv 4) (fun _ _ => rfl)) (fun _ _ => rfl)) (pv 3) (fun _ _ => rfl)) (nomark _)))) pa_nil))) (pss_one (ps_ret pe_non)) pss_nil))))))
        (pss_cons (ps_set (i := 5) nd rfl (Or.inl rfl) (pe_lst pa_nil))
        (pss_cons (ps_for (passes_of rfl) rfl (pi_range1 (by rfl) T.f_range (pa_cons (pv 1) pa_nil)) (pg_name (i := 3) nd rfl (Or.inr rfl)) (pss_cons (ps_set (i := 6) nd rfl (Or.inl rfl) pe_int)
        (pss_cons (ps_set (i := 7) nd rfl (Or.inl rfl) (pe_ix (ixK (K := K)) (pe_ix (ixK (K := K)) (pv 0) pe_int (fun _ _ => rfl)) (pv 3) (fun _ _ => rfl)))
        (C8.pss_cut (ps_while (passes_of rfl) (pt_cmpR (otherK (K := K) hu) (pv 7) pe_int (nomark _)) (pss_cons (ps_set (i := 7) nd rfl (Or.inl rfl) (pe_ix (ixK (K := K)) (pe_ix (ixK (K := K)) (pv 0) (pv 7) (fun _ _ => rfl)) (pv 3) (fun _ _ => rfl)))
        (pss_one (ps_set (i := 6) nd rfl (Or.inl rfl) (pe_op (plusK (K := K)) (pv 6) pe_int)))))
        (pss_one (ps_expr (peBM (K := K) (pe_bm PySem.F.plainAttrs_list PySem.F.slot_list_append PySem.F.type_list_append mt_append (pv 5) (pa_cons (pv 6) pa_nil)))))))))
        (pss_one (ps_ret (pv 5))))))), ?_⟩
  walk_at "st"
  refine ⟨p, st, m, rfl, hp, g, m1, hsz, fun cp H1 cs hcp e1 h1 C => ?_⟩
  have cre : ∀ c ∈ cs, Reach st m c := fun c hc => (C.mem c).mp hc
  have clen := come_len g C.nd cre
  have cat : ∀ i, i < cs.length → cs[i]? = some (cs.getD i 0) ∧ Reach st m (cs.getD i 0) := fun i hi => ⟨getD_at hi, cre _ (List.mem_of_getElem? (getD_at hi))⟩
  walk_at "st"
  refine forW_range (fun i σ' H' => ∃ v3 v4, σ' = [some (.ref p), some (.int m), some (.ref cp), v3, v4, none, none, none, none] ∧ Ext H1 H' ∧ ∀ a : Nat, a < i → SumAt st m a) ⟨none, none, rfl, .rfl, fun a ha => absurd ha (Nat.not_lt_zero _)⟩ ?_ ?_
  · rintro i σ' H2 hi ⟨v3, v4, rfl, e2, hall⟩
    have hi' : (i : Int) < m := by omega
    have h2 := e2 _ _ h1
    walk_at "st"
    rw [Int.zero_add]
    refine r_li (sqL h2) ?_
    intro D hD
    refine lcW_list (LcP H2 D fun j => .int (stp st (cs.getD j 0) i : Nat)) (.start hD) (fun j H' _ q => q.e.l (sqL h2)) (fun j x H3 hx q => ?_) (fun H3 q3 => ?_)
    · obtain ⟨c, hc, rfl⟩ := ntV_get hx
      have hj := (List.getElem?_eq_some_iff.mp hc).1
      have ec : c = cs.getD j 0 := by have := getD_at hj; rw [hc] at this; exact Option.some.inj this
      obtain ⟨xs, row, b, q1, q2, q3, q4⟩ := tb_at (hp.ext ((e1.trans e2).trans q.e)) g ((cre c (List.mem_of_getElem? hc)).lt g)
      walk_at "st"
      refine r_lcW rfl ?_
      walk_at "st"
      refine r_atL q1 (atI_nat q2) ?_
      walk_at "st"
      refine r_atA q3 (atI_nat (q4 i hi')) ?_
      exact q.push hD (by omega) .rfl (by rw [ec])
    rw [ntV_len] at q3
    have hd := q3.d
    rw [range_nt] at hd
    refine r_lenSetL (sqL hd) (by rw [List.length_map, List.length_map, List.length_range]; omega) ?_
    walk_at "st"
    refine r_lenL (sqL (q3.e _ _ h2)) (n := cs.length) (by rw [ntV_len]) ?_
    walk_at "st"
    have e3 := e2.trans q3.e
    refine ite_d (fun c => ?_) (fun c => ?_)
    · walk_at "st"
      refine kn (fun S => ?_) _ (e1.trans e3)
      have S := S i hi'
      have := (once_lt (ns := ((List.range cs.length).map fun j => stp st (cs.getD j 0) i).map fun (c : Nat) => (c : Int))).mp (by rw [List.length_map, List.length_map, List.length_range]; omega)
      refine this (Lay.nd_map (fun x _ y _ e => by have e : (x : Int) = y := e; omega) (Lay.nd_map (fun x hx y hy e => ?_) List.nodup_range))
      rw [List.mem_range] at hx hy
      have := S.inj _ _ (cat x hx).2 (cat y hy).2 e
      exact nodup_at C.nd (cat x hx).1 (by rw [this]; exact (cat y hy).1)
    have ndm : ((List.range cs.length).map fun j => stp st (cs.getD j 0) i).Nodup := by
      refine Classical.byContradiction fun hn => c ?_
      have := (once_lt (ns := ((List.range cs.length).map fun j => stp st (cs.getD j 0) i).map fun (c : Nat) => (c : Int))).mpr (fun z => hn (by
        rw [List.Nodup, List.pairwise_map] at z
        exact z.imp fun n e => n (by rw [e])))
      rw [List.length_map, List.length_map, List.length_range] at this
      omega
    have inj : ∀ c c', Reach st m c → Reach st m c' → stp st c i = stp st c' i → c = c' := fun c c' hc hc' e => by
      obtain ⟨x, hx⟩ := List.mem_iff_getElem?.mp ((C.mem c).mpr hc)
      obtain ⟨y, hy⟩ := List.mem_iff_getElem?.mp ((C.mem c').mpr hc')
      have lx := (List.getElem?_eq_some_iff.mp hx).1
      have ly := (List.getElem?_eq_some_iff.mp hy).1
      have ex : cs.getD x 0 = c := by have := getD_at lx; rw [hx] at this; exact (Option.some.inj this).symm
      have ey : cs.getD y 0 = c' := by have := getD_at ly; rw [hy] at this; exact (Option.some.inj this).symm
      have := nodup_at ndm (i := x) (j := y) (a := stp st c i) (by rw [List.getElem?_map, List.getElem?_range lx, Option.map_some, ex]) (by rw [List.getElem?_map, List.getElem?_range ly, Option.map_some, ey, e])
      rw [← ex, ← ey, this]
    walk_at "st"
    refine forW_range (fun j σ' H' => ∃ v4, σ' = [some (.ref p), some (.int m), some (.ref cp), some (.int (i : Nat)), v4, none, none, none, none] ∧ Ext H1 H' ∧ ∀ b : Nat, b < j → ∀ c, Reach st m c → stp st (stp st c i) b = stp st (stp st c b) i) ⟨v4, rfl, e3, fun a ha => absurd ha (Nat.not_lt_zero _)⟩ ?_ ?_
    · rintro j σ' H4 hj ⟨v4, rfl, e4, hall4⟩
      have hj' : (j : Int) < m := by omega
      have h4 := e4 _ _ h1
      walk_at "st"
      rw [Int.zero_add]
      refine r_li (sqL h4) ?_
      intro D hD
      refine lcW_list (LcP H4 D fun t => .bl (!decide (V.int ((stp st (stp st (cs.getD t 0) i) j : Nat) : Int) = V.int ((stp st (stp st (cs.getD t 0) j) i : Nat) : Int)))) (.start hD) (fun j H' _ q => q.e.l (sqL h4)) (fun t x H5 hx q => ?_) (fun H5 q5 => ?_)
      · obtain ⟨c, hc, rfl⟩ := ntV_get hx
        have ht := (List.getElem?_eq_some_iff.mp hc).1
        have ec : c = cs.getD t 0 := by have := getD_at ht; rw [hc] at this; exact Option.some.inj this
        have rc := cre c (List.mem_of_getElem? hc)
        have hp5 := hp.ext ((e1.trans e4).trans q.e)
        obtain ⟨xs, row, b, q1, q2, q3, q4⟩ := tb_at hp5 g (rc.lt g)
        obtain ⟨xs', row', b', q1', q2', q3', q4'⟩ := tb_at hp5 g (stp_lt g (rc.lt g) hi')
        obtain ⟨xs2, row2, b2, q12, q22, q32, q42⟩ := tb_at hp5 g (stp_lt g (rc.lt g) hj')
        walk_at "st"
        refine r_lcW rfl ?_
        walk_at "st"
        refine r_atL q1 (atI_nat q2) ?_
        walk_at "st"
        refine r_atA q3 (atI_nat (q4 i hi')) ?_
        refine r_atL q1' (atI_nat q2') ?_
        walk_at "st"
        refine r_atA q3' (atI_nat (q4' j hj')) ?_
        walk_at "st"
        refine r_atL q1 (atI_nat q2) ?_
        walk_at "st"
        refine r_atA q3 (atI_nat (q4 j hj')) ?_
        refine r_atL q12 (atI_nat q22) ?_
        walk_at "st"
        refine r_atA q32 (atI_nat (q42 i hi')) ?_
        walk_at "st"
        exact q.push hD (by omega) .rfl (by rw [ec])
      rw [ntV_len] at q5
      have hd := q5.d
      rw [range_bl] at hd
      walk_at "st"
      refine r_any (sqL hd) ?_
      walk_at "st"
      have e5 := e4.trans q5.e
      cases hb : ((List.range cs.length).map fun t => !decide (V.int ((stp st (stp st (cs.getD t 0) i) j : Nat) : Int) = V.int ((stp st (stp st (cs.getD t 0) j) i : Nat) : Int))).any id with
      | true =>
        walk_at "st"
        refine kn (fun S => ?_) _ (e1.trans e5)
        have S := S i hi'
        obtain ⟨y, hy, ey⟩ := List.any_eq_true.mp hb
        obtain ⟨t, ht, rfl⟩ := List.mem_map.mp hy
        rw [List.mem_range] at ht
        rw [S.com j (by omega) _ (cat t ht).2] at ey
        simp at ey
      | false =>
        walk_at "st"
        refine ⟨_, rfl, e5, fun b hb' c hc => ?_⟩
        by_cases cb : b < j
        · exact hall4 b cb c hc
        · have : b = j := by omega
          subst this
          obtain ⟨x, hx⟩ := List.mem_iff_getElem?.mp ((C.mem c).mpr hc)
          have lx := (List.getElem?_eq_some_iff.mp hx).1
          have ex : cs.getD x 0 = c := by have := getD_at lx; rw [hx] at this; exact (Option.some.inj this).symm
          have := List.any_eq_false.mp hb _ (List.mem_map.mpr ⟨x, List.mem_range.mpr lx, rfl⟩)
          rw [ex] at this
          simp at this
          omega
    · rintro σ' H4 ⟨v4, rfl, e4, hall4⟩
      refine ⟨_, v4, rfl, e4, fun a ha => ?_⟩
      by_cases ca : a < i
      · exact hall a ca
      · have : a = i := by omega
        subst this
        exact ⟨inj, fun b hb c hc => hall4 b (by omega) c hc⟩
  rintro σ' H2 ⟨v3, v4, rfl, e2, hall⟩
  have S : IsSum st m := fun a ha => hall a (by omega)
  walk_at "st"
  intro o H3 ho e3 h3
  have ho0 : H o = none := (e1.trans e2).none ho
  have e03 := (e1.trans e2).trans e3
  walk_at "st"
  refine forW_range (fun i σ' H' => ∃ (v3 v6 v7 : Option V) (os : List Nat), σ' = [some (.ref p), some (.int m), some (.ref cp), v3, v4, some (.ref o), v6, v7, none] ∧ Ext H H' ∧ H' o = some (.lst (ntV os)) ∧ os.length = i ∧ ∀ a : Nat, a < os.length → IsOrd (stF st a) (os.getD a 0)) ⟨_, none, none, [], rfl, e03, h3, rfl, fun a ha => absurd ha (Nat.not_lt_zero _)⟩ ?_ ?_
  · rintro i σ' H4 hi ⟨v3, v6, v7, os, rfl, e4, h4, hl, hord⟩
    have hi' : (i : Int) < m := by omega
    obtain ⟨xs, row, b, q1, q2, q3, q4⟩ := tb_at (hp.ext e4) g (good_pos g)
    walk_at "st"
    rw [Int.zero_add]
    refine r_atL q1 (atI_nat q2) ?_
    walk_at "st"
    refine r_atA q3 (atI_nat (q4 i hi')) ?_
    refine r_cut (fun σ' H' => ∃ (t : Nat), σ' = [some (.ref p), some (.int m), some (.ref cp), some (.int (i : Nat)), v4, some (.ref o), some (.int (t : Nat)), some (.int 0), none] ∧ H4 = H' ∧ IsOrd (stF st i) t) ?_ ?_
    · refine whileW (fun μ σ' H' => ∃ (t : Nat), μ = st.length + 1 - t ∧ σ' = [some (.ref p), some (.int m), some (.ref cp), some (.int (i : Nat)), v4, some (.ref o), some (.int (t : Nat)), some (.int (itF (stF st i) t 0 : Nat)), none] ∧ H4 = H' ∧ 1 ≤ t ∧ ∀ j, 1 ≤ j → j < t → itF (stF st i) j 0 ≠ 0) (st.length + 1 - 1) ⟨1, rfl, rfl, rfl, Nat.le_refl _, fun j h1 h2 => by omega⟩ ?_
      rintro μ σ' H5 ⟨t, rfl, rfl, rfl, ht, hn⟩
      walk_at "st"
      refine ite_n (fun c => r_N ?_) (fun c => ?_)
      · have c' : itF (stF st i) t 0 ≠ 0 := fun e => c (by rw [e]; rfl)
        have hlt := it_small g hi' (S i hi') (t := t) (fun j h1 h2 => by
          by_cases cj : j = t
          · rw [cj]; exact c'
          · exact hn j h1 (by omega))
        obtain ⟨xs', row', b', q1', q2', q3', q4'⟩ := tb_at (hp.ext e4) g ((reach_it hi' .z t).lt g)
        walk_at "st"
        refine r_atL q1' (atI_nat q2') ?_
        walk_at "st"
        refine r_atA q3' (atI_nat (q4' i hi')) ?_
        walk_at "st"
        refine ⟨st.length + 1 - (t + 1), by omega, t + 1, rfl, rfl, rfl, by omega, fun j h1 h2 => ?_⟩
        by_cases cj : j = t
        · rw [cj]; exact c'
        · exact hn j h1 (by omega)
      · have c' : itF (stF st i) t 0 = 0 := by have := V.int.inj c; omega
        refine ⟨t, by rw [c']; rfl, rfl, ht, c', hn⟩
    rintro σ' H5 ⟨t, rfl, rfl, O⟩
    walk_at "st"
    refine ⟨.inl ⟨rfl, _, sqL h4⟩, ?_⟩
    walk_at "st"
    refine r_app h4 (by rw [ntV_len]; omega) (fun H6 h6 n6 => ?_)
    refine ⟨_, _, _, os ++ [t], rfl, mut_ext e4 ho0 n6, ?_, by rw [List.length_append, hl]; rfl, fun a ha => ?_⟩
    · rw [h6]; unfold ntV; rw [List.map_append, List.map_append]; rfl
    · rw [List.length_append] at ha
      have ha : a < os.length + 1 := ha
      by_cases ca : a < os.length
      · rw [List.getD_eq_getElem?_getD, List.getElem?_append_left ca, ← List.getD_eq_getElem?_getD]
        exact hord a ca
      · have : a = os.length := by omega
        rw [this, List.getD_eq_getElem?_getD, List.getElem?_append_right (Nat.le_refl _), Nat.sub_self]
        rw [hl]
        exact O
  · rintro σ' H4 ⟨v3, v6, v7, os, rfl, e4, h4, hl, hord⟩
    walk_at "st"
    exact k S o H4 os ho0 e4 h4 ⟨by omega, hord⟩

/-! ### drawn checks -/
theorem tb_of {S : Addr → Prop} {H : Hp} {t : Addr} {st : List (List Int)} (h : Nw S H (.ref t) (tbD st)) : Tb K H t st := by
  have d := h.dp (K := K) (tbD st)
  unfold tbD at d
  cases d with
  | lst h hs =>
    exact ⟨_, _, h, hs, by rw [List.length_map], fun i d e => by
      rw [List.getElem?_map] at e
      obtain ⟨row, hr, rfl⟩ := Option.map_eq_some_iff.mp e
      exact ⟨row, hr, .inl rfl⟩⟩

/-- rows made so far, at D -/
structure RowsP (p : Addr) (H1 : Hp) (D : Addr) (many : Int) (ls : Nat) (i : Nat) (H' : Hp) : Prop where
  s : Src H' p
  b : But p H1 H'
  ex : ∃ (as : List Addr) (st : List (List Int)), H' D = some (.lst (as.map V.ref)) ∧ as.length = i ∧ st.length = i ∧ (∀ row ∈ st, row.length = ls ∧ ∀ z ∈ row, 0 ≤ z ∧ z < many) ∧ ∀ (j : Nat) (row : List Int), st[j]? = some row → ∃ a, as[j]? = some a ∧ a ≠ p ∧ H1 a = none ∧ a ≠ D ∧ H' a = some (.lst (row.map V.int))
theorem RowsP.start {p : Addr} {H1 : Hp} {D : Addr} {many : Int} {ls : Nat} (s : Src H1 p) (hD : H1 D = none) : RowsP p H1 D many ls 0 (upd H1 D (.lst [])) :=
  ⟨s.ext (.new hD), ext_but (.new hD), ⟨[], [], upd_same, rfl, rfl, fun r h => absurd h List.not_mem_nil, fun j r h => by simp at h⟩⟩
theorem RowsP.push {p : Addr} {H1 H2 H3 : Hp} {D : Addr} {many : Int} {ls i : Nat} {row : List Int} {a : Addr} (h : RowsP p H1 D many ls i H2) (hD : H1 D = none) (hp : H1 p ≠ none) (hi : i < 1000) (s3 : Src H3 p) (b3 : But p H2 H3) (ha : H2 a = none) (ap : a ≠ p) (h3 : H3 a = some (.lst (row.map V.int))) (hl : row.length = ls) (hz : ∀ z ∈ row, 0 ≤ z ∧ z < many) :
    ∃ acc, H3 D = some (.lst acc) ∧ acc.length < sizeLine ∧ RowsP p H1 D many ls (i + 1) (upd H3 D (.lst (acc ++ [.ref a]))) := by
  obtain ⟨s, b, as, st, hD2, la, ls', hr, hrow⟩ := h
  have pD : p ≠ D := fun e => hp (by rw [e]; exact hD)
  have aD : a ≠ D := fun e => by rw [e, hD2] at ha; cases ha
  have nq : ∀ q, q ≠ D → upd H3 D (.lst (as.map V.ref ++ [.ref a])) q = H3 q := fun q hq => upd_ne hq
  refine ⟨_, b3 _ _ pD.symm hD2, by rw [List.length_map, la, sizeLine_eq]; omega, ?_, ?_, as ++ [a], st ++ [row], by rw [upd_same, List.map_append]; rfl, by rw [List.length_append, la]; rfl, by rw [List.length_append, ls']; rfl, fun r hr' => ?_, fun j r hj => ?_⟩
  · obtain ⟨x, y, z, e⟩ := s3
    exact ⟨x, y, z, by rw [nq _ pD]; exact e⟩
  · exact (b.trans b3).mut hD nq
  · rcases List.mem_append.mp hr' with h | h
    · exact hr r h
    · rw [List.mem_singleton.mp h]; exact ⟨hl, hz⟩
  · by_cases c : j < st.length
    · rw [List.getElem?_append_left c] at hj
      obtain ⟨x, e1, e2, e3, e4, e5⟩ := hrow j r hj
      exact ⟨x, by rw [List.getElem?_append_left (by omega)]; exact e1, e2, e3, e4, by rw [nq _ e4]; exact b3 _ _ e2 e5⟩
    · have hlt := (List.getElem?_eq_some_iff.mp hj).1
      rw [List.length_append] at hlt
      have hlt : j < st.length + 1 := hlt
      rw [List.getElem?_append_right (by omega), show j - st.length = 0 by omega] at hj
      cases hj
      refine ⟨a, by rw [List.getElem?_append_right (by omega), show j - as.length = 0 by omega]; rfl, ap, ?_, aD, by rw [nq _ aD]; exact h3⟩
      cases q : H1 a with
      | none => rfl
      | some o => rw [b _ _ ap q] at ha; cases ha
theorem RowsP.tb {p : Addr} {H1 H2 : Hp} {D : Addr} {many : Int} {ls : Nat} (h : RowsP p H1 D many ls many.toNat H2) (hD : H1 D = none) (hp : H1 p ≠ none) (hm : 1 ≤ many) (hl : 1 ≤ ls) : ∃ st, Nw (fun a => a ≠ p ∧ H1 a = none) H2 (.ref D) (tbD st) ∧ GoodSt st ls ∧ (st.length : Int) = many := by
  obtain ⟨s, b, as, st, hD2, la, ls', hr, hrow⟩ := h
  have pD : p ≠ D := fun e => hp (by rw [e]; exact hD)
  refine ⟨st, Grid.nw (as := as) ⟨⟨pD.symm, hD⟩, hD2, by rw [la, ls'], fun j r hj => ?_⟩, ⟨⟨by omega, fun r h => by rw [(hr r h).1]⟩, fun e => ?_, fun r h z hz => ?_⟩, by omega⟩
  · obtain ⟨x, e1, e2, e3, e4, e5⟩ := hrow j r hj
    exact ⟨x, e1, ⟨e2, e3⟩, e5⟩
  · rw [e] at ls'
    have : (0 : Nat) = many.toNat := ls'
    omega
  · have := (hr r h).2 z hz
    omega
/-- ints drawn so far -/
structure DrP (p : Addr) (H1 : Hp) (D : Addr) (Z : Int → Prop) (i : Nat) (H' : Hp) : Prop where
  s : Src H' p
  b : But p H1 H'
  ex : ∃ (ns : List Int), H' D = some (.lst (ns.map V.int)) ∧ ns.length = i ∧ ∀ z ∈ ns, Z z
theorem DrP.start {p : Addr} {H1 : Hp} {D : Addr} {Z : Int → Prop} (s : Src H1 p) (hD : H1 D = none) : DrP p H1 D Z 0 (upd H1 D (.lst [])) := by
  refine ⟨?_, ext_but (.new hD), [], upd_same, rfl, fun z h => by cases h⟩
  obtain ⟨x, y, z, e⟩ := s
  exact ⟨x, y, z, by rw [upd_ne (ne_of_none e hD)]; exact e⟩
theorem DrP.push {p : Addr} {H1 H2 H3 : Hp} {D : Addr} {Z : Int → Prop} {i : Nat} {r : Int} (h : DrP p H1 D Z i H2) (hD : H1 D = none) (hp : H1 p ≠ none) (hi : i < 1000) (s3 : Src H3 p) (n3 : ∀ b, b ≠ p → H3 b = H2 b) (hr : Z r) :
    ∃ acc, H3 D = some (.lst acc) ∧ acc.length < sizeLine ∧ DrP p H1 D Z (i + 1) (upd H3 D (.lst (acc ++ [.int r]))) := by
  obtain ⟨s, b, ns, hD2, la, hz⟩ := h
  have pD : p ≠ D := fun e => hp (by rw [e]; exact hD)
  refine ⟨_, (n3 _ pD.symm).trans hD2, by rw [List.length_map, la, sizeLine_eq]; omega, ?_, (b.trans (.of n3)).mut hD fun q hq => upd_ne hq, ns ++ [r], by rw [upd_same, List.map_append]; rfl, by rw [List.length_append, la]; rfl, fun z hz' => ?_⟩
  · obtain ⟨x, y, z, e⟩ := s3
    exact ⟨x, y, z, by rw [upd_ne pD]; exact e⟩
  · rcases List.mem_append.mp hz' with h | h
    · exact hz z h
    · rw [List.mem_singleton.mp h]; exact hr

end
end K29
set_option maxRecDepth 100000
set_option maxHeartbeats 4000000
namespace K29
open PySem PySem.Spec PyProof.Rows L2 L3
local macro_rules | `(tactic| walk_at "s1") => `(tactic| first
  | with_reducible refine r_seq ?_
  | with_reducible refine r_asgN ?_
  | with_reducible refine r_ret ?_
  | with_reducible refine r_next ?_
  | ((with_reducible refine' r_var ?hv ?_); (case hv => exact rfl))
  | with_reducible refine r_c ?_
  | with_reducible refine r_op ?_
  | with_reducible refine r_cons ?_
  | with_reducible refine r_nil ?_
  | with_reducible refine r_plusI ?_
  | with_reducible refine r_I0 ?_
  | with_reducible refine r_test ?_
  | with_reducible refine r_bl ?_
  | with_reducible refine r_ifS ?_
  | with_reducible refine r_cb ?_
  | with_reducible refine r_callS ?_
  | with_reducible refine r_and ?_
  | with_reducible refine r_or ?_
  | with_reducible refine r_not ?_
  | with_reducible refine r_B ?_
  | ((with_reducible refine' r_aug ?hv ?_); (case hv => exact rfl))
  | with_reducible refine r_augS ?_
  | with_reducible refine r_ipI ?_
  | with_reducible refine r_asg ?_
  | with_reducible refine r_sub ?_
  | with_reducible refine r_brk ?_
  | with_reducible refine r_isN1 ?_
  | with_reducible refine r_notN1 ?_
  | with_reducible refine r_intI ?_
  | with_reducible refine r_abs ?_
  | with_reducible refine r_min ?_
  | with_reducible refine r_max ?_
  | ((with_reducible refine' r_mod ?hz ?_); (case hz => omega))
  | ((with_reducible refine' r_pow ?hz ?_); (case hz => exact ⟨by decide, by decide, by decide⟩))
  | ((with_reducible refine' r_rg1 ?hz ?_); (case hz => omega))
  | ((with_reducible refine' r_rg2 ?hz ?_); (case hz => omega))
  | ((with_reducible refine' r_newL ?hz ?_); (case hz => exact Nat.le_of_ble_eq_true rfl))
  | ((with_reducible refine' r_newT ?hz ?_); (case hz => exact Nat.le_of_ble_eq_true rfl))
  | with_reducible refine r_for ?_
  | with_reducible refine r_lc ?_
  | with_reducible refine r_iR1 ?_
  | with_reducible refine r_iR2 ?_
  | with_reducible refine r_iL ?_
  | with_reducible refine r_iT ?_
  | with_reducible refine r_gname ?_
  | with_reducible refine r_gcons ?_
  | with_reducible refine r_gnil ?_
  | with_reducible refine r_yes ?_
  | with_reducible refine r_mkO ?_
  | with_reducible refine r_cont ?_
  | with_reducible refine r_drop ?_
  | with_reducible refine r_retN ?_
  | with_reducible refine r_ifC ?_
  | with_reducible refine r_ifI ?_
  | with_reducible refine r_if ?_
  | with_reducible refine r_un ?_
  | with_reducible refine r_neg ?_
  | with_reducible refine r_andV ?_
  | with_reducible refine r_orV ?_
  | with_reducible refine r_notV ?_
  | with_reducible refine r_tup ?_
  | with_reducible refine r_lst ?_
  | with_reducible refine r_bm ?_
  | with_reducible refine r_bm0 ?_
  | with_reducible refine r_sl ?_
  | with_reducible refine r_chain ?_
  | with_reducible refine r_listDn ?_
  | with_reducible refine r_listRg2 ?_
  | with_reducible refine r_revL ?_
  | with_reducible refine r_noPart ?_
  | with_reducible refine r_dgt ?_
  | with_reducible refine r_din ?_
  | with_reducible refine r_dnin ?_
  | with_reducible refine r_dput ?_
  | with_reducible refine r_dnew ?_
  | with_reducible refine r_disp1 ?_
  | with_reducible refine r_lenSet ?_
  | with_reducible refine r_part ?_
  | with_reducible refine r_int ?_
  | ((with_reducible refine' r_sameS ?hs ?_); (case hs => exact rfl))
  | ((with_reducible refine' r_otherS ?hs ?_); (case hs => exact rfl))
  | with_reducible refine ite_t ?_
  | with_reducible refine ite_f ?_
  | with_reducible refine ite_nt ?_
  | with_reducible refine ite_nf ?_)
local macro_rules | `(tactic| walk_at "st") => `(tactic| repeat (walk_at "s1"))

section
variable {P : Program} {w : World} {K : PySem.W.Frag} {mg : Str → Option Value} {base : Heap}
/-! ### asked -/
def TellE (Q : VK) (H : Hp) (c what : Str) : Prop := ∀ q H', Ext H H' → H' q = some (.tup [.str c, .str what]) → Q (.ref q) H'
structure Ask29 (Q : VK) (H : Hp) (st : List (List Int)) (m : Int) : Prop where
  b1 : 8 < m → TellE Q H "TooMany" "letters"
  b2 : m ≤ 8 → 12 < st.length → TellE Q H "TooMany" "states"
  b3 : m ≤ 8 → st.length ≤ 12 → ∀ what, BadSt st m what → TellE Q H "BadCheck" what
  g : m ≤ 8 → st.length ≤ 12 → GoodSt st m → ∀ q a H', Ext H H' → H' q = some (.tup [.str "told", .ref a]) → ((IsSum st m ∧ SumT st m H H' a) ∨ ∃ kind first i second j letter, Shown st m kind first i second j letter ∧ Parts kind first i second j letter H H' a) → Q (.ref q) H'
def spAsk (K : PySem.W.Frag) : Sp := fun vs H Q _ => ∃ (p : Addr) (st : List (List Int)) (m : Int), vs = [.ref p, .int m] ∧ Tb K H p st ∧ Ask29 Q H st m
theorem SumT.ext {st : List (List Int)} {m : Int} {H H1 H2 : Hp} {q : Addr} (h : SumT st m H H1 q) (e : Ext H1 H2) : SumT st m H H2 q := by
  obtain ⟨cq, oq, cs, os, h1, h2, h3, h4, h5, h6⟩ := h
  exact ⟨cq, oq, cs, os, e _ _ h1, h2, h3, e _ _ h4, e _ _ h5, h6⟩
theorem Parts.ext {kind : Str} {first : List Int} {i : Nat} {second : List Int} {j letter : Nat} {H H1 H2 : Hp} {q : Addr} (h : Parts kind first i second j letter H H1 q) (e : Ext H1 H2) : Parts kind first i second j letter H H2 q := by
  obtain ⟨r1, r2, h1, h2, h3, h4, h5⟩ := h
  exact ⟨r1, r2, h1, h2, e _ _ h3, e _ _ h4, e _ _ h5⟩
theorem sc__law_f_asked : FnScope ["states", "letters", "error"] ["states", "letters"] (defScope s__law_f_asked) := ⟨rfl, rfl, rfl, by decide +kernel, rfl, by decide +kernel, by decide +kernel⟩
theorem ok_law_f_asked (T : Txt w K mg) : CalG P w K mg base 9 "_law_f_asked" ["states", "letters"] (spAsk K) := by
  have c_fault : FaultG P w K mg base faultL := ok_fault T
  have c_check_group := ok_check_group (P := P) (base := base) T
  refine calG_of T.g__law_f_asked T.d__law_f_asked sc__law_f_asked (fun _ _ _ _ _ _ _ us hl => match us, hl with | [_, _], _ => rfl) (fun vs H Q E h => by obtain ⟨_, _, _, rfl, _⟩ := h; rfl) (fun cdv A outer s H vs Q E hr h => ?_)
  have nd := sc__law_f_asked.nd
  have hu := hu64 hr
  obtain ⟨p, st, m, rfl, hp, k⟩ := h
  refine ⟨_, (pss_one (ps_tryZ (i := 2) (ts := fun a cls d => tRet (tCallS (spFlts K faultL a cls d) (WE fun _ _ _ _ => False) (tCons (tVar 2) tNil))) rfl rfl nd rfl rfl ⟨rfl, by decide, Or.inl T.g_OutsideError⟩ (L2N.takes_of rfl rfl rfl rfl) (fun W z => (pss_one (ps_ret (pe_tup (pa_cons pe_str (pa_cons (pe_cal c_check_group hr (by omega) (fun σ => L2N.passAt z.tk σ) (pa_cons (pv 0) (pa_cons (pv 1) pa_nil))) pa_nil)))))) (fun a oe cls d pn hz hf => (pss_one (ps_ret (pe_fault c_fault (L2H.roomH_mark (hr.mono (by omega)) _) hz (hotOf hz hf) (List.mem_cons_self) (pv 2))))))), ?_⟩
  have inl1 : (("TooMany" : Str), (["what"] : List Str)) ∈ faultL := by simp [faultL]
  have inl2 : (("BadCheck" : Str), (["what"] : List Str)) ∈ faultL := by simp [faultL]
  have ex1 := T.kits.exm "TooMany" (by simp [errs])
  have ex2 := T.kits.exm "BadCheck" (by simp [errs])
  intro z
  walk_at "st"
  refine ⟨p, st, m, rfl, hp, ⟨fun c => ?_, fun c1 c => ?_, fun c1 c2 what hb => ?_⟩, fun m8 l12 g => ⟨fun S a H1 e1 ST => ?_, fun a H1 kind first i second j letter e1 SH PT => ?_⟩⟩
  · refine bad_tell ex1 inl1 (Nat.le_of_ble_eq_true rfl) ?_
    exact k.b1 c
  · refine bad_tell ex1 inl1 (Nat.le_of_ble_eq_true rfl) ?_
    exact k.b2 c1 c
  · refine bad_tell ex2 inl2 (Nat.le_of_ble_eq_true rfl) ?_
    exact k.b3 c1 c2 what hb
  · walk_at "st"
    intro q H2 hq e2 h2
    exact k.g m8 l12 g q a H2 (e1.trans e2) h2 (.inl ⟨S, ST.ext e2⟩)
  · walk_at "st"
    intro q H2 hq e2 h2
    exact k.g m8 l12 g q a H2 (e1.trans e2) h2 (.inr ⟨kind, first, i, second, j, letter, SH, PT.ext e2⟩)
/-! ### what is shown -/
def spLet (K : PySem.W.Frag) : Sp := fun vs H Q _ => ∃ (r : Addr) (m : Int) (ns : List Int), vs = [.ref r, .int m] ∧ H r = some (.lst (ns.map V.int)) ∧ ns.length ≤ 10000 ∧ (∀ l ∈ ns, 0 ≤ l ∧ l < m) ∧ ∀ H', Ext H H' → Q (.bl true) H'
theorem sc__law_f_letters : FnScope ["row", "letters", "one"] ["row", "letters"] (defScope s__law_f_letters) := ⟨rfl, rfl, rfl, by decide +kernel, rfl, by decide +kernel, by decide +kernel⟩
theorem ok_law_f_letters (T : Txt w K mg) : CalG P w K mg base 1 "_law_f_letters" ["row", "letters"] (spLet K) := by
  refine calG_of T.g__law_f_letters T.d__law_f_letters sc__law_f_letters (fun _ _ _ _ _ _ _ us hl => match us, hl with | [_, _], _ => rfl) (fun vs H Q E h => by obtain ⟨_, _, _, rfl, _⟩ := h; rfl) (fun cdv A outer s H vs Q E hr h => ?_)
  have nd := sc__law_f_letters.nd
  have hu := hu64 hr
  obtain ⟨r, m, ns, rfl, hr', hl, hall, k⟩ := h
  refine ⟨_, (pss_one (ps_ret (pe_and (pe_callB (isiK (K := K)) (by rfl) T.f_isinstance (by decide +kernel) (pa_cons (pv 0) (pa_cons (pe_ty T.f_list) pa_nil))) (pe_one (pe_callB (allK (K := K) rfl) (by rfl) T.f_all (by decide +kernel) (pa_cons (pe_lc (own := [("one", 2)]) rfl nd (piL (K := K) (pv 0)) (blkOk_by (N := ["row", "letters", "one"]) (sc := defScope s__law_f_letters) (by decide +kernel)) (fun _ _ _ _ _ => (pg_name (i := 2) nd rfl (Or.inl rfl))) (fun _ _ _ _ _ => pts_nil) (fun _ _ _ _ _ => (pe_and (pe_callB (isiK (K := K)) (by rfl) T.f_isinstance (by decide +kernel) (pa_cons (pv 2) (pa_cons (pe_ty T.f_int) pa_nil))) (pe_and (pe_not (pe_callB (isiK (K := K)) (by rfl) T.f_isinstance (by decide +kernel) (pa_cons (pv 2) (pa_cons (pe_ty T.f_bool) pa_nil)))) (pe_one (pe_chain op_le op_lt pe_int (pv 2) (pv 1))))))) pa_nil)))))), ?_⟩
  walk_at "st"
  refine r_isi (b := "list") (d := .list (ns.map PyData.int)) (.lst (sqL hr') (dps_ints ns)) (by simp) ?_
  rw [show isB (tyD (.list (ns.map PyData.int))) "list" = true by simp [isB, tyD]]
  walk_at "st"
  refine r_li (sqL hr') ?_
  intro D hD
  refine lcW_list (LcP H D fun _ => .bl true) (.start hD) (fun i H' _ q => q.e.l (sqL hr')) (fun i x H1 hx q => ?_) (fun H1 q => ?_)
  · obtain ⟨hi, rfl⟩ := ints_get hx
    have ei : ns[i]? = some (ns.getD i 0) := by rw [List.getD_eq_getElem?_getD, List.getElem?_eq_getElem hi]; rfl
    obtain ⟨a1, a2⟩ := hall _ (List.mem_of_getElem? ei)
    walk_at "st"
    refine r_lcW rfl ?_
    walk_at "st"
    refine r_isi (.int (ns.getD i 0)) (by simp) ?_
    rw [show isB (tyD (.int (ns.getD i 0))) "int" = true by simp [isB, tyD]]
    walk_at "st"
    refine r_isi (.int (ns.getD i 0)) (by simp) ?_
    rw [show isB (tyD (.int (ns.getD i 0))) "bool" = false by simp [isB, tyD]]
    walk_at "st"
    refine ite_d (fun _ => ?_) (fun c => absurd a1 c)
    walk_at "st"
    rw [decide_eq_true a2]
    exact q.push hD (by omega) .rfl rfl
  have hd := q.d
  rw [List.length_map, map_bl] at hd
  walk_at "st"
  refine r_all (sqL hd) ?_
  rw [bools_all]
  exact k H1 q.e
def spAt (K : PySem.W.Frag) : Sp := fun vs H Q _ => ∃ (r : Addr) (i more : Int) (xs : List V), vs = [.ref r, .int i, .int more] ∧ SqL K H r xs ∧ 0 ≤ i ∧ i < xs.length + more ∧ Q (.bl true) H
theorem sc__law_f_at : FnScope ["row", "place", "more"] ["row", "place", "more"] (defScope s__law_f_at) := ⟨rfl, rfl, rfl, by decide +kernel, rfl, by decide +kernel, by decide +kernel⟩
theorem ok_law_f_at (T : Txt w K mg) : CalG P w K mg base 1 "_law_f_at" ["row", "place", "more"] (spAt K) := by
  refine calG_of T.g__law_f_at T.d__law_f_at sc__law_f_at (fun _ _ _ _ _ _ _ us hl => match us, hl with | [_, _, _], _ => rfl) (fun vs H Q E h => by obtain ⟨_, _, _, _, rfl, _⟩ := h; rfl) (fun cdv A outer s H vs Q E hr h => ?_)
  have nd := sc__law_f_at.nd
  have hu := hu64 hr
  obtain ⟨r, i, more, xs, rfl, hr', i0, i1, k⟩ := h
  refine ⟨_, (pss_one (ps_ret (pe_and (pe_callB (isiK (K := K)) (by rfl) T.f_isinstance (by decide +kernel) (pa_cons (pv 1) (pa_cons (pe_ty T.f_int) pa_nil))) (pe_and (pe_not (pe_callB (isiK (K := K)) (by rfl) T.f_isinstance (by decide +kernel) (pa_cons (pv 1) (pa_cons (pe_ty T.f_bool) pa_nil)))) (pe_one (pe_chain op_le op_lt pe_int (pv 1) (pe_op (plusK (K := K)) (pe_callB (lenK (K := K)) (by rfl) T.f_len boot_len (pa_cons (pv 0) pa_nil)) (pv 2)))))))), ?_⟩
  walk_at "st"
  refine r_isi (.int i) (by simp) ?_
  rw [show isB (tyD (.int i)) "int" = true by simp [isB, tyD]]
  walk_at "st"
  refine r_isi (.int i) (by simp) ?_
  rw [show isB (tyD (.int i)) "bool" = false by simp [isB, tyD]]
  walk_at "st"
  refine ite_d (fun _ => ?_) (fun c => absurd i0 c)
  walk_at "st"
  refine r_lenL hr' rfl ?_
  walk_at "st"
  rw [decide_eq_true i1]
  exact k
def spComm (K : PySem.W.Frag) : Sp := fun vs H Q _ => ∃ (p : Addr) (st : List (List Int)) (m : Int), vs = [.ref p, .int m] ∧ Tb K H p st ∧ GoodSt st m ∧ m ≤ 1000 ∧ st.length ≤ 1000 ∧ (Com st m → ∀ H', Ext H H' → Q (.bl true) H') ∧ (¬ Com st m → ∀ H', Ext H H' → Q (.bl false) H')
theorem sc__law_f_commute : FnScope ["states", "letters", "come", "a", "b", "s"] ["states", "letters"] (defScope s__law_f_commute) := ⟨rfl, rfl, rfl, by decide +kernel, rfl, by decide +kernel, by decide +kernel⟩
theorem ok_law_f_commute (T : Txt w K mg) : CalG P w K mg base 2 "_law_f_commute" ["states", "letters"] (spComm K) := by
  have c__law_come := ok_law_come (P := P) (base := base) T
  refine calG_of T.g__law_f_commute T.d__law_f_commute sc__law_f_commute (fun _ _ _ _ _ _ _ us hl => match us, hl with | [_, _], _ => rfl) (fun vs H Q E h => by obtain ⟨_, _, _, rfl, _⟩ := h; rfl) (fun cdv A outer s H vs Q E hr h => ?_)
  have nd := sc__law_f_commute.nd
  have hu := hu64 hr
  obtain ⟨p, st, m, rfl, hp, g, m1, hsz, k, kn⟩ := h
  have m0 := g.1.1
  refine ⟨_, (pss_cons (ps_set (i := 2) nd rfl (Or.inl rfl) (pe_cal c__law_come hr (by omega) (fun σ => L2N.passAt (L2N.takes_of rfl rfl rfl rfl) σ) (pa_cons (pv 0) (pa_cons (pv 1) pa_nil))))
        (pss_cons (ps_for (passes_of rfl) rfl (pi_range1 (by rfl) T.f_range (pa_cons (pv 1) pa_nil)) (pg_name (i := 3) nd rfl (Or.inr rfl)) (pss_one (ps_for (passes_of rfl) rfl (pi_range1 (by rfl) T.f_range (pa_cons (pv 3) pa_nil)) (pg_name (i := 4) nd rfl (Or.inr rfl)) (pss_one (ps_if (pt_val (pe_callB (anyK (K := K) rfl) (by rfl) T.f_any (by decide +kernel) (pa_cons (pe_lc (own := [("s", 5)]) rfl nd (piL (K := K) (pv 2)) (blkOk_by (N := ["states", "letters", "come", "a", "b", "s"]) (sc := defScope s__law_f_commute) (by decide +kernel)) (fun _ _ _ _ _ => (pg_name (i := 5) nd rfl (Or.inl rfl))) (fun _ _ _ _ _ => pts_nil) (fun _ _ _ _ _ => (pe_cmpR (otherK (K := K) hu) (pe_ix (ixK (K := K)) (pe_ix (ixK (K := K)) (pv 0) (pe_ix (ixK (K := K)) (pe_ix (ixK (K := K)) (pv 0) (pv 5) (fun _ _ => rfl)) (pv 3) (fun _ _ => rfl)) (fun _ _ => rfl)) (pv 4) (fun _ _ => rfl)) (pe_ix (ixK (K := K)) (pe_ix (ixK (K := K)) (pv 0) (pe_ix (ixK (K := K)) (pe_ix (ixK (K := K)) (pv 0) (pv 5) (fun _ _ => rfl)) (pv 4) (fun _ _ => rfl)) (fun _ _ => rfl)) (pv 3) (fun _ _ => rfl)) (nomark _)))) pa_nil))) (pss_one (ps_ret pe_bl)) pss_nil)))))
        (pss_one (ps_ret pe_bl)))), ?_⟩
  walk_at "st"
  refine ⟨p, st, m, rfl, hp, g, m1, hsz, fun cp H1 cs hcp e1 h1 C => ?_⟩
  have cre : ∀ c ∈ cs, Reach st m c := fun c hc => (C.mem c).mp hc
  have clen := come_len g C.nd cre
  have cat : ∀ i, i < cs.length → cs[i]? = some (cs.getD i 0) ∧ Reach st m (cs.getD i 0) := fun i hi => ⟨getD_at hi, cre _ (List.mem_of_getElem? (getD_at hi))⟩
  walk_at "st"
  refine forW_range (fun i σ' H' => ∃ v3 v4, σ' = [some (.ref p), some (.int m), some (.ref cp), v3, v4, none] ∧ Ext H1 H' ∧ ∀ a : Nat, a < i → ∀ b, b < a → ∀ c, Reach st m c → stp st (stp st c a) b = stp st (stp st c b) a) ⟨none, none, rfl, .rfl, fun a ha => absurd ha (Nat.not_lt_zero _)⟩ ?_ ?_
  · rintro i σ' H2 hi ⟨v3, v4, rfl, e3, hall⟩
    have hi' : (i : Int) < m := by omega
    walk_at "st"
    rw [Int.zero_add]
    walk_at "st"
    refine forW_range (fun j σ' H' => ∃ v4, σ' = [some (.ref p), some (.int m), some (.ref cp), some (.int (i : Nat)), v4, none] ∧ Ext H1 H' ∧ ∀ b : Nat, b < j → ∀ c, Reach st m c → stp st (stp st c i) b = stp st (stp st c b) i) ⟨v4, rfl, e3, fun a ha => absurd ha (Nat.not_lt_zero _)⟩ ?_ ?_
    · rintro j σ' H4 hj ⟨v4, rfl, e4, hall4⟩
      have hj' : (j : Int) < m := by omega
      have h4 := e4 _ _ h1
      walk_at "st"
      rw [Int.zero_add]
      refine r_li (sqL h4) ?_
      intro D hD
      refine lcW_list (LcP H4 D fun t => .bl (!decide (V.int ((stp st (stp st (cs.getD t 0) i) j : Nat) : Int) = V.int ((stp st (stp st (cs.getD t 0) j) i : Nat) : Int)))) (.start hD) (fun j H' _ q => q.e.l (sqL h4)) (fun t x H5 hx q => ?_) (fun H5 q5 => ?_)
      · obtain ⟨c, hc, rfl⟩ := ntV_get hx
        have ht := (List.getElem?_eq_some_iff.mp hc).1
        have ec : c = cs.getD t 0 := by have := getD_at ht; rw [hc] at this; exact Option.some.inj this
        have rc := cre c (List.mem_of_getElem? hc)
        have hp5 := hp.ext ((e1.trans e4).trans q.e)
        obtain ⟨xs, row, b, q1, q2, q3, q4⟩ := tb_at hp5 g (rc.lt g)
        obtain ⟨xs', row', b', q1', q2', q3', q4'⟩ := tb_at hp5 g (stp_lt g (rc.lt g) hi')
        obtain ⟨xs2, row2, b2, q12, q22, q32, q42⟩ := tb_at hp5 g (stp_lt g (rc.lt g) hj')
        walk_at "st"
        refine r_lcW rfl ?_
        walk_at "st"
        refine r_atL q1 (atI_nat q2) ?_
        walk_at "st"
        refine r_atA q3 (atI_nat (q4 i hi')) ?_
        refine r_atL q1' (atI_nat q2') ?_
        walk_at "st"
        refine r_atA q3' (atI_nat (q4' j hj')) ?_
        walk_at "st"
        refine r_atL q1 (atI_nat q2) ?_
        walk_at "st"
        refine r_atA q3 (atI_nat (q4 j hj')) ?_
        refine r_atL q12 (atI_nat q22) ?_
        walk_at "st"
        refine r_atA q32 (atI_nat (q42 i hi')) ?_
        walk_at "st"
        exact q.push hD (by omega) .rfl (by rw [ec])
      rw [ntV_len] at q5
      have hd := q5.d
      rw [range_bl] at hd
      walk_at "st"
      refine r_any (sqL hd) ?_
      walk_at "st"
      have e5 := e4.trans q5.e
      cases hb : ((List.range cs.length).map fun t => !decide (V.int ((stp st (stp st (cs.getD t 0) i) j : Nat) : Int) = V.int ((stp st (stp st (cs.getD t 0) j) i : Nat) : Int))).any id with
      | true =>
        walk_at "st"
        refine kn (fun S => ?_) _ (e1.trans e5)
        obtain ⟨y, hy, ey⟩ := List.any_eq_true.mp hb
        obtain ⟨t, ht, rfl⟩ := List.mem_map.mp hy
        rw [List.mem_range] at ht
        rw [S j i _ (by omega) hi' (cat t ht).2] at ey
        simp at ey
      | false =>
        walk_at "st"
        refine ⟨_, rfl, e5, fun b hb' c hc => ?_⟩
        by_cases cb : b < j
        · exact hall4 b cb c hc
        · have : b = j := by omega
          subst this
          obtain ⟨x, hx⟩ := List.mem_iff_getElem?.mp ((C.mem c).mpr hc)
          have lx := (List.getElem?_eq_some_iff.mp hx).1
          have ex : cs.getD x 0 = c := by have := getD_at lx; rw [hx] at this; exact (Option.some.inj this).symm
          have := List.any_eq_false.mp hb _ (List.mem_map.mpr ⟨x, List.mem_range.mpr lx, rfl⟩)
          rw [ex] at this
          simp at this
          omega
    · rintro σ' H4 ⟨v4, rfl, e4, hall4⟩
      refine ⟨_, v4, rfl, e4, fun a ha => ?_⟩
      by_cases ca : a < i
      · exact hall a ca
      · have : a = i := by omega
        subst this
        exact fun b hb c hc => hall4 b (by omega) c hc
  · rintro σ' H4 ⟨v3, v4, rfl, e4, hall4⟩
    walk_at "st"
    exact k (fun a b c hab hb hc => (hall4 b (by omega) a hab c hc).symm) H4 (e1.trans e4)

end
end K29
set_option maxRecDepth 100000
set_option maxHeartbeats 4000000
namespace K29
open PySem PySem.Spec PyProof.Rows L2 L3
local macro_rules | `(tactic| walk_at "s1") => `(tactic| first
  | with_reducible refine r_seq ?_
  | with_reducible refine r_asgN ?_
  | with_reducible refine r_ret ?_
  | with_reducible refine r_next ?_
  | ((with_reducible refine' r_var ?hv ?_); (case hv => exact rfl))
  | with_reducible refine r_c ?_
  | with_reducible refine r_op ?_
  | with_reducible refine r_cons ?_
  | with_reducible refine r_nil ?_
  | with_reducible refine r_plusI ?_
  | with_reducible refine r_I0 ?_
  | with_reducible refine r_test ?_
  | with_reducible refine r_bl ?_
  | with_reducible refine r_ifS ?_
  | with_reducible refine r_cb ?_
  | with_reducible refine r_callS ?_
  | with_reducible refine r_and ?_
  | with_reducible refine r_or ?_
  | with_reducible refine r_not ?_
  | with_reducible refine r_B ?_
  | ((with_reducible refine' r_aug ?hv ?_); (case hv => exact rfl))
  | with_reducible refine r_augS ?_
  | with_reducible refine r_ipI ?_
  | with_reducible refine r_asg ?_
  | with_reducible refine r_sub ?_
  | with_reducible refine r_brk ?_
  | with_reducible refine r_isN1 ?_
  | with_reducible refine r_notN1 ?_
  | with_reducible refine r_intI ?_
  | with_reducible refine r_abs ?_
  | with_reducible refine r_min ?_
  | with_reducible refine r_max ?_
  | ((with_reducible refine' r_mod ?hz ?_); (case hz => omega))
  | ((with_reducible refine' r_pow ?hz ?_); (case hz => exact ⟨by decide, by decide, by decide⟩))
  | ((with_reducible refine' r_rg1 ?hz ?_); (case hz => omega))
  | ((with_reducible refine' r_rg2 ?hz ?_); (case hz => omega))
  | ((with_reducible refine' r_newL ?hz ?_); (case hz => exact Nat.le_of_ble_eq_true rfl))
  | ((with_reducible refine' r_newT ?hz ?_); (case hz => exact Nat.le_of_ble_eq_true rfl))
  | with_reducible refine r_for ?_
  | with_reducible refine r_lc ?_
  | with_reducible refine r_iR1 ?_
  | with_reducible refine r_iR2 ?_
  | with_reducible refine r_iL ?_
  | with_reducible refine r_iT ?_
  | with_reducible refine r_gname ?_
  | with_reducible refine r_gcons ?_
  | with_reducible refine r_gnil ?_
  | with_reducible refine r_yes ?_
  | with_reducible refine r_mkO ?_
  | with_reducible refine r_cont ?_
  | with_reducible refine r_drop ?_
  | with_reducible refine r_retN ?_
  | with_reducible refine r_ifC ?_
  | with_reducible refine r_ifI ?_
  | with_reducible refine r_if ?_
  | with_reducible refine r_un ?_
  | with_reducible refine r_neg ?_
  | with_reducible refine r_andV ?_
  | with_reducible refine r_orV ?_
  | with_reducible refine r_notV ?_
  | with_reducible refine r_tup ?_
  | with_reducible refine r_lst ?_
  | with_reducible refine r_bm ?_
  | with_reducible refine r_bm0 ?_
  | with_reducible refine r_sl ?_
  | with_reducible refine r_chain ?_
  | with_reducible refine r_listDn ?_
  | with_reducible refine r_listRg2 ?_
  | with_reducible refine r_revL ?_
  | with_reducible refine r_noPart ?_
  | with_reducible refine r_dgt ?_
  | with_reducible refine r_din ?_
  | with_reducible refine r_dnin ?_
  | with_reducible refine r_dput ?_
  | with_reducible refine r_dnew ?_
  | with_reducible refine r_disp1 ?_
  | with_reducible refine r_lenSet ?_
  | with_reducible refine r_part ?_
  | with_reducible refine r_int ?_
  | ((with_reducible refine' r_sameS ?hs ?_); (case hs => exact rfl))
  | ((with_reducible refine' r_otherS ?hs ?_); (case hs => exact rfl))
  | with_reducible refine ite_t ?_
  | with_reducible refine ite_f ?_
  | with_reducible refine ite_nt ?_
  | with_reducible refine ite_nf ?_)
local macro_rules | `(tactic| walk_at "st") => `(tactic| repeat (walk_at "s1"))

section
variable {P : Program} {w : World} {K : PySem.W.Frag} {mg : Str → Option Value} {base : Heap}
def toldD (kind : Str) (first second : List Int) (i j letter : Nat) : PyData := .tuple [.str kind, .list (first.map PyData.int), .int i, .list (second.map PyData.int), .int j, .int letter]
def spShown (K : PySem.W.Frag) : Sp := fun vs H Q _ => ∃ (p q r1 r2 : Addr) (st : List (List Int)) (m : Int) (kind : Str) (first : List Int) (i : Nat) (second : List Int) (j letter : Nat), vs = [.ref p, .int m, .ref q] ∧ Tb K H p st ∧ GoodSt st m ∧ m ≤ 1000 ∧ st.length ≤ 1000 ∧
  H q = some (.tup [.str kind, .ref r1, .int i, .ref r2, .int j, .int letter]) ∧ H r1 = some (.lst (first.map V.int)) ∧ H r2 = some (.lst (second.map V.int)) ∧ Shown st m kind first i second j letter ∧ ∀ H', Ext H H' → Q (.bl true) H'
theorem r_notInT {K : PySem.W.Frag} {H : Hp} {Q : VK} {t : Addr} {x : Str} {xs : List Str} (h : H t = some (.tup (xs.map V.str))) (k : Q (.bl (!decide (x ∈ xs))) H) : rIn K true (.str x) (.ref t) H Q := by
  refine ⟨t, _, rfl, .inr (sqT h), rfl, ?_, ?_⟩
  · rw [List.all_eq_true]
    intro y hy
    obtain ⟨s, _, rfl⟩ := List.mem_map.mp hy
    rfl
  · have e : inV (.str x) (xs.map V.str) = decide (x ∈ xs) := by
      unfold inV
      rw [Bool.eq_iff_iff, List.any_eq_true, decide_eq_true_iff]
      constructor
      · rintro ⟨y, hy, e⟩
        obtain ⟨s, hs, rfl⟩ := List.mem_map.mp hy
        have : (s == x) = true := e
        rw [← eq_of_beq this]
        exact hs
      · intro h
        exact ⟨.str x, List.mem_map.mpr ⟨x, h, rfl⟩, by show (x == x) = true; simp⟩
    rw [e]
    exact k
theorem sc__law_f_shown : FnScope ["states", "letters", "told", "kind", "first", "i", "second", "j", "letter", "more", "one"] ["states", "letters", "told"] (defScope s__law_f_shown) := ⟨rfl, rfl, rfl, by decide +kernel, rfl, by decide +kernel, by decide +kernel⟩
theorem ok_law_f_shown (T : Txt w K mg) : CalG P w K mg base 3 "_law_f_shown" ["states", "letters", "told"] (spShown K) := by
  have c__law_run := ok_law_run (P := P) (base := base) T
  have c__law_f_letters := ok_law_f_letters (P := P) (base := base) T
  have c__law_f_at := ok_law_f_at (P := P) (base := base) T
  have c__law_f_commute := ok_law_f_commute (P := P) (base := base) T
  refine calG_of T.g__law_f_shown T.d__law_f_shown sc__law_f_shown (fun _ _ _ _ _ _ _ us hl => match us, hl with | [_, _, _], _ => rfl) (fun vs H Q E h => by obtain ⟨_, _, _, _, _, _, _, _, _, _, _, _, rfl, _⟩ := h; rfl) (fun cdv A outer s H vs Q E hr h => ?_)
  have nd := sc__law_f_shown.nd
  have hu := hu64 hr
  obtain ⟨p, q, r1, r2, st, m, kind, first, i, second, j, letter, rfl, hp, g, m1, hsz, hq, h1, h2, S, k⟩ := h
  have l1 := S.l1
  have l2 := S.l2
  have hk : kind = "put" ∨ kind = "take" := S.part.elim (fun h => .inl h.1) fun h => .inr h.1
  refine ⟨_, (pss_cons (ps_if (PW.pt (pw_or (pt_not (pt_val (pe_callB (isiK (K := K)) (by rfl) T.f_isinstance (by decide +kernel) (pa_cons (pv 2) (pa_cons (pe_ty T.f_tuple) pa_nil))))) (pw_or (pt_cmpR (otherK (K := K) hu) (pe_callB (lenK (K := K)) (by rfl) T.f_len boot_len (pa_cons (pv 2) pa_nil)) pe_int (nomark _)) (pw_or1 (pt_cmpR (notInK (K := K)) (pe_ix (ixK (K := K)) (pv 2) pe_int (fun _ _ => rfl)) (pe_tup (pa_cons pe_str (pa_cons pe_str pa_nil))) (by rfl)))))) (pss_one (ps_ret pe_bl)) pss_nil)
        (pss_cons (ps_asg (pv 2) (pgT (K := K) (pg_tup rfl (pgs_cons (pg_name (i := 3) nd rfl (Or.inl rfl)) (pgs_cons (pg_name (i := 4) nd rfl (Or.inl rfl)) (pgs_cons (pg_name (i := 5) nd rfl (Or.inl rfl)) (pgs_cons (pg_name (i := 6) nd rfl (Or.inl rfl)) (pgs_cons (pg_name (i := 7) nd rfl (Or.inl rfl)) (pgs_cons (pg_name (i := 8) nd rfl (Or.inl rfl)) pgs_nil)))))))))
        (pss_cons (ps_if (PW.pt (pw_or (pt_not (pt_val (pe_cal c__law_f_letters hr (by omega) (fun σ => L2N.passAt (L2N.takes_of rfl rfl rfl rfl) σ) (pa_cons (pv 4) (pa_cons (pv 1) pa_nil))))) (pw_or (pt_not (pt_val (pe_cal c__law_f_letters hr (by omega) (fun σ => L2N.passAt (L2N.takes_of rfl rfl rfl rfl) σ) (pa_cons (pv 6) (pa_cons (pv 1) pa_nil))))) (pw_or1 (pt_not (pt_val (pe_cal c__law_f_letters hr (by omega) (fun σ => L2N.passAt (L2N.takes_of rfl rfl rfl rfl) σ) (pa_cons (pe_lst (pa_cons (pv 8) pa_nil)) (pa_cons (pv 1) pa_nil))))))))) (pss_one (ps_ret pe_bl)) pss_nil)
        (pss_cons (ps_if (pt_cmpR (otherK (K := K) hu) (pv 3) (pe_ifExp (pt_val (pe_cal c__law_f_commute hr (by omega) (fun σ => L2N.passAt (L2N.takes_of rfl rfl rfl rfl) σ) (pa_cons (pv 0) (pa_cons (pv 1) pa_nil)))) pe_str pe_str) (nomark _)) (pss_one (ps_ret pe_bl)) pss_nil)
        (pss_cons (ps_set (i := 9) nd rfl (Or.inl rfl) (pe_ifExp (pt_cmpR (sameK (K := K) hu) (pv 3) pe_str (nomark _)) pe_int pe_int))
        (pss_cons (ps_if (PW.pt (pw_or (pt_not (pt_val (pe_cal c__law_f_at hr (by omega) (fun σ => L2N.passAt (L2N.takes_of rfl rfl rfl rfl) σ) (pa_cons (pv 4) (pa_cons (pv 5) (pa_cons (pv 9) pa_nil)))))) (pw_or1 (pt_not (pt_val (pe_cal c__law_f_at hr (by omega) (fun σ => L2N.passAt (L2N.takes_of rfl rfl rfl rfl) σ) (pa_cons (pv 6) (pa_cons (pv 7) (pa_cons (pv 9) pa_nil))))))))) (pss_one (ps_ret pe_bl)) pss_nil)
        (pss_cons (ps_if (pt_cmpR (otherK (K := K) hu) (pe_cal c__law_run hr (by omega) (fun σ => L2N.passAt (L2N.takes_of rfl rfl rfl rfl) σ) (pa_cons (pv 0) (pa_cons (pv 1) (pa_cons (pv 4) pa_nil)))) (pe_cal c__law_run hr (by omega) (fun σ => L2N.passAt (L2N.takes_of rfl rfl rfl rfl) σ) (pa_cons (pv 0) (pa_cons (pv 1) (pa_cons (pv 6) pa_nil)))) (nomark _)) (pss_one (ps_ret pe_bl)) pss_nil)
        (pss_cons (ps_if (pt_cmpR (sameK (K := K) hu) (pv 3) pe_str (nomark _)) (pss_cons (ps_set (i := 10) nd rfl (Or.inl rfl) (pe_cal c__law_run hr (by omega) (fun σ => L2N.passAt (L2N.takes_of rfl rfl rfl rfl) σ) (pa_cons (pv 0) (pa_cons (pv 1) (pa_cons (pe_op (plusK (K := K)) (pe_op (plusK (K := K)) (pe_slice (slK (K := K)) (pv 4) po_none (po_some (pv 5))) (pe_lst (pa_cons (pv 8) pa_nil))) (pe_slice (slK (K := K)) (pv 4) (po_some (pv 5)) po_none)) pa_nil)))))
        (pss_one (ps_ret (pe_cmpR (otherK (K := K) hu) (pv 10) (pe_cal c__law_run hr (by omega) (fun σ => L2N.passAt (L2N.takes_of rfl rfl rfl rfl) σ) (pa_cons (pv 0) (pa_cons (pv 1) (pa_cons (pe_op (plusK (K := K)) (pe_op (plusK (K := K)) (pe_slice (slK (K := K)) (pv 6) po_none (po_some (pv 7))) (pe_lst (pa_cons (pv 8) pa_nil))) (pe_slice (slK (K := K)) (pv 6) (po_some (pv 7)) po_none)) pa_nil)))) (nomark _))))) pss_nil)
        (pss_cons (ps_if (PW.pt (pw_or (pt_cmpR (otherK (K := K) hu) (pe_ix (ixK (K := K)) (pv 4) (pv 5) (fun _ _ => rfl)) (pv 8) (nomark _)) (pw_or1 (pt_cmpR (otherK (K := K) hu) (pe_ix (ixK (K := K)) (pv 6) (pv 7) (fun _ _ => rfl)) (pv 8) (nomark _))))) (pss_one (ps_ret pe_bl)) pss_nil)
        (pss_one (ps_ret (pe_cmpR (otherK (K := K) hu) (pe_cal c__law_run hr (by omega) (fun σ => L2N.passAt (L2N.takes_of rfl rfl rfl rfl) σ) (pa_cons (pv 0) (pa_cons (pv 1) (pa_cons (pe_op (plusK (K := K)) (pe_slice (slK (K := K)) (pv 4) po_none (po_some (pv 5))) (pe_slice (slK (K := K)) (pv 4) (po_some (pe_op (plusK (K := K)) (pv 5) pe_int)) po_none)) pa_nil)))) (pe_cal c__law_run hr (by omega) (fun σ => L2N.passAt (L2N.takes_of rfl rfl rfl rfl) σ) (pa_cons (pv 0) (pa_cons (pv 1) (pa_cons (pe_op (plusK (K := K)) (pe_slice (slK (K := K)) (pv 6) po_none (po_some (pv 7))) (pe_slice (slK (K := K)) (pv 6) (po_some (pe_op (plusK (K := K)) (pv 7) pe_int)) po_none)) pa_nil)))) (nomark _))))))))))))), ?_⟩
  walk_at "st"
  refine r_isi (b := "tuple") (d := toldD kind first second i j letter) (.tup (sqT hq) (.cons (.str _) (.cons (.lst (sqL h1) (dps_ints _)) (.cons (.int _) (.cons (.lst (sqL h2) (dps_ints _)) (.cons (.int _) (.cons (.int _) .nil))))))) (by simp) ?_
  rw [show isB (tyD (toldD kind first second i j letter)) "tuple" = true by simp [isB, tyD, toldD]]
  walk_at "st"
  refine r_lenT (sqT hq) (n := 6) rfl ?_
  walk_at "st"
  refine ite_n (fun c => absurd rfl c) (fun _ => ?_)
  walk_at "st"
  refine r_atT (sqT hq) (atI_nat (j := 0) rfl) ?_
  walk_at "st"
  intro t1 H1 ht1 e1 h1'
  walk_at "st"
  refine r_notInT (xs := ["put", "take"]) h1' ?_
  rw [decide_eq_true (show kind ∈ (["put", "take"] : List Str) by rcases hk with rfl | rfl <;> simp)]
  walk_at "st"
  refine r_gtup (sqT (e1 _ _ hq)) rfl ?_
  walk_at "st"
  refine ⟨r1, m, first, rfl, e1 _ _ h1, by omega, S.r1, fun H2 e2 => ?_⟩
  have e12 := e1.trans e2
  walk_at "st"
  refine ⟨r2, m, second, rfl, e12 _ _ h2, by omega, S.r2, fun H3 e3 => ?_⟩
  have e13 := e12.trans e3
  walk_at "st"
  intro l4 H4 hl4 e4 h4
  walk_at "st"
  refine ⟨l4, m, [(letter : Int)], rfl, h4, by show 1 ≤ 10000; decide, fun l hl => by rw [List.mem_singleton.mp hl]; have := S.rl; omega, fun H5 e5 => ?_⟩
  have e15 := (e13.trans e4).trans e5
  walk_at "st"
  have run : ∀ (H' : Hp) (a : Addr) (ns : List Int) (Q' : VK) (E' : XK), Ext H H' → H' a = some (.lst (ns.map V.int)) → Q' (.int (runF st m 0 ns : Nat)) H' → spLRun K [.ref p, .int m, .ref a] H' Q' E' := fun H' a ns Q' E' e h k => ⟨p, a, st, m, ns, rfl, hp.ext e, sqL h, g, k⟩
  have same := S.same
  rcases S.part with ⟨rfl, ncm, hi, hj, ne⟩ | ⟨rfl, cm, hi, hj, ne⟩
  · refine ⟨p, st, m, rfl, hp.ext e15, g, m1, hsz, fun c => absurd c ncm, fun _ H6 e6 => ?_⟩
    have e16 := e15.trans e6
    walk_at "st"
    refine ite_n (fun c => absurd rfl c) (fun _ => ?_)
    walk_at "st"
    refine ⟨r1, i, 1, _, rfl, sqL (e16 _ _ h1), by omega, by rw [List.length_map]; omega, ?_⟩
    walk_at "st"
    refine ⟨r2, j, 1, _, rfl, sqL (e16 _ _ h2), by omega, by rw [List.length_map]; omega, ?_⟩
    walk_at "st"
    refine run _ _ _ _ _ e16 (e16 _ _ h1) ?_
    walk_at "st"
    refine run _ _ _ _ _ e16 (e16 _ _ h2) ?_
    walk_at "st"
    refine ite_n (fun c => absurd (by rw [same]) c) (fun _ => ?_)
    walk_at "st"
    refine ite_d (fun _ => ?_) (fun c => absurd rfl c)
    walk_at "st"
    refine r_slL (sqL (e16 _ _ h1)) (fun l7 H7 hl7 e7 h7 => ?_)
    rw [cut_to, ← List.map_take] at h7
    walk_at "st"
    intro l8 H8 hl8 e8 h8
    walk_at "st"
    refine r_catL (e8 _ _ h7) h8 (by rw [List.length_map, List.length_take]; show _ + 1 ≤ 100000; omega) (fun l9 H9 hl9 e9 h9 => ?_)
    have e19 := e16.trans (e7.trans (e8.trans e9))
    walk_at "st"
    refine r_slL (sqL (e19 _ _ h1)) (fun l10 H10 hl10 e10 h10 => ?_)
    rw [cut_from, ← List.map_drop] at h10
    walk_at "st"
    refine r_catL (e10 _ _ h9) h10 (by rw [List.length_append, List.length_map, List.length_map, List.length_take, List.length_drop]; show _ + 1 + _ ≤ 100000; omega) (fun l11 H11 hl11 e11 h11 => ?_)
    have e1_11 := e19.trans (e10.trans e11)
    have h11' : H11 l11 = some (.lst ((first.take i ++ [(letter : Int)] ++ first.drop i).map V.int)) := by rw [h11, List.map_append, List.map_append]; rfl
    walk_at "st"
    refine run _ _ _ _ _ e1_11 h11' ?_
    walk_at "st"
    refine r_slL (sqL (e1_11 _ _ h2)) (fun l12 H12 hl12 e12 h12 => ?_)
    rw [cut_to, ← List.map_take] at h12
    walk_at "st"
    intro l13 H13 hl13 e13 h13
    walk_at "st"
    refine r_catL (e13 _ _ h12) h13 (by rw [List.length_map, List.length_take]; show _ + 1 ≤ 100000; omega) (fun l14 H14 hl14 e14 h14 => ?_)
    have e1_14 := e1_11.trans (e12.trans (e13.trans e14))
    walk_at "st"
    refine r_slL (sqL (e1_14 _ _ h2)) (fun l15 H15 hl15 e15 h15 => ?_)
    rw [cut_from, ← List.map_drop] at h15
    walk_at "st"
    refine r_catL (e15 _ _ h14) h15 (by rw [List.length_append, List.length_map, List.length_map, List.length_take, List.length_drop]; show _ + 1 + _ ≤ 100000; omega) (fun l16 H16 hl16 e16 h16 => ?_)
    have e1_16 := e1_14.trans (e15.trans e16)
    have h16' : H16 l16 = some (.lst ((second.take j ++ [(letter : Int)] ++ second.drop j).map V.int)) := by rw [h16, List.map_append, List.map_append]; rfl
    walk_at "st"
    refine run _ _ _ _ _ e1_16 h16' ?_
    walk_at "st"
    rw [decide_eq_false (fun e => ne (by have := V.int.inj e; omega))]
    exact k _ e1_16
  · refine ⟨p, st, m, rfl, hp.ext e15, g, m1, hsz, fun _ H6 e6 => ?_, fun c => absurd cm c⟩
    have e16 := e15.trans e6
    have il := (List.getElem?_eq_some_iff.mp hi).1
    have jl := (List.getElem?_eq_some_iff.mp hj).1
    walk_at "st"
    refine ite_n (fun c => absurd rfl c) (fun _ => ?_)
    walk_at "st"
    refine ⟨r1, i, 0, _, rfl, sqL (e16 _ _ h1), by omega, by rw [List.length_map]; omega, ?_⟩
    walk_at "st"
    refine ⟨r2, j, 0, _, rfl, sqL (e16 _ _ h2), by omega, by rw [List.length_map]; omega, ?_⟩
    walk_at "st"
    refine run _ _ _ _ _ e16 (e16 _ _ h1) ?_
    walk_at "st"
    refine run _ _ _ _ _ e16 (e16 _ _ h2) ?_
    walk_at "st"
    refine ite_n (fun c => absurd (by rw [same]) c) (fun _ => ?_)
    walk_at "st"
    refine ite_d (fun c => absurd c (by decide)) (fun _ => ?_)
    walk_at "st"
    refine r_atL (sqL (e16 _ _ h1)) (atI_nat (j := i) (v := .int (letter : Nat)) (by rw [List.getElem?_map, hi]; rfl)) ?_
    walk_at "st"
    refine ite_n (fun c => absurd rfl c) (fun _ => ?_)
    walk_at "st"
    refine r_atL (sqL (e16 _ _ h2)) (atI_nat (j := j) (v := .int (letter : Nat)) (by rw [List.getElem?_map, hj]; rfl)) ?_
    walk_at "st"
    refine ite_n (fun c => absurd rfl c) (fun _ => ?_)
    walk_at "st"
    refine r_slL (sqL (e16 _ _ h1)) (fun l7 H7 hl7 e7 h7 => ?_)
    rw [cut_to, ← List.map_take] at h7
    walk_at "st"
    have e17 := e16.trans e7
    refine r_slL (sqL (e17 _ _ h1)) (fun l8 H8 hl8 e8 h8 => ?_)
    rw [show ((i : Int) + 1) = ((i + 1 : Nat) : Int) by omega, cut_from, ← List.map_drop] at h8
    walk_at "st"
    refine r_catL (e8 _ _ h7) h8 (by rw [List.length_map, List.length_map, List.length_take, List.length_drop]; omega) (fun l9 H9 hl9 e9 h9 => ?_)
    rw [← List.map_append] at h9
    have e19 := e17.trans (e8.trans e9)
    walk_at "st"
    refine run _ _ _ _ _ e19 h9 ?_
    walk_at "st"
    refine r_slL (sqL (e19 _ _ h2)) (fun l10 H10 hl10 e10 h10 => ?_)
    rw [cut_to, ← List.map_take] at h10
    walk_at "st"
    have e1_10 := e19.trans e10
    refine r_slL (sqL (e1_10 _ _ h2)) (fun l11 H11 hl11 e11 h11 => ?_)
    rw [show ((j : Int) + 1) = ((j + 1 : Nat) : Int) by omega, cut_from, ← List.map_drop] at h11
    walk_at "st"
    refine r_catL (e11 _ _ h10) h11 (by rw [List.length_map, List.length_map, List.length_take, List.length_drop]; omega) (fun l12 H12 hl12 e12 h12 => ?_)
    rw [← List.map_append] at h12
    have e1_12 := e1_10.trans (e11.trans e12)
    walk_at "st"
    refine run _ _ _ _ _ e1_12 h12 ?_
    walk_at "st"
    rw [decide_eq_false (fun e => ne (by have := V.int.inj e; omega))]
    exact k _ e1_12

end
end K29
set_option maxRecDepth 100000
set_option maxHeartbeats 4000000
namespace K29
open PySem PySem.Spec PyProof.Rows L2 L3
local macro_rules | `(tactic| walk_at "s1") => `(tactic| first
  | with_reducible refine r_seq ?_
  | with_reducible refine r_asgN ?_
  | with_reducible refine r_ret ?_
  | with_reducible refine r_next ?_
  | ((with_reducible refine' r_var ?hv ?_); (case hv => exact rfl))
  | with_reducible refine r_c ?_
  | with_reducible refine r_op ?_
  | with_reducible refine r_cons ?_
  | with_reducible refine r_nil ?_
  | with_reducible refine r_plusI ?_
  | with_reducible refine r_I0 ?_
  | with_reducible refine r_test ?_
  | with_reducible refine r_bl ?_
  | with_reducible refine r_ifS ?_
  | with_reducible refine r_cb ?_
  | with_reducible refine r_callS ?_
  | with_reducible refine r_and ?_
  | with_reducible refine r_or ?_
  | with_reducible refine r_not ?_
  | with_reducible refine r_B ?_
  | ((with_reducible refine' r_aug ?hv ?_); (case hv => exact rfl))
  | with_reducible refine r_augS ?_
  | with_reducible refine r_ipI ?_
  | with_reducible refine r_asg ?_
  | with_reducible refine r_sub ?_
  | with_reducible refine r_brk ?_
  | with_reducible refine r_isN1 ?_
  | with_reducible refine r_notN1 ?_
  | with_reducible refine r_intI ?_
  | with_reducible refine r_abs ?_
  | with_reducible refine r_min ?_
  | with_reducible refine r_max ?_
  | ((with_reducible refine' r_mod ?hz ?_); (case hz => omega))
  | ((with_reducible refine' r_pow ?hz ?_); (case hz => exact ⟨by decide, by decide, by decide⟩))
  | ((with_reducible refine' r_rg1 ?hz ?_); (case hz => omega))
  | ((with_reducible refine' r_rg2 ?hz ?_); (case hz => omega))
  | ((with_reducible refine' r_newL ?hz ?_); (case hz => exact Nat.le_of_ble_eq_true rfl))
  | ((with_reducible refine' r_newT ?hz ?_); (case hz => exact Nat.le_of_ble_eq_true rfl))
  | with_reducible refine r_for ?_
  | with_reducible refine r_lc ?_
  | with_reducible refine r_iR1 ?_
  | with_reducible refine r_iR2 ?_
  | with_reducible refine r_iL ?_
  | with_reducible refine r_iT ?_
  | with_reducible refine r_gname ?_
  | with_reducible refine r_gcons ?_
  | with_reducible refine r_gnil ?_
  | with_reducible refine r_yes ?_
  | with_reducible refine r_mkO ?_
  | with_reducible refine r_cont ?_
  | with_reducible refine r_drop ?_
  | with_reducible refine r_retN ?_
  | with_reducible refine r_ifC ?_
  | with_reducible refine r_ifI ?_
  | with_reducible refine r_if ?_
  | with_reducible refine r_un ?_
  | with_reducible refine r_neg ?_
  | with_reducible refine r_andV ?_
  | with_reducible refine r_orV ?_
  | with_reducible refine r_notV ?_
  | with_reducible refine r_tup ?_
  | with_reducible refine r_lst ?_
  | with_reducible refine r_bm ?_
  | with_reducible refine r_bm0 ?_
  | with_reducible refine r_sl ?_
  | with_reducible refine r_chain ?_
  | with_reducible refine r_listDn ?_
  | with_reducible refine r_listRg2 ?_
  | with_reducible refine r_listRg1 ?_
  | with_reducible refine r_revL ?_
  | with_reducible refine r_noPart ?_
  | with_reducible refine r_dgt ?_
  | with_reducible refine r_din ?_
  | with_reducible refine r_dnin ?_
  | with_reducible refine r_dput ?_
  | with_reducible refine r_dnew ?_
  | with_reducible refine r_disp1 ?_
  | with_reducible refine r_lenSet ?_
  | with_reducible refine r_part ?_
  | with_reducible refine r_int ?_
  | ((with_reducible refine' r_sameS ?hs ?_); (case hs => exact rfl))
  | ((with_reducible refine' r_otherS ?hs ?_); (case hs => exact rfl))
  | with_reducible refine ite_t ?_
  | with_reducible refine ite_f ?_
  | with_reducible refine ite_nt ?_
  | with_reducible refine ite_nf ?_)
local macro_rules | `(tactic| walk_at "st") => `(tactic| repeat (walk_at "s1"))

section
variable {P : Program} {w : World} {K : PySem.W.Frag} {mg : Str → Option Value} {base : Heap}
/-! ### drawn checks -/
structure Pr (p : Addr) (H : Hp) (x : V) : Prop where
  ex : ∃ (a : Addr) (one two : Nat), x = .ref a ∧ a ≠ p ∧ H a = some (.lst [.int one, .int two]) ∧ 1 ≤ one ∧ 1 ≤ two ∧ one * two ≤ 12
def PrL (p : Addr) (H : Hp) (xs : List V) : Prop := ∀ x ∈ xs, Pr p H x
theorem PrL.step {p a : Addr} {H H' : Hp} {xs : List V} {one two : Nat} (h : PrL p H xs) (ap : a ≠ p) (e : Ext H H') (ha : H' a = some (.lst [.int one, .int two])) (h1 : 1 ≤ one) (h2 : 1 ≤ two) (h3 : one * two ≤ 12) : PrL p H' (xs ++ [.ref a]) := fun x hx => by
  rcases List.mem_append.mp hx with hx | hx
  · obtain ⟨b, o, t, e1, e2, e3, e4⟩ := h x hx
    exact ⟨b, o, t, e1, e2, e _ _ e3, e4⟩
  · rw [List.mem_singleton.mp hx]
    exact ⟨a, one, two, rfl, ap, ha, h1, h2, h3⟩
/-- the steps drawn so far -/
structure StP (p : Addr) (H1 : Hp) (D : Addr) (one two : Nat) (i : Nat) (H' : Hp) : Prop where
  s : Src H' p
  b : But p H1 H'
  ex : ∃ (as : List Addr), H' D = some (.lst (as.map V.ref)) ∧ as.length = i ∧ ∀ (j : Nat) (a : Addr), as[j]? = some a → a ≠ p ∧ a ≠ D ∧ ∃ x y : Int, H' a = some (.lst [.int x, .int y]) ∧ 0 ≤ x ∧ 0 ≤ y
theorem StP.push {p : Addr} {H1 H2 H3 H4 : Hp} {D a : Addr} {one two i : Nat} {x y : Int} (h : StP p H1 D one two i H2) (hD : H1 D = none) (hp : H1 p ≠ none) (hi : i < 1000) (s3 : Src H3 p) (n3 : But p H2 H3) (ha : H3 a = none) (e : Ext H3 H4) (h4 : H4 a = some (.lst [.int x, .int y])) (hx : 0 ≤ x) (hy : 0 ≤ y) :
    ∃ acc, H4 D = some (.lst acc) ∧ acc.length < sizeLine ∧ StP p H1 D one two (i + 1) (upd H4 D (.lst (acc ++ [.ref a]))) := by
  obtain ⟨s, b, as, hD2, la, hrow⟩ := h
  have pD : p ≠ D := fun e => hp (by rw [e]; exact hD)
  have b4 : But p H2 H4 := n3.ext e
  have hD3 := n3 _ _ pD.symm hD2
  have aD : a ≠ D := fun z => by rw [z, hD3] at ha; cases ha
  have ap : a ≠ p := (src_ne s3 ha).symm
  refine ⟨_, e _ _ hD3, by rw [List.length_map, la, sizeLine_eq]; omega, ?_, (b.trans b4).mut hD fun q hq => upd_ne hq, as ++ [a], by rw [upd_same, List.map_append]; rfl, by rw [List.length_append, la]; rfl, fun j c hj => ?_⟩
  · obtain ⟨u, v, z, w⟩ := s3.ext e
    exact ⟨u, v, z, by rw [upd_ne pD]; exact w⟩
  · by_cases z : j < as.length
    · rw [List.getElem?_append_left z] at hj
      obtain ⟨c1, c2, u, v, c3, c4⟩ := hrow j c hj
      exact ⟨c1, c2, u, v, by rw [upd_ne c2]; exact b4 _ _ c1 c3, c4⟩
    · have hlt := (List.getElem?_eq_some_iff.mp hj).1
      rw [List.length_append] at hlt
      have hlt : j < as.length + 1 := hlt
      rw [List.getElem?_append_right (by omega), show j - as.length = 0 by omega] at hj
      cases hj
      exact ⟨ap, aD, x, y, by rw [upd_ne aD]; exact h4, hx, hy⟩
theorem perm_names {ys : List V} {n : Nat} (h : ys.Perm ((List.range n).map fun (i : Nat) => V.int (i : Nat))) : ∃ nl : List Nat, ys = nl.map (fun (i : Nat) => V.int (i : Nat)) ∧ nl.Perm (List.range n) := by
  refine ⟨ys.map fun x => match x with | .int i => i.toNat | _ => 0, ?_, ?_⟩
  · rw [List.map_map]
    conv => lhs; rw [← List.map_id ys]
    refine List.map_congr_left fun x hx => ?_
    obtain ⟨i, _, rfl⟩ := List.mem_map.mp (h.mem_iff.mp hx)
    rfl
  · have := h.map (fun x => match x with | .int i => i.toNat | _ => 0)
    rw [List.map_map] at this
    refine this.trans (List.Perm.of_eq ?_)
    conv => rhs; rw [← List.map_id (List.range n)]
    exact List.map_congr_left fun i _ => rfl
def spTable (K : PySem.W.Frag) : Sp := fun vs H Q _ => ∃ (p : Addr), vs = [.ref p] ∧ Src H p ∧ ∀ q t st m H', q ≠ p → H q = none → Src H' p → But p H H' → H' q = some (.lst [.ref t, .int m]) → Nw (fun a => a ≠ p ∧ H a = none) H' (.ref t) (tbD st) → GoodSt st m → m ≤ 8 → st.length ≤ 12 → Q (.ref q) H'
theorem sc__law_f_table : FnScope ["source", "letters", "one", "two", "many", "steps", "names", "states", "state", "step", "after", "more", "row", "letter"] ["source"] (defScope s__law_f_table) := ⟨rfl, rfl, rfl, by decide +kernel, rfl, by decide +kernel, by decide +kernel⟩
theorem ok_law_f_table (T : Txt w K mg) : CalG P w K mg base 4 "_law_f_table" ["source"] (spTable K) := by
  have c__law_pick := ok_law_pick (P := P) (base := base) T
  have c__law_shuffled := ok_law_shuffled (P := P) (base := base) T
  refine calG_of T.g__law_f_table T.d__law_f_table sc__law_f_table (fun _ _ _ _ _ _ _ us hl => match us, hl with | [_], _ => rfl) (fun vs H Q E h => by obtain ⟨_, rfl, _⟩ := h; rfl) (fun cdv A outer s H vs Q E hr h => ?_)
  have nd := sc__law_f_table.nd
  have hu := hu64 hr
  obtain ⟨p, rfl, sp, k⟩ := h
  refine ⟨_, (pss_cons (ps_set (i := 1) nd rfl (Or.inr rfl) (pe_op (plusK (K := K)) pe_int (pe_cal c__law_pick hr (by omega) (fun σ => L2N.passAt (L2N.takes_of rfl rfl rfl rfl) σ) (pa_cons (pv 0) (pa_cons pe_int pa_nil)))))
        (C8.pss_cut (ps_if (pt_cmpR (sameK (K := K) hu) (pe_cal c__law_pick hr (by omega) (fun σ => L2N.passAt (L2N.takes_of rfl rfl rfl rfl) σ) (pa_cons (pv 0) (pa_cons pe_int pa_nil))) pe_int (nomark _)) (pss_one (ps_set (i := 1) nd rfl (Or.inr rfl) pe_int)) pss_nil)
        (pss_cons (ps_asg (pe_ix (ixK (K := K)) (pe_lst (pa_cons (pe_lst (pa_cons pe_int (pa_cons pe_int pa_nil))) (pa_cons (pe_lst (pa_cons pe_int (pa_cons pe_int pa_nil))) (pa_cons (pe_lst (pa_cons pe_int (pa_cons pe_int pa_nil))) (pa_cons (pe_lst (pa_cons pe_int (pa_cons pe_int pa_nil))) (pa_cons (pe_lst (pa_cons pe_int (pa_cons pe_int pa_nil))) (pa_cons (pe_lst (pa_cons pe_int (pa_cons pe_int pa_nil))) (pa_cons (pe_lst (pa_cons pe_int (pa_cons pe_int pa_nil))) (pa_cons (pe_lst (pa_cons pe_int (pa_cons pe_int pa_nil))) (pa_cons (pe_lst (pa_cons pe_int (pa_cons pe_int pa_nil))) (pa_cons (pe_lst (pa_cons pe_int (pa_cons pe_int pa_nil))) (pa_cons (pe_lst (pa_cons pe_int (pa_cons pe_int pa_nil))) (pa_cons (pe_lst (pa_cons pe_int (pa_cons pe_int pa_nil))) pa_nil))))))))))))) (pe_cal c__law_pick hr (by omega) (fun σ => L2N.passAt (L2N.takes_of rfl rfl rfl rfl) σ) (pa_cons (pv 0) (pa_cons pe_int pa_nil))) (fun _ _ => rfl)) (pgL (K := K) (pg_lst rfl (pgs_cons (pg_name (i := 2) nd rfl (Or.inr rfl)) (pgs_cons (pg_name (i := 3) nd rfl (Or.inr rfl)) pgs_nil)))))
        (pss_cons (ps_set (i := 4) nd rfl (Or.inr rfl) (pe_op op_timesB (pv 2) (pv 3)))
        (pss_cons (ps_if (pt_cmpR (sameK (K := K) hu) (pe_cal c__law_pick hr (by omega) (fun σ => L2N.passAt (L2N.takes_of rfl rfl rfl rfl) σ) (pa_cons (pv 0) (pa_cons pe_int pa_nil))) pe_int (nomark _)) (pss_cons (ps_set (i := 4) nd rfl (Or.inr rfl) (pe_op (plusK (K := K)) pe_int (pe_cal c__law_pick hr (by omega) (fun σ => L2N.passAt (L2N.takes_of rfl rfl rfl rfl) σ) (pa_cons (pv 0) (pa_cons pe_int pa_nil)))))
        (pss_one (ps_ret (pe_lst (pa_cons (pe_lc (own := [("state", 8)]) rfl nd (pi_range1 (by rfl) T.f_range (pa_cons (pv 4) pa_nil)) (blkOk_by (N := ["source", "letters", "one", "two", "many", "steps", "names", "states", "state", "step", "after", "more", "row", "letter"]) (sc := defScope s__law_f_table) (by decide +kernel)) (fun _ _ _ _ _ => (pg_name (i := 8) nd rfl (Or.inl rfl))) (fun _ _ _ _ _ => pts_nil) (fun _ _ _ _ _ => (pe_lc (own := [("letter", 13)]) rfl nd (pi_range1 (by rfl) T.f_range (pa_cons (pv 1) pa_nil)) (blkOk_by (by kernel_rfl)) (fun _ _ _ _ _ => (pg_name (i := 13) nd rfl (Or.inl rfl))) (fun _ _ _ _ _ => pts_nil) (fun _ _ _ _ _ => (pe_cal c__law_pick hr (by omega) passN (pa_cons (pv 0) (pa_cons (pv 4) pa_nil))))))) (pa_cons (pv 1) pa_nil)))))) pss_nil)
        (pss_cons (ps_setLc (i := 5) (own := [("letter", 13)]) rfl nd rfl rfl (sw_true rfl rfl rfl (by decide +kernel)) (pi_range1 (by rfl) T.f_range (pa_cons (pv 1) pa_nil)) (blkOk_by (N := ["source", "letters", "one", "two", "many", "steps", "names", "states", "state", "step", "after", "more", "row", "letter"]) (sc := defScope s__law_f_table) (by decide +kernel)) (fun _ _ _ _ _ => (pg_name (i := 13) nd rfl (Or.inl rfl))) (fun _ _ _ _ _ => pts_nil) (fun _ _ _ _ _ => (pe_lst (pa_cons (pe_cal c__law_pick hr (by omega) passN (pa_cons (pv 0) (pa_cons (pv 2) pa_nil))) (pa_cons (pe_cal c__law_pick hr (by omega) passN (pa_cons (pv 0) (pa_cons (pv 3) pa_nil))) pa_nil)))))
        (pss_cons (ps_set (i := 6) nd rfl (Or.inl rfl) (pe_cal c__law_shuffled hr (by omega) (fun σ => L2N.passAt (L2N.takes_of rfl rfl rfl rfl) σ) (pa_cons (pv 0) (pa_cons (pe_listRg rfl (by rfl) T.f_list (prg_1 (by rfl) T.f_range (pv 4))) pa_nil))))
        (pss_cons (ps_setLc (i := 7) (own := [("state", 8)]) rfl nd rfl rfl (sw_true rfl rfl rfl (by decide +kernel)) (pi_range1 (by rfl) T.f_range (pa_cons (pv 4) pa_nil)) (blkOk_by (N := ["source", "letters", "one", "two", "many", "steps", "names", "states", "state", "step", "after", "more", "row", "letter"]) (sc := defScope s__law_f_table) (by decide +kernel)) (fun _ _ _ _ _ => (pg_name (i := 8) nd rfl (Or.inl rfl))) (fun _ _ _ _ _ => pts_nil) (fun _ _ _ _ _ => (pe_lst pa_nil)))
        (pss_cons (ps_for (passes_of rfl) rfl (pi_range1 (by rfl) T.f_range (pa_cons (pv 4) pa_nil)) (pg_name (i := 8) nd rfl (Or.inl rfl)) (pss_one (ps_for (passes_of rfl) rfl (piL (K := K) (pv 5)) (pg_name (i := 9) nd rfl (Or.inl rfl)) (pss_cons (ps_set (i := 10) nd rfl (Or.inl rfl) (pe_op (plusK (K := K)) (pe_op op_timesB (pe_op op_mod (pe_callTy cr_int (by rfl) T.f_int (by decide +kernel) (pa_cons (pe_op (plusK (K := K)) (pe_op op_fdivW (pv 8) (pv 3)) (pe_ix (ixK (K := K)) (pv 9) pe_int (fun _ _ => rfl))) pa_nil)) (pv 2)) (pv 3)) (pe_op op_mod (pe_callTy cr_int (by rfl) T.f_int (by decide +kernel) (pa_cons (pe_op (plusK (K := K)) (pv 8) (pe_ix (ixK (K := K)) (pv 9) pe_int (fun _ _ => rfl))) pa_nil)) (pv 3))))
        (pss_one (ps_expr (peBM (K := K) (pe_bm PySem.F.plainAttrs_list PySem.F.slot_list_append PySem.F.type_list_append mt_append (pe_ix (ixK (K := K)) (pv 7) (pe_ix (ixK (K := K)) (pv 6) (pv 8) (fun _ _ => rfl)) (fun _ _ => rfl)) (pa_cons (pe_ix (ixK (K := K)) (pv 6) (pv 10) (fun _ _ => rfl)) pa_nil)))))))))
        (pss_cons (ps_for (passes_of rfl) rfl (pi_range1 (by rfl) T.f_range (pa_cons (pe_ifExp (pt_cmpR op_lt (pv 4) pe_int (nomark _)) (pe_cal c__law_pick hr (by omega) (fun σ => L2N.passAt (L2N.takes_of rfl rfl rfl rfl) σ) (pa_cons (pv 0) (pa_cons pe_int pa_nil))) pe_int) pa_nil)) (pg_name (i := 11) nd rfl (Or.inr rfl)) (pss_one (ps_expr (peBM (K := K) (pe_bm PySem.F.plainAttrs_list PySem.F.slot_list_append PySem.F.type_list_append mt_append (pv 7) (pa_cons (pe_lc (own := [("letter", 13)]) rfl nd (pi_range1 (by rfl) T.f_range (pa_cons (pv 1) pa_nil)) (blkOk_by (N := ["source", "letters", "one", "two", "many", "steps", "names", "states", "state", "step", "after", "more", "row", "letter"]) (sc := defScope s__law_f_table) (by decide +kernel)) (fun _ _ _ _ _ => (pg_name (i := 13) nd rfl (Or.inl rfl))) (fun _ _ _ _ _ => pts_nil) (fun _ _ _ _ _ => (pe_cal c__law_pick hr (by omega) passN (pa_cons (pv 0) (pa_cons (pe_op (plusK (K := K)) (pe_op (plusK (K := K)) (pv 4) (pv 11)) pe_int) pa_nil))))) pa_nil))))))
        (C8.pss_cut (ps_if (pt_cmpR (sameK (K := K) hu) (pe_cal c__law_pick hr (by omega) (fun σ => L2N.passAt (L2N.takes_of rfl rfl rfl rfl) σ) (pa_cons (pv 0) (pa_cons pe_int pa_nil))) pe_int (nomark _)) (pss_cons (ps_set (i := 12) nd rfl (Or.inl rfl) (pe_ix (ixK (K := K)) (pv 7) (pe_cal c__law_pick hr (by omega) (fun σ => L2N.passAt (L2N.takes_of rfl rfl rfl rfl) σ) (pa_cons (pv 0) (pa_cons (pe_callB (lenK (K := K)) (by rfl) T.f_len boot_len (pa_cons (pv 7) pa_nil)) pa_nil))) (fun _ _ => rfl)))
        (pss_one (ps_asg (pe_cal c__law_pick hr (by omega) (fun σ => L2N.passAt (L2N.takes_of rfl rfl rfl rfl) σ) (pa_cons (pv 0) (pa_cons (pe_callB (lenK (K := K)) (by rfl) T.f_len boot_len (pa_cons (pv 7) pa_nil)) pa_nil))) (pg_sub (pv 12) (pe_cal c__law_pick hr (by omega) (fun σ => L2N.passAt (L2N.takes_of rfl rfl rfl rfl) σ) (pa_cons (pv 0) (pa_cons (pv 1) pa_nil))) set_list)))) pss_nil)
        (pss_one (ps_ret (pe_lst (pa_cons (pv 7) (pa_cons (pv 1) pa_nil)))))))))))))))), ?_⟩
  have hp0 := src_some sp
  have lt13 : ∀ z : Int, z ≤ 40 → z < 2 ^ 250 := fun z h => Int.lt_of_lt_of_le (b := 41) (by omega) (by decide)
  walk_at "st"
  refine ⟨p, 5, rfl, sp, by decide, by decide, fun r1 H1 r10 r11 s1 n1 => ?_⟩
  walk_at "st"
  refine r_cut (fun σ' H' => ∃ ls : Nat, 1 ≤ ls ∧ ls ≤ 8 ∧ σ' = [some (.ref p), some (.int ls), none, none, none, none, none, none, none, none, none, none, none, none] ∧ Src H' p ∧ But p H H') ?_ ?_
  · walk_at "st"
    refine ⟨p, 8, rfl, s1, by decide, by decide, fun r2 H2 r20 r21 s2 n2 => ?_⟩
    have b2 : But p H H2 := (But.of n1).trans (.of n2)
    walk_at "st"
    refine ite_d (fun c => ?_) (fun c => ?_)
    · walk_at "st"
      exact ⟨8, by decide, by decide, rfl, s2, b2⟩
    · walk_at "st"
      exact ⟨(1 + r1).toNat, by omega, by omega, by rw [Int.toNat_of_nonneg (by omega)]; rfl, s2, b2⟩
  rintro σ' H3 ⟨ls, l1, l8, rfl, s3, b3⟩
  clear s1 n1
  have PL : PrL p H3 [] := fun x h => absurd h List.not_mem_nil
  walk_at "st"
  intro ba0 G0 hn en hh
  replace PL := PL.step (src_ne s3 hn).symm en hh (by decide) (by decide) (by decide)
  replace s3 := s3.ext en
  replace b3 := b3.ext en
  clear hn en hh
  walk_at "st"
  intro ba1 G1 hn en hh
  replace PL := PL.step (src_ne s3 hn).symm en hh (by decide) (by decide) (by decide)
  replace s3 := s3.ext en
  replace b3 := b3.ext en
  clear hn en hh
  walk_at "st"
  intro ba2 G2 hn en hh
  replace PL := PL.step (src_ne s3 hn).symm en hh (by decide) (by decide) (by decide)
  replace s3 := s3.ext en
  replace b3 := b3.ext en
  clear hn en hh
  walk_at "st"
  intro ba3 G3 hn en hh
  replace PL := PL.step (src_ne s3 hn).symm en hh (by decide) (by decide) (by decide)
  replace s3 := s3.ext en
  replace b3 := b3.ext en
  clear hn en hh
  walk_at "st"
  intro ba4 G4 hn en hh
  replace PL := PL.step (src_ne s3 hn).symm en hh (by decide) (by decide) (by decide)
  replace s3 := s3.ext en
  replace b3 := b3.ext en
  clear hn en hh
  walk_at "st"
  intro ba5 G5 hn en hh
  replace PL := PL.step (src_ne s3 hn).symm en hh (by decide) (by decide) (by decide)
  replace s3 := s3.ext en
  replace b3 := b3.ext en
  clear hn en hh
  walk_at "st"
  intro ba6 G6 hn en hh
  replace PL := PL.step (src_ne s3 hn).symm en hh (by decide) (by decide) (by decide)
  replace s3 := s3.ext en
  replace b3 := b3.ext en
  clear hn en hh
  walk_at "st"
  intro ba7 G7 hn en hh
  replace PL := PL.step (src_ne s3 hn).symm en hh (by decide) (by decide) (by decide)
  replace s3 := s3.ext en
  replace b3 := b3.ext en
  clear hn en hh
  walk_at "st"
  intro ba8 G8 hn en hh
  replace PL := PL.step (src_ne s3 hn).symm en hh (by decide) (by decide) (by decide)
  replace s3 := s3.ext en
  replace b3 := b3.ext en
  clear hn en hh
  walk_at "st"
  intro ba9 G9 hn en hh
  replace PL := PL.step (src_ne s3 hn).symm en hh (by decide) (by decide) (by decide)
  replace s3 := s3.ext en
  replace b3 := b3.ext en
  clear hn en hh
  walk_at "st"
  intro ba10 G10 hn en hh
  replace PL := PL.step (src_ne s3 hn).symm en hh (by decide) (by decide) (by decide)
  replace s3 := s3.ext en
  replace b3 := b3.ext en
  clear hn en hh
  walk_at "st"
  intro ba11 G11 hn en hh
  replace PL := PL.step (src_ne s3 hn).symm en hh (by decide) (by decide) (by decide)
  replace s3 := s3.ext en
  replace b3 := b3.ext en
  clear hn en hh
  walk_at "st"

  intro pl G12 hn en hh
  have plp := (src_ne s3 hn).symm
  simp only [List.nil_append, List.cons_append] at PL
  replace PL : ∃ xs, G12 pl = some (.lst xs) ∧ xs.length = 12 ∧ PrL p G12 xs := ⟨_, hh, rfl, fun x hx => by
    obtain ⟨b, o, t, e1, e2, e3, e4⟩ := PL x hx
    exact ⟨b, o, t, e1, e2, en _ _ e3, e4⟩⟩
  replace s3 := s3.ext en
  replace b3 := b3.ext en
  clear hh hn en
  obtain ⟨xs, hpl, lxs, PL⟩ := PL
  walk_at "st"
  refine ⟨p, 12, rfl, s3, by decide, by decide, fun r4 H4 r40 r41 s4 n4 => ?_⟩
  have er : xs[r4.toNat]? = some xs[r4.toNat] := List.getElem?_eq_getElem (by omega)
  obtain ⟨pa, one, two, epa, pap, hpa, o1, t1, ot⟩ := (PL _ (List.mem_of_getElem? er)).ex
  refine r_atL (sqL (stay n4 plp hpl)) (i := r4) (v := .ref pa) (by rw [show r4 = ((r4.toNat : Nat) : Int) by omega]; exact atI_nat (by rw [er, epa])) ?_
  walk_at "st"
  refine r_glst (sqL (stay n4 pap hpa)) rfl ?_
  have b4 : But p H H4 := b3.trans (.of n4)
  have many1 : 1 ≤ one * two := Nat.mul_pos o1 t1
  have o12 : one ≤ 12 := Nat.le_trans (Nat.le_mul_of_pos_right one t1) ot
  have t12 : two ≤ 12 := Nat.le_trans (Nat.le_mul_of_pos_left two o1) ot
  clear PL hpl hpa er b3 s3
  walk_at "st"
  refine r_timesB (cmR (by omega) (by omega)) ?_
  rw [← Int.natCast_mul]
  generalize hmany : one * two = many at *
  walk_at "st"
  refine ⟨p, 4, rfl, s4, by decide, by decide, fun r5 H5 r50 r51 s5 n5 => ?_⟩
  have b5 : But p H H5 := b4.trans (.of n5)
  walk_at "st"
  refine ite_d (fun c => ?_) (fun c => ?_)
  · -- drawn freely
    walk_at "st"
    refine ⟨p, 5, rfl, s5, by decide, by decide, fun mn H6 m0 m1 s6 n6 => ?_⟩
    have b6 : But p H H6 := b5.trans (.of n6)
    walk_at "st"
    intro D2 hD2
    refine lcW_range (RowsP p H6 D2 (1 + mn) ls) (.start s6 hD2) (fun i H7 hi q => ?_) (fun H7 q => ?_)
    · walk_at "st"
      refine r_lcW rfl ?_
      walk_at "st"
      intro D3 hD3
      rw [Int.toNat_natCast]
      refine lcW_range (DrP p H7 D3 (fun z => 0 ≤ z ∧ z < 1 + mn)) (.start q.s hD3) (fun j H8 hj q7 => ?_) (fun H8 q7 => ?_)
      · walk_at "st"
        refine r_lcW rfl ?_
        walk_at "st"
        exact ⟨p, _, rfl, q7.s, by omega, lt13 _ (by omega), fun r H9 r0 r1 s9 n9 => q7.push hD3 (src_some q.s) (by omega) s9 n9 ⟨r0, r1⟩⟩
      obtain ⟨s8, b8, ns, h8, ln, hz⟩ := q7
      exact q.push hD2 (src_some s6) (by omega) s8 b8 hD3 (src_ne q.s hD3).symm h8 ln hz
    walk_at "st"
    intro q' H8 hq' e8 h8
    obtain ⟨st, N, G, L⟩ := q.tb hD2 (src_some s6) (by omega) l1
    have b7 := b6.trans q.b
    have qp : q' ≠ p := (src_ne q.s hq').symm
    exact k q' D2 st ls H8 qp (b7.noneOf qp hq') (q.s.ext e8) (b7.ext e8) h8 (N.keep (fun a o s z => ⟨e8 _ _ z, s.1, b6.noneOf s.1 s.2⟩) _) G (by omega) (by omega)
  -- a product of two rings
  walk_at "st"
  intro sa hsa
  rw [Int.toNat_natCast]
  refine lcW_range (StP p H5 sa one two) ⟨s5.ext (.new hsa), ext_but (.new hsa), [], upd_same, rfl, fun j a h => by simp at h⟩ (fun i H6 hi q => ?_) (fun H6 q => ?_)
  · walk_at "st"
    refine r_lcW rfl ?_
    walk_at "st"
    refine ⟨p, one, rfl, q.s, by omega, lt13 _ (by omega), fun x H7 x0 x1 s7 n7 => ?_⟩
    walk_at "st"
    refine ⟨p, two, rfl, s7, by omega, lt13 _ (by omega), fun y H8 y0 y1 s8 n8 => ?_⟩
    walk_at "st"
    intro a H9 ha e9 h9
    exact q.push hsa (src_some s5) (by omega) s8 ((But.of n7).trans (.of n8)) ha e9 h9 x0 y0
  obtain ⟨s6, b56, ss, h6, lss, hss⟩ := q
  have b6 := b5.trans b56
  have sap : sa ≠ p := (src_ne s5 hsa).symm
  walk_at "st"
  refine r_rg0 (by omega) (fun l7 H7 hl7 e7 h7 => ?_)
  have s7 := s6.ext e7
  walk_at "st"
  refine ⟨p, l7, _, rfl, s7, sqL h7, by rw [List.length_map, List.length_range]; omega, fun nq H8 ys hnq pe s8 h8 b8 => ?_⟩
  obtain ⟨nl, rfl, npe⟩ := perm_names pe
  have nqp : nq ≠ p := (src_ne s7 hnq).symm
  have nll : nl.length = many := by have := npe.length_eq; rwa [List.length_range] at this
  have nnd : nl.Nodup := npe.nodup_iff.mpr List.nodup_range
  have nmem : ∀ x, x ∈ nl ↔ x < many := fun x => by rw [npe.mem_iff, List.mem_range]
  have h8s : H8 sa = some (.lst (ss.map V.ref)) := b8 _ _ sap (e7 _ _ h6)
  have hss8 : ∀ (j : Nat) (a : Addr), ss[j]? = some a → a ≠ p ∧ ∃ x y : Int, H8 a = some (.lst [.int x, .int y]) ∧ 0 ≤ x ∧ 0 ≤ y := fun j a hj => by
    obtain ⟨a1, a2, x, y, a3, a4⟩ := hss j a hj
    exact ⟨a1, x, y, b8 _ _ a1 (e7 _ _ a3), a4⟩
  have b18 := (b6.ext e7).trans b8
  walk_at "st"
  intro ts hts
  have hp8 := src_some s8
  have tsp : ts ≠ p := (src_ne s8 hts).symm
  rw [Int.toNat_natCast]
  refine lcW_range (fun i H' => ∃ as, RQ p H8 ts as (List.replicate i []) H') ⟨[], hp8, s8.ext (.new hts), ext_but (.new hts), upd_same, hts, rfl, List.nodup_nil, fun j r h => by simp at h⟩ (fun i H9 hi ⟨as, q⟩ => ?_) (fun H9 ⟨as, q⟩ => ?_)
  · walk_at "st"
    refine r_lcW rfl ?_
    walk_at "st"
    intro b H10 hb e10 h10
    have hl : as.length = i := by have := q.len; rwa [List.length_replicate] at this
    refine ⟨_, e10 _ _ q.t, by rw [List.length_map, sizeLine_eq]; omega, as ++ [b], ?_⟩
    rw [List.replicate_succ']
    exact q.add hb (q.s.ext e10) (ext_but e10) h10 upd_same fun c hc => upd_ne hc
  walk_at "st"
  rw [Int.toNat_natCast]
  have lenat : ∀ {st : List (List Int)} {r : Nat}, st.length = many → r < many → st[r]? = some (st.getD r []) := fun {st r} h1 h2 => by rw [List.getD_eq_getElem?_getD, List.getElem?_eq_getElem (by omega)]; rfl
  refine forW_range (fun s σ' H' => ∃ v8 v9 v10 as st, σ' = [some (.ref p), some (.int ls), some (.int one), some (.int two), some (.int many), some (.ref sa), some (.ref nq), some (.ref ts), v8, v9, v10, none, none, none] ∧ RQ p H8 ts as st H' ∧ st.length = many ∧ (∀ row ∈ st, ∀ z ∈ row, 0 ≤ z ∧ z < many) ∧ ∀ (t r : Nat), nl[t]? = some r → (st.getD r []).length = if t < s then ls else 0) ⟨none, none, none, as, _, rfl, q, by rw [List.length_replicate], fun row hr => by rw [List.eq_of_mem_replicate hr]; exact fun z hz => absurd hz List.not_mem_nil, fun t r htr => by
    rw [if_neg (Nat.not_lt_zero _), List.getD_eq_getElem?_getD, List.getElem?_replicate]
    split <;> rfl⟩ ?_ ?_
  · rintro s σ' H10 hs ⟨v8, v9, v10, as, st, rfl, R, stl, hz, hlen⟩
    obtain ⟨r, hr⟩ : ∃ r, nl[s]? = some r := ⟨nl[s]'(by omega), List.getElem?_eq_getElem (by omega)⟩
    have rm : r < many := (nmem r).mp (List.mem_of_getElem? hr)
    walk_at "st"
    rw [Int.zero_add]
    refine r_li (sqL (R.b _ _ sap h8s)) ?_
    refine forW_list (fun j σ' H' => ∃ v9 v10 st, σ' = [some (.ref p), some (.int ls), some (.int one), some (.int two), some (.int many), some (.ref sa), some (.ref nq), some (.ref ts), some (.int (s : Nat)), v9, v10, none, none, none] ∧ RQ p H8 ts as st H' ∧ st.length = many ∧ (∀ row ∈ st, ∀ z ∈ row, 0 ≤ z ∧ z < many) ∧ ∀ (t r : Nat), nl[t]? = some r → (st.getD r []).length = if t < s then ls else if t = s then j else 0) ⟨v9, v10, st, rfl, R, stl, hz, fun t r htr => by
      rw [hlen t r htr]
      by_cases c : t < s
      · rw [if_pos c, if_pos c]
      · rw [if_neg c, if_neg c]
        split <;> rfl⟩ (fun i σ' H' _ ⟨_, _, _, _, R, _⟩ => sqL (R.b _ _ sap h8s)) ?_ ?_
    · rintro j x σ' H11 hx ⟨v9, v10, st, rfl, R, stl, hz, hlen⟩
      rw [List.getElem?_map] at hx
      obtain ⟨sta, hsta, rfl⟩ := Option.map_eq_some_iff.mp hx
      obtain ⟨stp_, x, y, hxy, x0, y0⟩ := hss8 j sta hsta
      have hst11 := R.b _ _ stp_ hxy
      have hn11 := R.b _ _ nqp h8
      walk_at "st"
      refine r_div (cdW (by omega) (lt13 _ (by omega))) ?_
      walk_at "st"
      refine r_atL (sqL hst11) (atI_nat (j := 0) rfl) ?_
      walk_at "st"
      refine r_timesB (cmR (by omega) (by omega)) ?_
      walk_at "st"
      refine r_atL (sqL hst11) (atI_nat (j := 1) rfl) ?_
      walk_at "st"
      have af : ∃ af : Nat, af < many ∧ ((s : Int) / (two : Int) + x) % (one : Int) * (two : Int) + ((s : Int) + y) % (two : Int) = (af : Int) := by
        have u0 := Int.emod_nonneg ((s : Int) / (two : Int) + x) (show (one : Int) ≠ 0 by omega)
        have u1 := Int.emod_lt_of_pos ((s : Int) / (two : Int) + x) (show (0 : Int) < one by omega)
        have w0 := Int.emod_nonneg ((s : Int) + y) (show (two : Int) ≠ 0 by omega)
        have w1 := Int.emod_lt_of_pos ((s : Int) + y) (show (0 : Int) < two by omega)
        generalize ((s : Int) / (two : Int) + x) % (one : Int) = u at *
        generalize ((s : Int) + y) % (two : Int) = v at *
        have p1 : u * (two : Int) ≤ ((one : Int) - 1) * (two : Int) := Int.mul_le_mul_of_nonneg_right (by omega) (by omega)
        have p2 : 0 ≤ u * (two : Int) := Int.mul_nonneg u0 (by omega)
        rw [Int.sub_mul, Int.one_mul, ← Int.natCast_mul, hmany] at p1
        exact ⟨(u * (two : Int) + v).toNat, by omega, by omega⟩
      obtain ⟨af, afm, eaf⟩ := af
      rw [eaf]
      obtain ⟨rv, hrv⟩ : ∃ rv, nl[af]? = some rv := ⟨nl[af]'(by omega), List.getElem?_eq_getElem (by omega)⟩
      have rvm : rv < many := (nmem rv).mp (List.mem_of_getElem? hrv)
      obtain ⟨ra, ra1, ra2, ra3, ra4, ra5⟩ := R.row r _ (lenat stl rm)
      have nat_at : ∀ (t r : Nat), nl[t]? = some r → (nl.map fun (i : Nat) => V.int (i : Nat))[t]? = some (V.int (r : Nat)) := fun t r h => by rw [List.getElem?_map, h]; rfl
      refine r_atL (sqL hn11) (atI_nat (nat_at s r hr)) ?_
      refine r_atL (sqL R.t) (atI_nat (j := r) (v := .ref ra) (by rw [List.getElem?_map, ra1]; rfl)) ?_
      refine ⟨.inl ⟨rfl, _, sqL ra5⟩, ?_⟩
      walk_at "st"
      refine r_atL (sqL hn11) (atI_nat (nat_at af rv hrv)) ?_
      have rl := hlen s r hr
      rw [if_neg (by omega), if_pos rfl] at rl
      have jl : j < ls := by rw [← lss]; exact (List.getElem?_eq_some_iff.mp hsta).1
      walk_at "st"
      refine r_app ra5 (by rw [List.length_map]; omega) (fun H12 h12 n12 => ?_)
      have R' := R.upd (row' := st.getD r [] ++ [(rv : Int)]) ra1 (by rw [h12, List.map_append]; rfl) n12
      have getD_set : ∀ (r' : Nat) (row : List Int), (st.set r row).getD r' [] = if r = r' then row else st.getD r' [] := fun r' row => by
        rw [List.getD_eq_getElem?_getD, List.getD_eq_getElem?_getD, List.getElem?_set]
        by_cases c : r = r'
        · rw [if_pos c, if_pos c, if_pos (by omega)]; rfl
        · rw [if_neg c, if_neg c]
      refine ⟨_, _, _, rfl, R', by rw [List.length_set]; exact stl, fun row hrow z hzr => ?_, fun t r' htr => ?_⟩
      · rcases List.mem_or_eq_of_mem_set hrow with h | h
        · exact hz row h z hzr
        · rw [h] at hzr
          rcases List.mem_append.mp hzr with h | h
          · exact hz _ (List.mem_of_getElem? (lenat stl rm)) z h
          · rw [List.mem_singleton.mp h]; omega
      · rw [getD_set]
        by_cases c : r = r'
        · have : t = s := nodup_at nnd htr (by rw [← c]; exact hr)
          rw [if_pos c, if_neg (by omega), if_pos this, List.length_append, rl]
          rfl
        · rw [if_neg c, hlen t r' htr]
          have : t ≠ s := fun e => c (by rw [e, hr] at htr; exact Option.some.inj htr)
          by_cases c2 : t < s
          · rw [if_pos c2, if_pos c2]
          · rw [if_neg c2, if_neg c2, if_neg this, if_neg this]
    · rintro σ' H11 ⟨v9, v10, st, rfl, R, stl, hz, hlen⟩
      refine ⟨_, _, _, as, st, rfl, R, stl, hz, fun t r htr => ?_⟩
      rw [hlen t r htr, List.length_map, lss]
      by_cases c : t < s
      · rw [if_pos c, if_pos (by omega)]
      · by_cases c2 : t = s
        · rw [if_neg c, if_pos c2, if_pos (by omega)]
        · rw [if_neg c, if_neg c2, if_neg (by omega)]
  rintro σ' H10 ⟨v8, v9, v10, as', st, rfl, R, stl, hz, hlen⟩
  have wid : ∀ row ∈ st, row.length = ls := fun row hrow => by
    obtain ⟨r, hr⟩ := List.mem_iff_getElem?.mp hrow
    have hrl := (List.getElem?_eq_some_iff.mp hr).1
    obtain ⟨t, ht⟩ := List.mem_iff_getElem?.mp ((nmem r).mpr (by omega))
    have h := hlen t r ht
    have htl := (List.getElem?_eq_some_iff.mp ht).1
    rw [if_pos (by omega)] at h
    rw [lenat stl (by omega)] at hr
    rw [← Option.some.inj hr]
    exact h
  clear q hlen
  walk_at "st"
  refine ite_joinE (fun v H' => ∃ kk : Nat, v = .int kk ∧ many + kk ≤ 12 ∧ RQ p H8 ts as' st H') (fun Q' hQ => ?_) ?_
  · refine ite_d (fun c => ?_) (fun c => ?_)
    · walk_at "st"
      refine ⟨p, 3, rfl, R.s, by decide, by decide, fun r H11 r0 r1 s11 n11 => hQ _ _ ⟨r.toNat, by rw [Int.toNat_of_nonneg r0], by omega, R.pick s11 n11⟩⟩
    · exact hQ _ _ ⟨0, rfl, by omega, R⟩
  rintro v H11 ⟨kk, rfl, mk, R11⟩
  clear R
  walk_at "st"
  rw [Int.toNat_natCast]
  refine forW_range (fun i σ' H' => ∃ v8 v9 v10 v11 as st, σ' = [some (.ref p), some (.int ls), some (.int one), some (.int two), some (.int many), some (.ref sa), some (.ref nq), some (.ref ts), v8, v9, v10, v11, none, none] ∧ RQ p H8 ts as st H' ∧ st.length = many + i ∧ (∀ row ∈ st, row.length = ls) ∧ (∀ row ∈ st, ∀ z ∈ row, 0 ≤ z ∧ z < st.length)) ⟨v8, v9, v10, none, as', st, rfl, R11, stl, wid, fun row hr z hzr => by have := hz row hr z hzr; omega⟩ ?_ ?_
  · rintro i σ' H12 hi ⟨v8, v9, v10, v11, as, st, rfl, R, stl, wid, hz⟩
    walk_at "st"
    refine ⟨.inl ⟨rfl, _, sqL R.t⟩, ?_⟩
    walk_at "st"
    intro D hD
    rw [Int.toNat_natCast, Int.zero_add]
    refine lcW_range (DrP p H12 D (fun z => 0 ≤ z ∧ z < (many : Int) + i + 1)) (.start R.s hD) (fun j H13 hj q7 => ?_) (fun H13 q7 => ?_)
    · walk_at "st"
      refine r_lcW rfl ?_
      walk_at "st"
      exact ⟨p, _, rfl, q7.s, by omega, lt13 _ (by omega), fun r H9 r0 r1 s9 n9 => q7.push hD (src_some R.s) (by omega) s9 n9 ⟨r0, r1⟩⟩
    obtain ⟨s13, b13, ns, h13, ln, hzn⟩ := q7
    have al := R.len
    walk_at "st"
    refine r_app (b13 _ _ tsp R.t) (by rw [List.length_map]; omega) (fun H14 h14 n14 => ?_)
    refine ⟨_, _, _, _, as ++ [D], st ++ [ns], rfl, R.add hD s13 b13 h13 h14 n14, by rw [List.length_append, stl]; rfl, fun row hr => ?_, fun row hr z hzr => ?_⟩
    · rcases List.mem_append.mp hr with h | h
      · exact wid row h
      · rw [List.mem_singleton.mp h]; exact ln
    · rw [List.length_append]
      show 0 ≤ z ∧ z < ((st.length + 1 : Nat) : Int)
      rcases List.mem_append.mp hr with h | h
      · have := hz row h z hzr; omega
      · rw [List.mem_singleton.mp h] at hzr
        have := hzn z hzr; omega
  rintro σ' H12 ⟨v8, v9, v10, v11, as, st, rfl, R, stl, wid, hz⟩
  clear R11
  walk_at "st"
  refine r_cut (fun σ' H' => ∃ v12 st, σ' = [some (.ref p), some (.int ls), some (.int one), some (.int two), some (.int many), some (.ref sa), some (.ref nq), some (.ref ts), v8, v9, v10, v11, v12, none] ∧ RQ p H8 ts as st H' ∧ st.length = many + kk ∧ (∀ row ∈ st, row.length = ls) ∧ (∀ row ∈ st, ∀ z ∈ row, 0 ≤ z ∧ z < st.length)) ?_ ?_
  · walk_at "st"
    refine ⟨p, 2, rfl, R.s, by decide, by decide, fun r H13 r0 r1 s13 n13 => ?_⟩
    have R13 := R.pick s13 n13
    have al := R.len
    walk_at "st"
    refine ite_d (fun c => ?_) (fun c => ?_)
    · walk_at "st"
      refine r_lenL (sqL R13.t) (n := st.length) (by rw [List.length_map, al]) ?_
      walk_at "st"
      refine ⟨p, _, rfl, s13, by omega, lt13 _ (by omega), fun r14 H14 r140 r141 s14 n14 => ?_⟩
      have R14 := R13.pick s14 n14
      have hr14 : r14.toNat < st.length := by omega
      obtain ⟨ra, ra1, ra2, ra3, ra4, ra5⟩ := R14.row r14.toNat _ (List.getElem?_eq_getElem hr14)
      refine r_atL (sqL R14.t) (i := r14) (v := .ref ra) (by rw [show r14 = ((r14.toNat : Nat) : Int) by omega]; exact atI_nat (by rw [List.getElem?_map, ra1]; rfl)) ?_
      walk_at "st"
      refine r_lenL (sqL R14.t) (n := st.length) (by rw [List.length_map, al]) ?_
      walk_at "st"
      refine ⟨p, _, rfl, s14, by omega, lt13 _ (by omega), fun r15 H15 r150 r151 s15 n15 => ?_⟩
      have R15 := R14.pick s15 n15
      walk_at "st"
      refine ⟨p, _, rfl, s15, by omega, lt13 _ (by omega), fun r16 H16 r160 r161 s16 n16 => ?_⟩
      have R16 := R15.pick s16 n16
      have w14 := wid _ (List.getElem_mem hr14)
      refine r_setL (j := r16.toNat) ((n16 _ ra2).trans ((n15 _ ra2).trans ra5)) (by omega) (by rw [List.length_map]; omega) (fun H17 h17 n17 => ?_)
      refine ⟨_, _, rfl, R16.upd (row' := st[r14.toNat].set r16.toNat r15) ra1 (by rw [h17, List.map_set]) n17, by rw [List.length_set]; exact stl, fun row hr => ?_, fun row hr z hzr => ?_⟩
      · rcases List.mem_or_eq_of_mem_set hr with h | h
        · exact wid row h
        · rw [h, List.length_set]; exact w14
      · rw [List.length_set]
        rcases List.mem_or_eq_of_mem_set hr with h | h
        · exact hz row h z hzr
        · rw [h] at hzr
          rcases List.mem_or_eq_of_mem_set hzr with h | h
          · exact hz _ (List.getElem_mem hr14) z h
          · rw [h]; exact ⟨r150, r151⟩
    · walk_at "st"
      exact ⟨_, st, rfl, R13, stl, wid, hz⟩
  rintro σ' H13 ⟨v12, st, rfl, R, stl, wid, hz⟩
  walk_at "st"
  intro q' H14 hq' e14 h14
  have qp : q' ≠ p := (src_ne R.s hq').symm
  have b13 := b18.trans R.b
  exact k q' ts st ls H14 qp (b13.noneOf qp hq') (R.s.ext e14) (b13.ext e14) h14 (R.nw.keep (fun a o s z => ⟨e14 _ _ z, s.1, b18.noneOf s.1 s.2⟩) _) ⟨⟨by omega, fun row hr => by rw [wid row hr]⟩, fun e => by rw [e] at stl; have : 0 = many + kk := stl; omega, hz⟩ (by omega) (by omega)

end
end K29
set_option maxRecDepth 100000
set_option maxHeartbeats 4000000
namespace K29
open PySem PySem.Spec PyProof.Rows L2 L3
local macro_rules | `(tactic| walk_at "s1") => `(tactic| first
  | with_reducible refine r_seq ?_
  | with_reducible refine r_asgN ?_
  | with_reducible refine r_ret ?_
  | with_reducible refine r_next ?_
  | ((with_reducible refine' r_var ?hv ?_); (case hv => exact rfl))
  | with_reducible refine r_c ?_
  | with_reducible refine r_op ?_
  | with_reducible refine r_cons ?_
  | with_reducible refine r_nil ?_
  | with_reducible refine r_plusI ?_
  | with_reducible refine r_I0 ?_
  | with_reducible refine r_test ?_
  | with_reducible refine r_bl ?_
  | with_reducible refine r_ifS ?_
  | with_reducible refine r_cb ?_
  | with_reducible refine r_callS ?_
  | with_reducible refine r_and ?_
  | with_reducible refine r_or ?_
  | with_reducible refine r_not ?_
  | with_reducible refine r_B ?_
  | ((with_reducible refine' r_aug ?hv ?_); (case hv => exact rfl))
  | with_reducible refine r_augS ?_
  | with_reducible refine r_ipI ?_
  | with_reducible refine r_asg ?_
  | with_reducible refine r_sub ?_
  | with_reducible refine r_brk ?_
  | with_reducible refine r_isN1 ?_
  | with_reducible refine r_notN1 ?_
  | with_reducible refine r_intI ?_
  | with_reducible refine r_abs ?_
  | with_reducible refine r_min ?_
  | with_reducible refine r_max ?_
  | ((with_reducible refine' r_mod ?hz ?_); (case hz => omega))
  | ((with_reducible refine' r_pow ?hz ?_); (case hz => exact ⟨by decide, by decide, by decide⟩))
  | ((with_reducible refine' r_rg1 ?hz ?_); (case hz => omega))
  | ((with_reducible refine' r_rg2 ?hz ?_); (case hz => omega))
  | ((with_reducible refine' r_newL ?hz ?_); (case hz => exact Nat.le_of_ble_eq_true rfl))
  | ((with_reducible refine' r_newT ?hz ?_); (case hz => exact Nat.le_of_ble_eq_true rfl))
  | with_reducible refine r_for ?_
  | with_reducible refine r_lc ?_
  | with_reducible refine r_iR1 ?_
  | with_reducible refine r_iR2 ?_
  | with_reducible refine r_iL ?_
  | with_reducible refine r_iT ?_
  | with_reducible refine r_gname ?_
  | with_reducible refine r_gcons ?_
  | with_reducible refine r_gnil ?_
  | with_reducible refine r_yes ?_
  | with_reducible refine r_mkO ?_
  | with_reducible refine r_cont ?_
  | with_reducible refine r_drop ?_
  | with_reducible refine r_retN ?_
  | with_reducible refine r_ifC ?_
  | with_reducible refine r_ifI ?_
  | with_reducible refine r_if ?_
  | with_reducible refine r_un ?_
  | with_reducible refine r_neg ?_
  | with_reducible refine r_andV ?_
  | with_reducible refine r_orV ?_
  | with_reducible refine r_notV ?_
  | with_reducible refine r_tup ?_
  | with_reducible refine r_lst ?_
  | with_reducible refine r_bm ?_
  | with_reducible refine r_bm0 ?_
  | with_reducible refine r_sl ?_
  | with_reducible refine r_chain ?_
  | with_reducible refine r_listDn ?_
  | with_reducible refine r_listRg2 ?_
  | with_reducible refine r_listRg1 ?_
  | with_reducible refine r_revL ?_
  | with_reducible refine r_noPart ?_
  | with_reducible refine r_dgt ?_
  | with_reducible refine r_din ?_
  | with_reducible refine r_dnin ?_
  | with_reducible refine r_dput ?_
  | with_reducible refine r_dnew ?_
  | with_reducible refine r_disp1 ?_
  | with_reducible refine r_lenSet ?_
  | with_reducible refine r_part ?_
  | with_reducible refine r_int ?_
  | ((with_reducible refine' r_sameS ?hs ?_); (case hs => exact rfl))
  | ((with_reducible refine' r_otherS ?hs ?_); (case hs => exact rfl))
  | with_reducible refine ite_t ?_
  | with_reducible refine ite_f ?_
  | with_reducible refine ite_nt ?_
  | with_reducible refine ite_nf ?_)
local macro_rules | `(tactic| walk_at "st") => `(tactic| repeat (walk_at "s1"))

section
variable {P : Program} {w : World} {K : PySem.W.Frag} {mg : Str → Option Value} {base : Heap}
/-! ### wrong tables -/
abbrev TbP (p : Addr) (H : Hp) (t : Addr) (st : List (List Int)) : Prop := Nw (· ≠ p) H (.ref t) (tbD st)
inductive Due (st : List (List Int)) (m : Int) : Str → Str → Prop
  | l : 8 < m → Due st m "TooMany" "letters"
  | s : m ≤ 8 → 12 < st.length → Due st m "TooMany" "states"
  | b {what : Str} : m ≤ 8 → st.length ≤ 12 → BadSt st m what → Due st m "BadCheck" what
def spWrong (K : PySem.W.Frag) : Sp := fun vs H Q _ => ∃ (p t : Addr) (st : List (List Int)) (m : Nat), vs = [.ref p, .ref t, .int m] ∧ Src H p ∧ TbP p H t st ∧ GoodSt st m ∧ m ≤ 8 ∧ st.length ≤ 12 ∧
  ∀ q t' st' (m' : Int) due C what H', q ≠ p → due ≠ p → Src H' p → But p H H' → H' q = some (.lst [.ref t', .int m', .ref due]) → TbP p H' t' st' → H' due = some (.tup [.str C, .str what]) → Due st' m' C what → Q (.ref q) H'
theorem rep_get {α : Type} {k i : Nat} {x y : α} (h : (List.replicate k x)[i]? = some y) : i < k ∧ y = x := by
  have hl := (List.getElem?_eq_some_iff.mp h).1
  rw [List.length_replicate] at hl
  rw [List.getElem?_replicate, if_pos hl] at h
  exact ⟨hl, (Option.some.inj h).symm⟩
theorem rep_refs (k : Nat) (a : Addr) : (List.replicate k [V.ref a]).flatten = (List.replicate k a).map V.ref := by rw [List.flatten_replicate_singleton, List.map_replicate]
theorem rep_ints (k : Nat) (c : Int) : (List.replicate k [V.int c]).flatten = (List.replicate k c).map V.int := by
  rw [List.flatten_replicate_singleton, List.map_replicate]
theorem sc__law_f_wrong : FnScope ["source", "states", "letters", "rows", "at", "way", "row", "odd"] ["source", "states", "letters"] (defScope s__law_f_wrong) := ⟨rfl, rfl, rfl, by decide +kernel, rfl, by decide +kernel, by decide +kernel⟩
theorem ok_law_f_wrong (T : Txt w K mg) : CalG P w K mg base 6 "_law_f_wrong" ["source", "states", "letters"] (spWrong K) := by
  have c__law_pick := ok_law_pick (P := P) (base := base) T
  have c__law_copied := ok_law_copied (P := P) (base := base) T 3
  refine calG_of T.g__law_f_wrong T.d__law_f_wrong sc__law_f_wrong (fun _ _ _ _ _ _ _ us hl => match us, hl with | [_, _, _], _ => rfl) (fun vs H Q E h => by obtain ⟨_, _, _, _, rfl, _⟩ := h; rfl) (fun cdv A outer s H vs Q E hr h => ?_)
  have nd := sc__law_f_wrong.nd
  have hu := hu64 hr
  obtain ⟨p, t, st, m, rfl, sp, ht, g, m8, l12, k⟩ := h
  have m1 : 1 ≤ m := by have := g.1.1; omega
  have st0 := good_pos g
  have wid : ∀ row ∈ st, row.length = m := fun row hr => by have := g.1.2 row hr; omega
  have small : smallD 3 (tbD st) := small_tb (by omega) fun row hr => by rw [wid row hr]; omega
  have lt13 : ∀ z : Int, z ≤ 40 → z < 2 ^ 250 := fun z h => Int.lt_of_lt_of_le (b := 41) (by omega) (by decide)
  refine ⟨_, (pss_cons (ps_set (i := 3) nd rfl (Or.inl rfl) (pe_cal c__law_copied hr (by omega) (fun σ => L2N.passAt (L2N.takes_of rfl rfl rfl rfl) σ) (pa_cons (pv 1) pa_nil)))
        (pss_cons (ps_set (i := 4) nd rfl (Or.inl rfl) (pe_cal c__law_pick hr (by omega) (fun σ => L2N.passAt (L2N.takes_of rfl rfl rfl rfl) σ) (pa_cons (pv 0) (pa_cons (pe_callB (lenK (K := K)) (by rfl) T.f_len boot_len (pa_cons (pv 3) pa_nil)) pa_nil))))
        (pss_cons (ps_set (i := 5) nd rfl (Or.inl rfl) (pe_cal c__law_pick hr (by omega) (fun σ => L2N.passAt (L2N.takes_of rfl rfl rfl rfl) σ) (pa_cons (pv 0) (pa_cons pe_int pa_nil))))
        (pss_cons (ps_if (pt_cmpR (sameK (K := K) hu) (pv 5) pe_int (nomark _)) (pss_one (ps_ret (pe_lst (pa_cons (pv 3) (pa_cons (pe_op (plusK (K := K)) pe_int (pe_cal c__law_pick hr (by omega) (fun σ => L2N.passAt (L2N.takes_of rfl rfl rfl rfl) σ) (pa_cons (pv 0) (pa_cons pe_int pa_nil)))) (pa_cons (pe_tup (pa_cons pe_str (pa_cons pe_str pa_nil))) pa_nil)))))) pss_nil)
        (pss_cons (ps_if (pt_cmpR (sameK (K := K) hu) (pv 5) pe_int (nomark _)) (pss_one (ps_ret (pe_lst (pa_cons (pe_op (plusK (K := K)) (pv 3) (pe_op op_timesB (pe_lst (pa_cons (pe_ix (ixK (K := K)) (pv 3) pe_int (fun _ _ => rfl)) pa_nil)) (pe_op op_sub pe_int (pe_callB (lenK (K := K)) (by rfl) T.f_len boot_len (pa_cons (pv 3) pa_nil))))) (pa_cons (pv 2) (pa_cons (pe_tup (pa_cons pe_str (pa_cons pe_str pa_nil))) pa_nil)))))) pss_nil)
        (pss_cons (ps_if (pt_cmpR (sameK (K := K) hu) (pv 5) pe_int (nomark _)) (pss_one (ps_ret (pe_lst (pa_cons (pv 3) (pa_cons (pe_op op_sub pe_int (pe_cal c__law_pick hr (by omega) (fun σ => L2N.passAt (L2N.takes_of rfl rfl rfl rfl) σ) (pa_cons (pv 0) (pa_cons pe_int pa_nil)))) (pa_cons (pe_tup (pa_cons pe_str (pa_cons pe_str pa_nil))) pa_nil)))))) pss_nil)
        (pss_cons (ps_if (pt_cmpR (sameK (K := K) hu) (pv 5) pe_int (nomark _)) (pss_cons (ps_asg (pe_op (plusK (K := K)) (pe_ix (ixK (K := K)) (pv 3) (pv 4) (fun _ _ => rfl)) (pe_lst (pa_cons pe_int pa_nil))) (pg_sub (pv 3) (pv 4) set_list))
        (pss_one (ps_ret (pe_lst (pa_cons (pv 3) (pa_cons (pv 2) (pa_cons (pe_tup (pa_cons pe_str (pa_cons pe_str pa_nil))) pa_nil))))))) pss_nil)
        (pss_cons (ps_if (pt_cmpR (sameK (K := K) hu) (pv 5) pe_int (nomark _)) (pss_one (ps_ret (pe_lst (pa_cons (pe_lst pa_nil) (pa_cons (pv 2) (pa_cons (pe_tup (pa_cons pe_str (pa_cons pe_str pa_nil))) pa_nil)))))) pss_nil)
        (pss_cons (ps_set (i := 6) nd rfl (Or.inl rfl) (pe_ix (ixK (K := K)) (pv 3) (pv 4) (fun _ _ => rfl)))
        (pss_cons (ps_set (i := 7) nd rfl (Or.inl rfl) (pe_ix (ixK (K := K)) (pe_lst (pa_cons (pe_callB (lenK (K := K)) (by rfl) T.f_len boot_len (pa_cons (pv 3) pa_nil)) (pa_cons (pe_op (plusK (K := K)) (pe_callB (lenK (K := K)) (by rfl) T.f_len boot_len (pa_cons (pv 3) pa_nil)) (pe_cal c__law_pick hr (by omega) (fun σ => L2N.passAt (L2N.takes_of rfl rfl rfl rfl) σ) (pa_cons (pv 0) (pa_cons (pe_op op_pow pe_int pe_int) pa_nil)))) (pa_cons (pe_un un_neg pe_int) pa_nil)))) (pe_cal c__law_pick hr (by omega) (fun σ => L2N.passAt (L2N.takes_of rfl rfl rfl rfl) σ) (pa_cons (pv 0) (pa_cons pe_int pa_nil))) (fun _ _ => rfl)))
        (pss_cons (ps_asg (pv 7) (pg_sub (pv 6) (pe_cal c__law_pick hr (by omega) (fun σ => L2N.passAt (L2N.takes_of rfl rfl rfl rfl) σ) (pa_cons (pv 0) (pa_cons (pv 2) pa_nil))) set_list))
        (pss_cons (ps_if (pt_cmpR (sameK (K := K) hu) (pv 5) pe_int (nomark _)) (pss_cons (ps_asg (pe_op op_timesB (pe_lst (pa_cons pe_int pa_nil)) (pe_op (plusK (K := K)) (pv 2) pe_int)) (pg_sub (pv 3) (pe_cal c__law_pick hr (by omega) (fun σ => L2N.passAt (L2N.takes_of rfl rfl rfl rfl) σ) (pa_cons (pv 0) (pa_cons (pe_callB (lenK (K := K)) (by rfl) T.f_len boot_len (pa_cons (pv 3) pa_nil)) pa_nil))) set_list))
        (pss_one (ps_ret (pe_lst (pa_cons (pv 3) (pa_cons (pv 2) (pa_cons (pe_tup (pa_cons pe_str (pa_cons pe_str pa_nil))) pa_nil))))))) pss_nil)
        (pss_cons (ps_if (pt_cmpR (sameK (K := K) hu) (pv 5) pe_int (nomark _)) (pss_one (ps_ret (pe_lst (pa_cons (pe_op (plusK (K := K)) (pv 3) (pe_op op_timesB (pe_lst (pa_cons (pe_op op_timesB (pe_lst (pa_cons pe_int pa_nil)) pe_int) pa_nil)) pe_int)) (pa_cons (pv 2) (pa_cons (pe_tup (pa_cons pe_str (pa_cons pe_str pa_nil))) pa_nil)))))) pss_nil)
        (pss_one (ps_ret (pe_lst (pa_cons (pv 3) (pa_cons (pv 2) (pa_cons (pe_tup (pa_cons pe_str (pa_cons pe_str pa_nil))) pa_nil))))))))))))))))))), ?_⟩
  walk_at "st"
  refine ⟨.ref t, tbD st, rfl, ht.dp _, small, fun y H1 e1 n1 => ?_⟩
  obtain ⟨tr, as, rfl, G1⟩ := n1.grid
  have s1 := sp.ext e1
  have np : ∀ a, H a = none → a ≠ p := fun a h => (src_ne sp h).symm
  have trp := np _ G1.top
  walk_at "st"
  refine r_lenL (sqL G1.at_) (n := st.length) (by rw [List.length_map, G1.len]) ?_
  walk_at "st"
  refine ⟨p, _, rfl, s1, by omega, lt13 _ (by omega), fun at_ H2 at0 at1 s2 n2 => ?_⟩
  walk_at "st"
  refine ⟨p, 8, rfl, s2, by decide, by decide, fun way H3 w0 w1 s3 n3 => ?_⟩
  have n13 : ∀ b, b ≠ p → H3 b = H1 b := fun b hb => (n3 b hb).trans (n2 b hb)
  have b3 : But p H H3 := (ext_but e1).trans (.of n13)
  have G3 : Grid (fun a => H a = none) H3 tr as st := G1.keep fun a o s q => (n13 a (np a s)).trans q
  clear G1 n1 s2 s1 n2 n3
  have hat : at_.toNat < st.length := by omega
  obtain ⟨ra, ra1, ra2, ra3⟩ := G3.row at_.toNat _ (List.getElem?_eq_getElem hat)
  have rap := np _ ra2
  have toP : ∀ {H' : Hp} {u : Addr} {bs : List Addr} {su : List (List Int)}, Grid (fun a => H a = none) H' u bs su → TbP p H' u su := fun g => g.nw.keep (fun a o s q => ⟨q, np a s⟩) _
  have at_ra : atI (as.map V.ref) at_ = some (.ref ra) := by
    rw [show at_ = ((at_.toNat : Nat) : Int) by omega]
    exact atI_nat (by rw [List.getElem?_map, ra1]; rfl)
  -- what each way ends with
  have fin : ∀ (H4 H5 H6 : Hp) (t' du q : Addr) (st' : List (List Int)) (m' : Int) (C what : Str), But p H H4 → Src H4 p → Grid (fun a => H a = none) H4 t' (as := as) st' ∨ TbP p H4 t' st' → H4 du = none → Ext H4 H5 → H5 du = some (.tup [.str C, .str what]) → H5 q = none → Ext H5 H6 → H6 q = some (.lst [.ref t', .int m', .ref du]) → Due st' m' C what → Q (.ref q) H6 := fun H4 H5 H6 t' du q st' m' C what b4 s4 hT hdu e5 h5 hq e6 h6 D => by
    have e46 := e5.trans e6
    exact k q t' st' m' du C what H6 (src_ne (s4.ext e5) hq).symm (src_ne s4 hdu).symm (s4.ext e46) (b4.ext e46) h6 (nw_ext (hT.elim toP id) e46) (e6 _ _ h5) D
  walk_at "st"
  refine ite_d (fun c0 => ?_) (fun c0 => ?_)
  · walk_at "st"
    refine ⟨p, 9, rfl, s3, by decide, by decide, fun r H4 r0 r1 s4 n4 => ?_⟩
    walk_at "st"
    intro du H5 hdu e5 h5
    walk_at "st"
    intro q H6 hq e6 h6
    exact fin H4 H5 H6 tr du q st _ _ _ (b3.trans (.of n4)) s4 (.inl (G3.keep fun a o s q => (n4 a (np a s)).trans q)) hdu e5 h5 hq e6 h6 (.l (by omega))
  walk_at "st"
  refine ite_d (fun c1 => ?_) (fun c1 => ?_)
  · walk_at "st"
    have h0 : st[0]? = some st[0] := List.getElem?_eq_getElem st0
    obtain ⟨a0, a01, a02, a03⟩ := G3.row 0 _ h0
    refine r_atL (sqL G3.at_) (atI_nat (j := 0) (v := .ref a0) (by rw [List.getElem?_map, a01]; rfl)) ?_
    walk_at "st"
    intro l4 H4 hl4 e4 h4
    walk_at "st"
    refine r_lenL (sqL (e4 _ _ G3.at_)) (n := st.length) (by rw [List.length_map, G3.len]) ?_
    walk_at "st"
    refine r_repL h4 (by omega) (by omega) (by simp; omega) (fun l5 H5 hl5 e5 h5 => ?_)
    rw [show (13 - (st.length : Int)).toNat = 13 - st.length by omega, rep_refs] at h5
    have e45 := e4.trans e5
    walk_at "st"
    refine r_catL (e45 _ _ G3.at_) h5 (by rw [List.length_map, List.length_map, List.length_replicate, G3.len]; omega) (fun l6 H6 hl6 e6 h6 => ?_)
    have e36 := e45.trans e6
    have s6 := s3.ext e36
    have hl6' : H l6 = none := b3.noneOf (src_ne (s3.ext e45) hl6).symm (e45.none hl6)
    have G6 := (G3.keep fun a o s q => e36 _ _ q).app (su := List.replicate (13 - st.length) st[0]) hl6' h6 (by rw [List.length_replicate, List.length_replicate]) fun i row hi => by
      obtain ⟨i1, rfl⟩ := rep_get hi
      exact ⟨a0, by rw [List.getElem?_replicate, if_pos i1], a02, e36 _ _ a03⟩
    walk_at "st"
    intro du H7 hdu e7 h7
    walk_at "st"
    intro q H8 hq e8 h8
    exact fin H6 H7 H8 l6 du q _ _ _ _ (b3.ext e36) s6 (.inr (toP G6)) hdu e7 h7 hq e8 h8 (.s (by omega) (by rw [List.length_append, List.length_replicate]; omega))
  walk_at "st"
  refine ite_d (fun c2 => ?_) (fun c2 => ?_)
  · walk_at "st"
    refine ⟨p, 9, rfl, s3, by decide, by decide, fun r H4 r0 r1 s4 n4 => ?_⟩
    walk_at "st"
    intro du H5 hdu e5 h5
    walk_at "st"
    intro q H6 hq e6 h6
    exact fin H4 H5 H6 tr du q st _ _ _ (b3.trans (.of n4)) s4 (.inl (G3.keep fun a o s q => (n4 a (np a s)).trans q)) hdu e5 h5 hq e6 h6 (.b (by omega) l12 (.inl ⟨.inl (by omega), rfl⟩))
  walk_at "st"
  refine ite_d (fun c3 => ?_) (fun c3 => ?_)
  · walk_at "st"
    refine r_atL (sqL G3.at_) at_ra ?_
    walk_at "st"
    intro l4 H4 hl4 e4 h4
    walk_at "st"
    refine r_catL (e4 _ _ ra3) h4 (by rw [List.length_map, wid _ (List.getElem_mem hat)]; show m + 1 ≤ 100000; omega) (fun l5 H5 hl5 e5 h5 => ?_)
    have e35 := e4.trans e5
    have h5' : H5 l5 = some (.lst ((st[at_.toNat] ++ [0]).map V.int)) := by rw [h5, List.map_append]; rfl
    have hl5' : H l5 = none := b3.noneOf (src_ne (s3.ext e4) hl5).symm (e4.none hl5)
    have G5 := G3.keep (H' := H5) fun a o s q => e35 _ _ q
    have l5t : l5 ≠ tr := fun z => by rw [z, e4 _ _ G3.at_] at hl5; cases hl5
    walk_at "st"
    refine r_setL (j := at_.toNat) G5.at_ (by omega) (by rw [List.length_map, G5.len]; omega) (fun H6 h6 n6 => ?_)
    have G6 := G5.setTop (H' := H6) hat (fun b o sb bt hb => (n6 b bt).trans hb) h6 hl5' ((n6 _ l5t).trans h5')
    have b6 : But p H H6 := (b3.ext e35).mut G3.top n6
    have s6 : Src H6 p := (s3.ext e35).stay (.of n6) trp.symm
    walk_at "st"
    intro du H7 hdu e7 h7
    walk_at "st"
    intro q H8 hq e8 h8
    refine fin H6 H7 H8 tr du q _ _ _ _ b6 s6 (.inr (toP G6)) hdu e7 h7 hq e8 h8 (.b (by omega) (by rw [List.length_set]; exact l12) (.inl ⟨.inr ⟨_, List.mem_of_getElem? (List.getElem?_set_self hat), ?_⟩, rfl⟩))
    rw [List.length_append, wid _ (List.getElem_mem hat)]
    show ((m + 1 : Nat) : Int) ≠ m
    omega
  walk_at "st"
  refine ite_d (fun c4 => ?_) (fun c4 => ?_)
  · walk_at "st"
    intro l4 H4 hl4 e4 h4
    walk_at "st"
    intro du H5 hdu e5 h5
    walk_at "st"
    intro q H6 hq e6 h6
    refine fin H4 H5 H6 l4 du q [] _ _ _ (b3.ext e4) (s3.ext e4) (.inr (.lst (src_ne s3 hl4).symm h4 .nil)) hdu e5 h5 hq e6 h6 (.b (by omega) (Nat.zero_le _) (.inr ⟨⟨by omega, fun row hr => absurd hr List.not_mem_nil⟩, .inl rfl, rfl⟩))
  walk_at "st"
  refine r_atL (sqL G3.at_) at_ra ?_
  walk_at "st"
  refine r_lenL (sqL G3.at_) (n := st.length) (by rw [List.length_map, G3.len]) ?_
  walk_at "st"
  refine r_lenL (sqL G3.at_) (n := st.length) (by rw [List.length_map, G3.len]) ?_
  walk_at "st"
  refine ⟨p, _, rfl, s3, by decide, by decide, fun r4 H4 r40 r41 s4 n4 => ?_⟩
  walk_at "st"
  intro l5 H5 hl5 e5 h5
  have s5 := s4.ext e5
  have l5p : l5 ≠ p := (src_ne s4 hl5).symm
  walk_at "st"
  refine ⟨p, 3, rfl, s5, by decide, by decide, fun r6 H6 r60 r61 s6 n6 => ?_⟩
  obtain ⟨v, hv, vbad⟩ : ∃ v : Int, atI [V.int (st.length : Nat), V.int ((st.length : Nat) + r4), V.int (-1)] r6 = some (.int v) ∧ ¬ (0 ≤ v ∧ v < st.length) := by
    have h3 : r6 = 0 ∨ r6 = 1 ∨ r6 = 2 := by omega
    rcases h3 with h | h | h <;> subst h
    · exact ⟨_, rfl, by omega⟩
    · exact ⟨_, rfl, by omega⟩
    · exact ⟨_, rfl, by omega⟩
  refine r_atL (sqL (stay n6 l5p h5)) hv ?_
  walk_at "st"
  refine ⟨p, m, rfl, s6, by omega, lt13 _ (by omega), fun r7 H7 r70 r71 s7 n7 => ?_⟩
  have k37 : ∀ a o, a ≠ p → H3 a = some o → H7 a = some o := fun a o ap h => (n7 a ap).trans ((n6 a ap).trans (e5 _ _ ((n4 a ap).trans h)))
  have b7 : But p H H7 := b3.trans fun a o ap h => k37 a o ap h
  have G7 := G3.keep (H' := H7) fun a o s q => k37 a o (np a s) q
  have wra := wid _ (List.getElem_mem hat)
  refine r_setL (j := r7.toNat) (k37 _ _ rap ra3) (by omega) (by rw [List.length_map]; omega) (fun H8 h8 n8 => ?_)
  obtain ⟨ou, GU, lou, ino, allo⟩ := G7.setRow (row' := st[at_.toNat].set r7.toNat v) (List.getElem?_eq_getElem hat) ra1 n8 (by rw [h8, List.map_set])
  have b8 : But p H H8 := b7.mut ra2 n8
  have s8 : Src H8 p := s7.stay (.of n8) rap.symm
  have wou : ∀ row ∈ ou, row.length = m := fun row hr => by
    rcases allo row hr with h | h
    · exact wid row h
    · rw [h, List.length_set]; exact wra
  have bad : ∃ row ∈ ou, ∃ z ∈ row, ¬ (0 ≤ z ∧ z < ou.length) := ⟨_, ino, v, List.mem_of_getElem? (List.getElem?_set_self (by omega)), by rw [lou]; exact vbad⟩
  clear G7 G3 k37 h5 e5 n4 n6 n7 n13 hv allo ino h8 n8
  walk_at "st"
  refine ite_d (fun c5 => ?_) (fun c5 => ?_)
  · walk_at "st"
    intro l9 H9 hl9 e9 h9
    walk_at "st"
    refine r_repL h9 (by omega) (by omega) (by simp; omega) (fun l10 H10 hl10 e10 h10 => ?_)
    have e810 := e9.trans e10
    rw [show ((m : Int) + 1).toNat = m + 1 by omega, rep_ints] at h10
    have s10 := s8.ext e810
    have G10 := GU.keep (H' := H10) fun a o s q => e810 _ _ q
    walk_at "st"
    refine r_lenL (sqL G10.at_) (n := st.length) (by rw [List.length_map, G10.len, lou]) ?_
    walk_at "st"
    refine ⟨p, _, rfl, s10, by omega, lt13 _ (by omega), fun r11 H11 r110 r111 s11 n11 => ?_⟩
    have G11 := G10.keep (H' := H11) fun a o s q => (n11 a (np a s)).trans q
    have hl10' : H l10 = none := b8.noneOf (src_ne (s8.ext e9) hl10).symm (e9.none hl10)
    have l10p := np _ hl10'
    have l10t : l10 ≠ tr := fun z => by rw [z, e9 _ _ GU.at_] at hl10; cases hl10
    refine r_setL (j := r11.toNat) G11.at_ (by omega) (by rw [List.length_map, G11.len]; omega) (fun H12 h12 n12 => ?_)
    have G12 := G11.setTop (H' := H12) (row := List.replicate (m + 1) 0) (r := r11.toNat) (by omega) (fun b o sb bt hb => (n12 b bt).trans hb) h12 hl10' ((n12 _ l10t).trans ((n11 _ l10p).trans h10))
    have b12 : But p H H12 := ((b8.ext e810).trans (.of n11)).mut GU.top n12
    have s12 : Src H12 p := s11.stay (.of n12) trp.symm
    walk_at "st"
    intro du H13 hdu e13 h13
    walk_at "st"
    intro q H14 hq e14 h14
    refine fin H12 H13 H14 tr du q _ _ _ _ b12 s12 (.inr (toP G12)) hdu e13 h13 hq e14 h14 (.b (by omega) (by rw [List.length_set]; omega) (.inl ⟨.inr ⟨_, List.mem_of_getElem? (List.getElem?_set_self (by omega)), ?_⟩, rfl⟩))
    rw [List.length_replicate]
    omega
  walk_at "st"
  refine ite_d (fun c6 => ?_) (fun c6 => ?_)
  · walk_at "st"
    intro l9 H9 hl9 e9 h9
    walk_at "st"
    refine r_repL h9 (by decide) (by decide) (Nat.le_of_ble_eq_true rfl) (fun l10 H10 hl10 e10 h10 => ?_)
    rw [rep_ints] at h10
    walk_at "st"
    intro l11 H11 hl11 e11 h11
    walk_at "st"
    refine r_repL h11 (by decide) (by decide) (Nat.le_of_ble_eq_true rfl) (fun l12 H12 hl12 e12 h12 => ?_)
    rw [rep_refs] at h12
    have e812 := (e9.trans e10).trans (e11.trans e12)
    walk_at "st"
    refine r_catL (e812 _ _ GU.at_) h12 (by rw [List.length_map, List.length_map, List.length_replicate, GU.len]; show _ + 12 ≤ 100000; omega) (fun l13 H13 hl13 e13 h13 => ?_)
    have e813 := e812.trans e13
    have hl10' : H l10 = none := b8.noneOf (src_ne (s8.ext e9) hl10).symm (e9.none hl10)
    have hl13' : H l13 = none := b8.noneOf (src_ne (s8.ext e812) hl13).symm (e812.none hl13)
    have G13 := (GU.keep (H' := H13) fun a o s q => e813 _ _ q).app (su := List.replicate (12 : Int).toNat (List.replicate (9 : Int).toNat (0 : Int))) hl13' h13 (by rw [List.length_replicate, List.length_replicate]) fun i row hi => by
      obtain ⟨i1, rfl⟩ := rep_get hi
      exact ⟨l10, by rw [List.getElem?_replicate, if_pos i1], hl10', (e11.trans (e12.trans e13)) _ _ h10⟩
    walk_at "st"
    intro du H14 hdu e14 h14
    walk_at "st"
    intro q H15 hq e15 h15
    exact fin H13 H14 H15 l13 du q _ _ _ _ (b8.ext e813) (s8.ext e813) (.inr (toP G13)) hdu e14 h14 hq e15 h15 (.s (by omega) (by rw [List.length_append, List.length_replicate]; show 12 < ou.length + 12; omega))
  walk_at "st"
  intro du H9 hdu e9 h9
  walk_at "st"
  intro q H10 hq e10 h10
  exact fin H8 H9 H10 tr du q ou _ _ _ b8 s8 (.inr (toP GU)) hdu e9 h9 hq e10 h10 (.b (by omega) (by omega) (.inr ⟨⟨by omega, fun row hr => by rw [wou row hr]⟩, .inr bad, rfl⟩))

end
end K29
set_option maxRecDepth 100000
set_option maxHeartbeats 4000000
namespace K29
open PySem PySem.Spec PyProof.Rows L2 L3
local macro_rules | `(tactic| walk_at "s1") => `(tactic| first
  | with_reducible refine r_seq ?_
  | with_reducible refine r_asgN ?_
  | with_reducible refine r_ret ?_
  | with_reducible refine r_next ?_
  | ((with_reducible refine' r_var ?hv ?_); (case hv => exact rfl))
  | with_reducible refine r_c ?_
  | with_reducible refine r_op ?_
  | with_reducible refine r_cons ?_
  | with_reducible refine r_nil ?_
  | with_reducible refine r_plusI ?_
  | with_reducible refine r_I0 ?_
  | with_reducible refine r_test ?_
  | with_reducible refine r_bl ?_
  | with_reducible refine r_ifS ?_
  | with_reducible refine r_cb ?_
  | with_reducible refine r_callS ?_
  | with_reducible refine r_and ?_
  | with_reducible refine r_or ?_
  | with_reducible refine r_not ?_
  | with_reducible refine r_B ?_
  | ((with_reducible refine' r_aug ?hv ?_); (case hv => exact rfl))
  | with_reducible refine r_augS ?_
  | with_reducible refine r_ipI ?_
  | with_reducible refine r_asg ?_
  | with_reducible refine r_sub ?_
  | with_reducible refine r_brk ?_
  | with_reducible refine r_isN1 ?_
  | with_reducible refine r_notN1 ?_
  | with_reducible refine r_intI ?_
  | with_reducible refine r_abs ?_
  | with_reducible refine r_min ?_
  | with_reducible refine r_max ?_
  | ((with_reducible refine' r_mod ?hz ?_); (case hz => omega))
  | ((with_reducible refine' r_pow ?hz ?_); (case hz => exact ⟨by decide, by decide, by decide⟩))
  | ((with_reducible refine' r_rg1 ?hz ?_); (case hz => omega))
  | ((with_reducible refine' r_rg2 ?hz ?_); (case hz => omega))
  | ((with_reducible refine' r_newL ?hz ?_); (case hz => exact Nat.le_of_ble_eq_true rfl))
  | ((with_reducible refine' r_newT ?hz ?_); (case hz => exact Nat.le_of_ble_eq_true rfl))
  | with_reducible refine r_for ?_
  | with_reducible refine r_lc ?_
  | with_reducible refine r_iR1 ?_
  | with_reducible refine r_iR2 ?_
  | with_reducible refine r_iL ?_
  | with_reducible refine r_iT ?_
  | with_reducible refine r_gname ?_
  | with_reducible refine r_gcons ?_
  | with_reducible refine r_gnil ?_
  | with_reducible refine r_yes ?_
  | with_reducible refine r_mkO ?_
  | with_reducible refine r_cont ?_
  | with_reducible refine r_drop ?_
  | with_reducible refine r_retN ?_
  | with_reducible refine r_ifC ?_
  | with_reducible refine r_ifI ?_
  | with_reducible refine r_if ?_
  | with_reducible refine r_un ?_
  | with_reducible refine r_neg ?_
  | with_reducible refine r_andV ?_
  | with_reducible refine r_orV ?_
  | with_reducible refine r_notV ?_
  | with_reducible refine r_tup ?_
  | with_reducible refine r_lst ?_
  | with_reducible refine r_bm ?_
  | with_reducible refine r_bm0 ?_
  | with_reducible refine r_sl ?_
  | with_reducible refine r_chain ?_
  | with_reducible refine r_listDn ?_
  | with_reducible refine r_listRg2 ?_
  | with_reducible refine r_listRg1 ?_
  | with_reducible refine r_revL ?_
  | with_reducible refine r_noPart ?_
  | with_reducible refine r_dgt ?_
  | with_reducible refine r_din ?_
  | with_reducible refine r_dnin ?_
  | with_reducible refine r_dput ?_
  | with_reducible refine r_dnew ?_
  | with_reducible refine r_disp1 ?_
  | with_reducible refine r_lenSet ?_
  | with_reducible refine r_part ?_
  | with_reducible refine r_int ?_
  | ((with_reducible refine' r_sameS ?hs ?_); (case hs => exact rfl))
  | ((with_reducible refine' r_otherS ?hs ?_); (case hs => exact rfl))
  | with_reducible refine ite_t ?_
  | with_reducible refine ite_f ?_
  | with_reducible refine ite_nt ?_
  | with_reducible refine ite_nf ?_)
local macro_rules | `(tactic| walk_at "st") => `(tactic| repeat (walk_at "s1"))

section
variable {P : Program} {w : World} {K : PySem.W.Frag} {mg : Str → Option Value} {base : Heap}
/-! ### the law -/
structure TI (p : Addr) (H : Hp) (x : V) : Prop where
  ex : ∃ (q t : Addr) (st : List (List Int)) (m : Nat), x = .ref q ∧ q ≠ p ∧ H q = some (.lst [.ref t, .int m]) ∧ TbP p H t st ∧ GoodSt st m ∧ m ≤ 8 ∧ st.length ≤ 12
theorem TI.but {p : Addr} {H H' : Hp} {x : V} (h : TI p H x) (b : But p H H') : TI p H' x := by
  obtain ⟨q, t, st, m, e, h1, h2, h3, h4⟩ := h
  exact ⟨q, t, st, m, e, h1, b _ _ h1 h2, nw_but h3 b, h4⟩
/-- a part of what was told: a list, new since H0, or a text, or a number -/
def PartV (p : Addr) (H0 H : Hp) (n : Nat) (x : V) : Prop := (∃ s, x = .str s) ∨ (∃ i, x = .int i) ∨ ∃ a ns, x = .ref a ∧ H0 a = none ∧ a ≠ p ∧ H a = some (.lst ((ns : List Int).map V.int)) ∧ ns.length ≤ n
theorem PartV.ext {p : Addr} {H0 H H' : Hp} {n : Nat} {x : V} (h : PartV p H0 H n x) (e : Ext H H') : PartV p H0 H' n x := by
  rcases h with h | h | ⟨a, ns, h1, h2, h3, h4, h5⟩
  · exact .inl h
  · exact .inr (.inl h)
  · exact .inr (.inr ⟨a, ns, h1, h2, h3, e _ _ h4, h5⟩)
def spSum' (K : PySem.W.Frag) : Sp := fun vs H Q _ => ∃ (p : Addr) (st : List (List Int)) (m : Int), vs = [.ref p, .int m] ∧ Tb K H p st ∧ GoodSt st m ∧ m ≤ 1000 ∧ st.length ≤ 1000 ∧ ∀ v H', Ext H H' → ((v = .non ∧ ¬ IsSum st m) ∨ ∃ q os, v = .ref q ∧ H q = none ∧ H' q = some (.lst (ntV os)) ∧ IsSum st m ∧ Ords st m os) → Q v H'
theorem ords_uniq {st : List (List Int)} {m : Int} {os os' : List Nat} (h : Ords st m os) (h' : Ords st m os') : os = os' := by
  have e1 := h.len
  have e2 := h'.len
  apply List.ext_getElem?
  intro i
  by_cases c : i < os.length
  · have o := h.ord i c
    have o' := h'.ord i (by omega)
    rw [getD_at c, getD_at (by omega)]
    congr 1
    rcases Nat.lt_trichotomy (os.getD i 0) (os'.getD i 0) with z | z | z
    · exact absurd o.ret (o'.fst _ o.pos z)
    · exact z
    · exact absurd o'.ret (o.fst _ o'.pos z)
  · rw [List.getElem?_eq_none (by omega), List.getElem?_eq_none (by omega)]
def sumD (cs os : List Nat) : PyData := .tuple [.str "sum", .list ((cs.map fun (c : Nat) => (c : Int)).map PyData.int), .list ((os.map fun (c : Nat) => (c : Int)).map PyData.int)]
theorem sumD_dp {H : Hp} {q a b : Addr} {cs os : List Nat} (h : H q = some (.tup [.str "sum", .ref a, .ref b])) (h1 : H a = some (.lst (ntV cs))) (h2 : H b = some (.lst (ntV os))) : Dp K H (.ref q) (sumD cs os) :=
  .tup (sqT h) (.cons (.str _) (.cons (.lst (sqL h1) (dps_ints _)) (.cons (.lst (sqL h2) (dps_ints _)) .nil)))
theorem sumD_small {cs os : List Nat} (h1 : cs.length ≤ 100000) (h2 : os.length ≤ 100000) : smallD 3 (sumD cs os) := small_tup (Nat.le_of_ble_eq_true rfl) fun e he => by
  simp at he
  rcases he with rfl | rfl | rfl
  · exact small_str _ _
  · have := small_ints (ns := cs.map fun (c : Nat) => (c : Int)) 0 (by rw [List.length_map]; exact h1)
    simpa [List.map_map] using this
  · have := small_ints (ns := os.map fun (c : Nat) => (c : Int)) 0 (by rw [List.length_map]; exact h2)
    simpa [List.map_map] using this
def dueD (C what : Str) : PyData := .tuple [.str C, .str what]
theorem dueD_dp {H : Hp} {q : Addr} {C what : Str} (h : H q = some (.tup [.str C, .str what])) : Dp K H (.ref q) (dueD C what) := .tup (sqT h) (.cons (.str _) (.cons (.str _) .nil))
theorem dueD_small (C what : Str) : smallD 3 (dueD C what) := small_tup (Nat.le_of_ble_eq_true rfl) fun e he => by
  simp at he
  rcases he with rfl | rfl <;> exact small_str _ _
theorem sc_law : FnScope ["script", "source", "tables", "states", "letters", "orders", "given", "answer", "part", "due"] ["script"] (defScope s_law) := ⟨rfl, rfl, rfl, by decide +kernel, rfl, by decide +kernel, by decide +kernel⟩
theorem ok_law (T : Txt w K mg) {fd : FuncData} (D : FunD K "law" "law" (defArgs s_law) (defBody s_law) (defScope s_law) [] [] (He.ga K "law") fd) : FnOk P w K mg base (L2N.CX P w) 11 (He.ga K "law") fd ["script"] (spLaw K) := by
  have c__law_source := ok_law_source (P := P) (base := base) T
  have c__law_same := ok_law_same (P := P) (base := base) T 3
  have c__law_copied := ok_law_copied (P := P) (base := base) T 3
  have c__law_come := ok_law_come (P := P) (base := base) T
  have c__law_sum := (ok_law_sum (P := P) (base := base) T).imp (sp' := spSum' K) fun vs H Q E ⟨p, st, m, e, h1, h2, h3, h4, k⟩ => ⟨p, st, m, e, h1, h2, h3, h4, fun n H' e' => k _ H' e' (.inl ⟨rfl, n⟩), fun S q H' os hq e' h' O => k _ H' e' (.inr ⟨q, os, rfl, hq, h', S, O⟩)⟩
  have c__law_f_asked := ok_law_f_asked (P := P) (base := base) T
  have c__law_f_shown := ok_law_f_shown (P := P) (base := base) T
  have c__law_f_table := ok_law_f_table (P := P) (base := base) T
  have c__law_f_wrong := ok_law_f_wrong (P := P) (base := base) T
  refine D.ok sc_law (fun vs H Q E h => by obtain ⟨c, ns, rfl, _⟩ := h; rfl) (fun cdv A outer s H vs Q E hr h => ?_)
  have nd := sc_law.nd
  have hu := hu64 hr
  obtain ⟨a0, ns0, rfl, hns, hl, k⟩ := h
  refine ⟨_, (pss_cons (ps_set (i := 1) nd rfl (Or.inl rfl) (pe_cal c__law_source hr (by omega) (fun σ => L2N.passAt (L2N.takes_of rfl rfl rfl rfl) σ) (pa_cons (pv 0) (pa_cons pe_int pa_nil))))
        (pss_cons (ps_set (i := 2) nd rfl (Or.inl rfl) (pe_lst (pa_cons (pe_cal c__law_f_table hr (by omega) (fun σ => L2N.passAt (L2N.takes_of rfl rfl rfl rfl) σ) (pa_cons (pv 1) pa_nil)) (pa_cons (pe_cal c__law_f_table hr (by omega) (fun σ => L2N.passAt (L2N.takes_of rfl rfl rfl rfl) σ) (pa_cons (pv 1) pa_nil)) pa_nil))))
        (pss_cons (ps_for (passes_of rfl) rfl (piL (K := K) (pe_op (plusK (K := K)) (pv 2) (pe_slice (slK (K := K)) (pv 2) po_none (po_some pe_int)))) (pgL (K := K) (pg_lst rfl (pgs_cons (pg_name (i := 3) nd rfl (Or.inl rfl)) (pgs_cons (pg_name (i := 4) nd rfl (Or.inl rfl)) pgs_nil)))) (pss_cons (ps_set (i := 5) nd rfl (Or.inl rfl) (pe_cal c__law_sum hr (by omega) (fun σ => L2N.passAt (L2N.takes_of rfl rfl rfl rfl) σ) (pa_cons (pv 3) (pa_cons (pv 4) pa_nil))))
        (pss_cons (ps_set (i := 6) nd rfl (Or.inl rfl) (pe_cal c__law_copied hr (by omega) (fun σ => L2N.passAt (L2N.takes_of rfl rfl rfl rfl) σ) (pa_cons (pv 3) pa_nil)))
        (pss_cons (ps_set (i := 7) nd rfl (Or.inl rfl) (pe_cal c__law_f_asked hr (by omega) (fun σ => L2N.passAt (L2N.takes_of rfl rfl rfl rfl) σ) (pa_cons (pv 6) (pa_cons (pv 4) pa_nil))))
        (pss_cons (ps_if (PW.pt (pw_or (pt_not (pt_val (pe_cal c__law_same hr (by omega) (fun σ => L2N.passAt (L2N.takes_of rfl rfl rfl rfl) σ) (pa_cons (pv 6) (pa_cons (pv 3) pa_nil))))) (pw_or1 (pt_cmpR (otherK (K := K) hu) (pe_ix (ixK (K := K)) (pv 7) pe_int (fun _ _ => rfl)) pe_str (nomark _))))) (pss_one (ps_ret pe_bl)) pss_nil)
        (C8.pss_cut (ps_if (pt_cmpR op_notN1 (pv 5) pe_non (nomark _)) (pss_one (ps_if (pt_not (pt_val (pe_cal c__law_same hr (by omega) (fun σ => L2N.passAt (L2N.takes_of rfl rfl rfl rfl) σ) (pa_cons (pe_ix (ixK (K := K)) (pv 7) pe_int (fun _ _ => rfl)) (pa_cons (pe_tup (pa_cons pe_str (pa_cons (pe_cal c__law_come hr (by omega) (fun σ => L2N.passAt (L2N.takes_of rfl rfl rfl rfl) σ) (pa_cons (pv 3) (pa_cons (pv 4) pa_nil))) (pa_cons (pv 5) pa_nil)))) pa_nil))))) (pss_one (ps_ret pe_bl)) pss_nil)) (pss_one (ps_if (pt_not (pt_val (pe_cal c__law_f_shown hr (by omega) (fun σ => L2N.passAt (L2N.takes_of rfl rfl rfl rfl) σ) (pa_cons (pv 3) (pa_cons (pv 4) (pa_cons (pe_ix (ixK (K := K)) (pv 7) pe_int (fun _ _ => rfl)) pa_nil)))))) (pss_one (ps_ret pe_bl)) pss_nil)))
        (pss_cons (ps_for (passes_of rfl) rfl (piL (K := K) (pe_callTy (listK (K := K)) (by rfl) T.f_list (by decide +kernel) (pa_cons (pe_ix (ixK (K := K)) (pv 7) pe_int (fun _ _ => rfl)) pa_nil))) (pg_name (i := 8) nd rfl (Or.inl rfl)) (pss_one (ps_if (pt_val (pe_callB (isiK (K := K)) (by rfl) T.f_isinstance (by decide +kernel) (pa_cons (pv 8) (pa_cons (pe_ty T.f_list) pa_nil)))) (pss_one (ps_expr (peBM (K := K) (pe_bm PySem.F.plainAttrs_list PySem.F.slot_list_append PySem.F.type_list_append mt_append (pv 8) (pa_cons pe_int pa_nil))))) pss_nil)))
        (pss_cons (ps_asg (pe_cal c__law_f_wrong hr (by omega) (fun σ => L2N.passAt (L2N.takes_of rfl rfl rfl rfl) σ) (pa_cons (pv 1) (pa_cons (pv 3) (pa_cons (pv 4) pa_nil)))) (pgL (K := K) (pg_lst rfl (pgs_cons (pg_name (i := 3) nd rfl (Or.inl rfl)) (pgs_cons (pg_name (i := 4) nd rfl (Or.inl rfl)) (pgs_cons (pg_name (i := 9) nd rfl (Or.inl rfl)) pgs_nil))))))
        (pss_one (ps_if (pt_not (pt_val (pe_cal c__law_same hr (by omega) (fun σ => L2N.passAt (L2N.takes_of rfl rfl rfl rfl) σ) (pa_cons (pe_cal c__law_f_asked hr (by omega) (fun σ => L2N.passAt (L2N.takes_of rfl rfl rfl rfl) σ) (pa_cons (pv 3) (pa_cons (pv 4) pa_nil))) (pa_cons (pv 9) pa_nil))))) (pss_one (ps_ret pe_bl)) pss_nil))))))))))
        (pss_one (ps_ret pe_bl))))), ?_⟩
  walk_at "st"
  refine ⟨a0, ns0, 0, rfl, hns, hl, by decide, fun p H1 hp0 e1 s1 => ?_⟩
  walk_at "st"
  refine ⟨p, rfl, s1, fun q0 t0 st0 m0 H2 q0p _ s2 b2 h2 N2 g0 m08 l0 => ?_⟩
  obtain ⟨m0, rfl⟩ : ∃ m : Nat, m0 = m := ⟨m0.toNat, by have := g0.1.1; omega⟩
  have I0 : TI p H2 (.ref q0) := ⟨q0, t0, st0, m0, rfl, q0p, h2, N2.keep (fun a o s h => ⟨h, s.1⟩) _, g0, by omega, l0⟩
  walk_at "st"
  refine ⟨p, rfl, s2, fun q1 t1 st1 m1 H3 q1p _ s3 b3 h3 N3 g1 m18 l1 => ?_⟩
  obtain ⟨m1, rfl⟩ : ∃ m : Nat, m1 = m := ⟨m1.toNat, by have := g1.1.1; omega⟩
  have I1 : TI p H3 (.ref q1) := ⟨q1, t1, st1, m1, rfl, q1p, h3, N3.keep (fun a o s h => ⟨h, s.1⟩) _, g1, by omega, l1⟩
  replace I0 := I0.but b3
  walk_at "st"
  intro tb H4 htb e4 h4
  have tbp := (src_ne s3 htb).symm
  replace I0 := I0.but (ext_but e4)
  replace I1 := I1.but (ext_but e4)
  have s4 := s3.ext e4
  walk_at "st"
  refine r_slL (sqL h4) (fun l5 H5 hl5 e5 h5 => ?_)
  have h5' : H5 l5 = some (.lst [.ref q0]) := h5
  walk_at "st"
  refine r_catL (e5 _ _ h4) h5' (by show 2 + 1 ≤ 100000; decide) (fun l6 H6 hl6 e6 h6 => ?_)
  have h6' : H6 l6 = some (.lst [.ref q0, .ref q1, .ref q0]) := h6
  have b46 : But p H4 H6 := ext_but (e5.trans e6)
  replace I0 := I0.but b46
  replace I1 := I1.but b46
  have s6 := s4.ext (e5.trans e6)
  have l6p : l6 ≠ p := (src_ne (s4.ext e5) hl6).symm
  have items : ∀ x ∈ [V.ref q0, V.ref q1, V.ref q0], TI p H6 x := fun x hx => by
    simp only [List.mem_cons, List.not_mem_nil, or_false] at hx
    rcases hx with rfl | rfl | rfl
    · exact I0
    · exact I1
    · exact I0
  clear I0 I1 h6 h5 h5' b46 e6 e5 h4 e4 h3 N3 b3 h2 N2 b2
  generalize [V.ref q0, V.ref q1, V.ref q0] = its at items h6'
  refine r_li (sqL h6') ?_
  refine forW_list (fun i σ' H' => (∃ v3 v4 v5 v6 v7 v8 v9, σ' = [some (.ref a0), some (.ref p), some (.ref tb), v3, v4, v5, v6, v7, v8, v9]) ∧ Src H' p ∧ But p H6 H') ⟨⟨none, none, none, none, none, none, none, rfl⟩, s6, .rfl⟩ (fun i σ' H' _ ⟨_, _, b⟩ => sqL (b _ _ l6p h6')) ?_ ?_
  · rintro i x σ' H7 hx ⟨⟨v3, v4, v5, v6, v7, v8, v9, rfl⟩, s7, b7⟩
    obtain ⟨q, t, st, m, rfl, qp, hq, hT, g, m8, l12⟩ := (items x (List.mem_of_getElem? hx)).but b7
    have m1 : 1 ≤ m := by have := g.1.1; omega
    have wid : ∀ row ∈ st, row.length = m := fun row hr => by have := g.1.2 row hr; omega
    have small : smallD 3 (tbD st) := small_tb (by omega) fun row hr => by rw [wid row hr]; omega
    refine r_glst (sqL hq) rfl ?_
    walk_at "st"
    refine ⟨t, st, m, rfl, tb_of hT, g, by omega, by omega, fun v H8 e8 hv => ?_⟩
    have hT8 := nw_ext hT e8
    have s8 := s7.ext e8
    walk_at "st"
    refine ⟨.ref t, tbD st, rfl, hT8.dp _, small, fun y H9 e9 n9 => ?_⟩
    obtain ⟨tg, ag, rfl, G9⟩ := n9.grid
    have hG9 : TbP p H9 tg st := n9.keep (fun a o s h => ⟨h, (src_ne s8 s).symm⟩) _
    have hT9 := nw_ext hT8 e9
    have s9 := s8.ext e9
    have e79 := e8.trans e9
    walk_at "st"
    have hv9 : v = .non ∨ ∃ q, v = .ref q := hv.elim (fun h => .inl h.1) fun ⟨q, _, h, _⟩ => .inr ⟨q, h⟩
    refine ⟨tg, st, m, rfl, tb_of hG9, ⟨fun c => by omega, fun _ c => by omega, fun _ _ what hb => ?_, fun _ _ _ q10 a10 H10 e10 h10 oc => ?_⟩⟩
    · exfalso
      rcases hb with ⟨h | ⟨row, hr, h⟩, _⟩ | ⟨_, h | ⟨row, hr, z, hz, h⟩, _⟩
      · omega
      · exact h (g.1.2 row hr)
      · exact g.2.1 h
      · exact h (g.2.2 row hr z hz)
    have e7_10 := e79.trans e10
    walk_at "st"
    refine ⟨.ref tg, .ref t, tbD st, rfl, (nw_ext hG9 e10).dp _, (nw_ext hT9 e10).dp _, small, fun H11 e11 => ?_⟩
    have h11 := e11 _ _ h10
    walk_at "st"
    refine r_atT (sqT h11) (atI_nat (j := 0) rfl) ?_
    walk_at "st"
    refine ite_n (fun c => absurd rfl c) (fun _ => ?_)
    have e7_11 := e7_10.trans e11
    have hT11 := nw_ext hT e7_11
    have s11 := s7.ext e7_11
    -- what was told, part by part
    have parts : ∃ xs, H11 a10 = some (.tup xs) ∧ ∀ x ∈ xs, PartV p H7 H11 2000 x := by
      have nn : ∀ a, H9 a = none → H7 a = none ∧ a ≠ p := fun a h => ⟨e79.none h, (src_ne s9 h).symm⟩
      rcases oc with ⟨S, cq, oq, cs, os, x1, x2, x3, x4, x5, x6, x7⟩ | ⟨kind, first, fi, second, fj, letter, SH, r1, r2, x1, x2, x3, x4, x5⟩
      · have c1 := come_len g x6.nd fun c hc => (x6.mem c).mp hc
        have o1 := x7.len
        refine ⟨_, e11 _ _ x1, fun x hx => ?_⟩
        simp only [List.mem_cons, List.not_mem_nil, or_false] at hx
        rcases hx with rfl | rfl | rfl
        · exact .inl ⟨_, rfl⟩
        · exact .inr (.inr ⟨cq, _, rfl, (nn _ x2).1, (nn _ x2).2, e11 _ _ x4, by rw [List.length_map]; omega⟩)
        · exact .inr (.inr ⟨oq, _, rfl, (nn _ x3).1, (nn _ x3).2, e11 _ _ x5, by rw [List.length_map]; omega⟩)
      · have l1 := SH.l1
        have l2 := SH.l2
        refine ⟨_, e11 _ _ x5, fun x hx => ?_⟩
        simp only [List.mem_cons, List.not_mem_nil, or_false] at hx
        rcases hx with rfl | rfl | rfl | rfl | rfl | rfl
        · exact .inl ⟨_, rfl⟩
        · exact .inr (.inr ⟨r1, _, rfl, (nn _ x1).1, (nn _ x1).2, e11 _ _ x3, by omega⟩)
        · exact .inr (.inl ⟨_, rfl⟩)
        · exact .inr (.inr ⟨r2, _, rfl, (nn _ x2).1, (nn _ x2).2, e11 _ _ x4, by omega⟩)
        · exact .inr (.inl ⟨_, rfl⟩)
        · exact .inr (.inl ⟨_, rfl⟩)
    obtain ⟨xs, hxs, hparts⟩ := parts
    walk_at "st"
    refine r_cut (fun σ' H' => σ' = [some (.ref a0), some (.ref p), some (.ref tb), some (.ref t), some (.int m), some v, some (.ref tg), some (.ref q10), v8, v9] ∧ Ext H11 H') ?_ ?_
    · walk_at "st"
      rcases hv with ⟨rfl, nS⟩ | ⟨o, os, rfl, ho, h8, S, O⟩
      · refine ite_n (fun c => absurd rfl c) (fun _ => ?_)
        rcases oc with ⟨S, _⟩ | ⟨kind, first, fi, second, fj, letter, SH, r1, r2, x1, x2, x3, x4, x5⟩
        · exact absurd S nS
        walk_at "st"
        refine r_atT (sqT h11) (atI_nat (j := 1) rfl) ?_
        walk_at "st"
        refine ⟨t, a10, r1, r2, st, m, kind, first, fi, second, fj, letter, rfl, tb_of hT11, g, by omega, by omega, e11 _ _ x5, e11 _ _ x3, e11 _ _ x4, SH, fun H12 e12 => ?_⟩
        walk_at "st"
        exact ⟨rfl, e12⟩
      · refine ite_n (fun _ => ?_) (fun c => nomatch c)
        rcases oc with ⟨_, cq, oq, cs, os', x1, x2, x3, x4, x5, x6, x7⟩ | ⟨kind, first, fi, second, fj, letter, SH, r1, r2, x1, x2, x3, x4, x5⟩
        · walk_at "st"
          refine r_atT (sqT h11) (atI_nat (j := 1) rfl) ?_
          walk_at "st"
          refine ⟨t, st, m, rfl, tb_of hT11, g, by omega, by omega, fun cp H12 cs' hcp e12 h12 C => ?_⟩
          walk_at "st"
          intro t13 H13 ht13 e13 h13
          have c1 := come_len g x6.nd fun c hc => (x6.mem c).mp hc
          have o1 := x7.len
          have ec : cs' = cs := come_uniq C x6
          have eo : os = os' := ords_uniq O x7
          subst ec eo
          have e11_13 := e12.trans e13
          have e10_13 := e11.trans e11_13
          walk_at "st"
          refine ⟨.ref a10, .ref t13, sumD cs' os, rfl, sumD_dp (e10_13 _ _ x1) (e10_13 _ _ x4) (e10_13 _ _ x5), sumD_dp h13 (e13 _ _ h12) (((e9.trans e10).trans e10_13) _ _ h8), sumD_small (by omega) (by omega), fun H14 e14 => ?_⟩
          walk_at "st"
          exact ⟨rfl, e11_13.trans e14⟩
        · exfalso
          obtain ⟨cm, inj⟩ := sum_iff.mp S
          rcases SH.part with ⟨_, ncm, _⟩ | ⟨_, _, f1, f2, ne⟩
          · exact ncm cm
          · -- a letter that is one to one leads no two states to one
            have key : ∀ (l : List Int) (i : Nat), (∀ x ∈ l, 0 ≤ x ∧ x < (m : Int)) → l[i]? = some (letter : Int) → runF st m 0 l = stp st (runF st m 0 (l.take i ++ l.drop (i + 1))) letter := fun l i hl hi => by
              have il := (List.getElem?_eq_some_iff.mp hi).1
              have el : l = l.take i ++ [(letter : Int)] ++ l.drop (i + 1) := by
                have h1 : l.drop i = (letter : Int) :: l.drop (i + 1) := by
                  rw [List.drop_eq_getElem_cons il]
                  congr 1
                  exact (List.getElem?_eq_some_iff.mp hi).2
                rw [List.append_assoc, List.singleton_append, ← h1, List.take_append_drop]
              have rr : ∀ (ns : List Int) (c : Nat), Reach st m c → Reach st m (runF st m c ns) := by
                intro ns
                induction ns with
                | nil => intro c hc; exact hc
                | cons x ns ih =>
                  intro c hc
                  have := Int.emod_lt_of_pos x (show (0 : Int) < m by omega)
                  have := Int.emod_nonneg x (show (m : Int) ≠ 0 by omega)
                  exact ih _ (.s hc (by omega))
              have comm : ∀ (ns : List Int) (c : Nat), Reach st m c → runF st m (stp st c letter) ns = stp st (runF st m c ns) letter := by
                intro ns
                induction ns with
                | nil => intro c _; rfl
                | cons x ns ih =>
                  intro c hc
                  have b0 := Int.emod_lt_of_pos x (show (0 : Int) < m by omega)
                  have b1 := Int.emod_nonneg x (show (m : Int) ≠ 0 by omega)
                  have hb : (((x % (m : Int)).toNat : Nat) : Int) < m := by omega
                  show runF st m (stp st (stp st c letter) (x % (m : Int)).toNat) ns = stp st (runF st m (stp st c (x % (m : Int)).toNat) ns) letter
                  rw [sum_com S SH.rl hb hc, ih _ (.s hc hb)]
              have app : ∀ (a b : List Int) (c : Nat), runF st m c (a ++ b) = runF st m (runF st m c a) b := fun a b c => by unfold runF; rw [List.foldl_append]
              conv => lhs; rw [el]
              rw [app, app, app]
              have e1 : runF st m (runF st m 0 (l.take i)) [(letter : Int)] = stp st (runF st m 0 (l.take i)) letter := by
                show stp st _ ((letter : Int) % (m : Int)).toNat = _
                rw [Int.emod_eq_of_lt (by omega) SH.rl, Int.toNat_natCast]
              rw [e1, comm _ _ (rr _ _ .z)]
            have rr : ∀ (ns : List Int) (c : Nat), Reach st m c → Reach st m (runF st m c ns) := by
              intro ns
              induction ns with
              | nil => intro c hc; exact hc
              | cons x ns ih =>
                intro c hc
                have := Int.emod_lt_of_pos x (show (0 : Int) < m by omega)
                have := Int.emod_nonneg x (show (m : Int) ≠ 0 by omega)
                exact ih _ (.s hc (by omega))
            have := SH.same
            rw [key first fi SH.r1 f1, key second fj SH.r2 f2] at this
            exact ne (inj letter SH.rl _ _ (rr _ _ .z) (rr _ _ .z) this)
    rintro σ' H12 ⟨rfl, e12⟩
    have e7_12 := e7_11.trans e12
    have b7_12 : But p H7 H12 := ext_but e7_12
    have s12 := s7.ext e7_12
    have hx12 := e12 _ _ hxs
    walk_at "st"
    refine r_atT (sqT (e12 _ _ h11)) (atI_nat (j := 1) rfl) ?_
    walk_at "st"
    refine r_listT (sqT hx12) (fun lp H13 hlp e13 h13 => ?_)
    have b7_13 := b7_12.ext e13
    have s13 := s12.ext e13
    have hlp7 : H7 lp = none := e7_12.none hlp
    have lpp : lp ≠ p := (src_ne s12 hlp).symm
    have lpN : ∀ x ∈ xs, ∀ a, x = V.ref a → a ≠ lp := fun x hx a e z => by
      rcases hparts x hx with ⟨s, h⟩ | ⟨s, h⟩ | ⟨b, ns, h, _, _, h4, _⟩
      · rw [h] at e; cases e
      · rw [h] at e; cases e
      · rw [h] at e
        cases e
        rw [z] at h4
        rw [e12 _ _ h4] at hlp
        cases hlp
    walk_at "st"
    refine r_li (sqL h13) ?_
    refine forW_list (fun i σ' H' => (∃ v8, σ' = [some (.ref a0), some (.ref p), some (.ref tb), some (.ref t), some (.int m), some v, some (.ref tg), some (.ref q10), v8, v9]) ∧ Src H' p ∧ But p H7 H' ∧ H' lp = some (.lst xs) ∧ ∀ x ∈ xs, PartV p H7 H' (2000 + i) x) ⟨⟨v8, rfl⟩, s13, b7_13, h13, fun x hx => (hparts x hx).ext (e12.trans e13)⟩ (fun i σ' H' _ ⟨_, _, _, h, _⟩ => sqL h) ?_ ?_
    · rintro i x σ' H14 hx ⟨⟨v8, rfl⟩, s14, b14, h14, P14⟩
      have hxm := List.mem_of_getElem? hx
      have il : i < xs.length := (List.getElem?_eq_some_iff.mp hx).1
      have mono : ∀ {n n' : Nat} {H' : Hp} {y : V}, n ≤ n' → PartV p H7 H' n y → PartV p H7 H' n' y := fun hn h => by
        rcases h with h | h | ⟨a, ns, h1, h2, h3, h4, h5⟩
        · exact .inl h
        · exact .inr (.inl h)
        · exact .inr (.inr ⟨a, ns, h1, h2, h3, h4, by omega⟩)
      walk_at "st"
      rcases P14 x hxm with ⟨s, rfl⟩ | ⟨j, rfl⟩ | ⟨a, ns, rfl, a1, a2, a3, a4⟩
      · refine r_isi (b := "list") (.str s) (by simp) ?_
        rw [show isB (tyD (.str s)) "list" = false by simp [isB, tyD]]
        walk_at "st"
        exact ⟨⟨_, rfl⟩, s14, b14, h14, fun y hy => mono (by omega) (P14 y hy)⟩
      · refine r_isi (b := "list") (.int j) (by simp) ?_
        rw [show isB (tyD (.int j)) "list" = false by simp [isB, tyD]]
        walk_at "st"
        exact ⟨⟨_, rfl⟩, s14, b14, h14, fun y hy => mono (by omega) (P14 y hy)⟩
      · refine r_isi (b := "list") (d := .list (ns.map PyData.int)) (.lst (sqL a3) (dps_ints ns)) (by simp) ?_
        rw [show isB (tyD (.list (ns.map PyData.int))) "list" = true by simp [isB, tyD]]
        walk_at "st"
        refine ⟨.inl ⟨rfl, _, sqL a3⟩, ?_⟩
        walk_at "st"
        have lxs : xs.length ≤ 6 := by
          rcases oc with ⟨_, cq, oq, cs, os', x1, _⟩ | ⟨kind, first, fi, second, fj, letter, SH, r1, r2, x1, x2, x3, x4, x5⟩
          · rw [e11 _ _ x1] at hxs
            cases hxs
            exact Nat.le_of_ble_eq_true rfl
          · rw [e11 _ _ x5] at hxs
            cases hxs
            exact Nat.le_refl _
        refine r_app a3 (by rw [List.length_map]; omega) (fun H15 h15 n15 => ?_)
        refine ⟨⟨_, rfl⟩, s14.stay (.of n15) a2.symm, b14.mut a1 n15, (n15 _ (lpN _ hxm a rfl).symm).trans h14, fun y hy => ?_⟩
        rcases P14 y hy with h | h | ⟨b, ms, y1, y2, y3, y4, y5⟩
        · exact .inl h
        · exact .inr (.inl h)
        · by_cases z : b = a
          · subst z
            exact .inr (.inr ⟨b, ns ++ [0], y1, y2, y3, by rw [h15, List.map_append]; rfl, by rw [List.length_append]; show ns.length + 1 ≤ _; omega⟩)
          · exact .inr (.inr ⟨b, ms, y1, y2, y3, (n15 _ z).trans y4, by omega⟩)
    rintro σ' H14 ⟨⟨v8, rfl⟩, s14, b14, _, _⟩
    walk_at "st"
    refine ⟨p, t, st, m, rfl, s14, nw_but hT b14, g, m8, l12, fun qw tw sw mw du C what H15 qwp dup s15 b15 h15 hTw hdu D => ?_⟩
    walk_at "st"
    refine r_glst (sqL h15) rfl ?_
    walk_at "st"
    have good_bad : ∀ {w1}, BadSt sw mw w1 → GoodSt sw mw → False := fun hb gg => by
      rcases hb with ⟨h | ⟨row, hr, h⟩, _⟩ | ⟨_, h | ⟨row, hr, z, hz, h⟩, _⟩
      · have := gg.1.1; omega
      · exact h (gg.1.2 row hr)
      · exact gg.2.1 h
      · exact h (gg.2.2 row hr z hz)
    cases D with
    | l h =>
      refine ⟨tw, sw, mw, rfl, tb_of hTw, ⟨fun c => ?_, fun c => by omega, fun c => by omega, fun c => by omega⟩⟩
      · intro q16 H16 e16 h16
        walk_at "st"
        refine ⟨.ref q16, .ref du, dueD _ _, rfl, dueD_dp h16, dueD_dp (e16 _ _ hdu), dueD_small _ _, fun H17 e17 => ?_⟩
        walk_at "st"
        exact ⟨⟨_, _, _, _, _, _, _, rfl⟩, (s15.ext e16).ext e17, (((b7.trans b14).trans b15).ext e16).ext e17⟩
    | s h1 h2 =>
      refine ⟨tw, sw, mw, rfl, tb_of hTw, ⟨fun c => by omega, fun c1 c2 => ?_, fun _ c => by omega, fun _ c => by omega⟩⟩
      · intro q16 H16 e16 h16
        walk_at "st"
        refine ⟨.ref q16, .ref du, dueD _ _, rfl, dueD_dp h16, dueD_dp (e16 _ _ hdu), dueD_small _ _, fun H17 e17 => ?_⟩
        walk_at "st"
        exact ⟨⟨_, _, _, _, _, _, _, rfl⟩, (s15.ext e16).ext e17, (((b7.trans b14).trans b15).ext e16).ext e17⟩
    | b h1 h2 hb =>
      refine ⟨tw, sw, mw, rfl, tb_of hTw, ⟨fun c => by omega, fun _ c => by omega, fun _ _ w' hb' => ?_, fun _ _ gg => (good_bad hb gg).elim⟩⟩
      · have ew : w' = what := by
          rcases hb with ⟨h, rfl⟩ | ⟨⟨h1, h2⟩, _, rfl⟩
          · rcases hb' with ⟨_, rfl⟩ | ⟨⟨h3, h4⟩, _⟩
            · rfl
            · rcases h with h | ⟨row, hr, h⟩
              · omega
              · exact absurd (h4 row hr) h
          · rcases hb' with ⟨h, _⟩ | ⟨_, _, rfl⟩
            · rcases h with h | ⟨row, hr, h⟩
              · omega
              · exact absurd (h2 row hr) h
            · rfl
        subst ew
        intro q16 H16 e16 h16
        walk_at "st"
        refine ⟨.ref q16, .ref du, dueD _ _, rfl, dueD_dp h16, dueD_dp (e16 _ _ hdu), dueD_small _ _, fun H17 e17 => ?_⟩
        walk_at "st"
        exact ⟨⟨_, _, _, _, _, _, _, rfl⟩, (s15.ext e16).ext e17, (((b7.trans b14).trans b15).ext e16).ext e17⟩
  · rintro σ' H7 ⟨⟨v3, v4, v5, v6, v7, v8, v9, rfl⟩, s7, b7⟩
    walk_at "st"
    exact k H7

end
end K29

theorem PySem.Challenge.cw_toldoutside_k29_sums_and_rows_that_part_holds : PySem.Challenge.rw_toldoutside_k29_sums_and_rows_that_part.Holds :=
  K29.law_of 11 ⟨rfl, by decide, by decide⟩ fun w K mg base _ _ T fd D => K29.ok_law T D
