import PyProof.Rows.All
import Wide.All
import OpenK.AllK
import Wide.FinOn
import Lean
import KE.KIsAll
import KE.KExcIs
import HandS.ForMost
import HandS.ForExc
import HandS.IsInst
import HandS.Wide
import HandS.StrMore
import HandS.Flow
import HandS.Style
import HandS.Deep
import HandS.Defaults
import HandS.ExcInit
import HandS.ExcCtx
import HandS.ExcField
import HandS.ExcIs
import HandS.HotCalls
import HandS.ExcInitHot
import HandS.Conv
import HandS.Rev
import HandS.Head0
import HandS.Head1
import HandS.Head2
import HandS.HeadEnd
import HandS.HeadHook1
import HandS.HeadHook2
import HandS.TupAny
import HandS.StrSplit
import HandS.SetKeys
import HandS.TupMul
import HandS.Comp
import HandS.Iter
import HandS.Dict
import HandS.Small
import HandS.CallSlots
import HandS.SortInts
import HandS.WordsDict
import HandS.More
import HandS.Call
import PyProof.Rows.CountFlat
import KE.SortData
import HandS.SortKw
import KE.GoesMore
import KE.GoesEnum
import PySem.Challenge.RW_grantedbyturns_k16_strike_leaves_out_lin
set_option Elab.async false
set_option linter.all false
set_option maxRecDepth 100000
set_option maxHeartbeats 4000000
set_option autoImplicit false
namespace GV
open PySem PySem.Spec PyProof.Rows L2
abbrev Fg := PySem.W.Frag
/-- an exception object of the class D with a dict: its isinstance facts -/
structure EC (K : Fg) (D : Addr) : Prop where
  hc : (PySem.W.clsIn K D).isSome = true
  xf : XfC K D
  ca : PySem.W.findIn K (.ref D) "__class__" = some (some (.builtin "object.__class__"))
  gt : PySem.W.specialIn K (.builtin "object.__class__") "__get__" = some (some (.builtin "getset_descriptor.__get__"))
  tk : PySem.W.takesIn K (.builtin "object.__class__") = some true
  mo : PySem.W.mroIn K D (.type "object") = some true

/-! ### hot functions whose promise knows the handled exception -/
section
variable {P : Program} {w : World} {K : Fg} {mg : Str → Option Value} {base : Heap}
structure FnE (P : Program) (w : World) (K : Fg) (mg : Str → Option Value) (base : Heap) (CX : CXT) (k : Nat) (f : Addr) (fd : FuncData) (ps : List Str) (sp : Addr × Obj → Sp) : Prop where
  len : ∀ p vs H Q E, sp p vs H Q E → vs.length = ps.length
  run : ∀ (p : Addr × Obj) (A : Around) (outer : List Env) (s : Shared) (H : Hp) (args : Args) (us : List Value) (vs : List V) (Q : VK) (E : XK),
    L2H.RoomH k A → L2H.Hot1 A p → L2H.PinOk outer H s p → Env0 P w K mg base A outer s H → BindsTo s fd args (ps.zip us) →
    Vals vs us → sp p vs H Q E → codeAny (model P w) A (.call (.ref f) args) (CR CX outer P w H s Q E) s

theorem fnE_of {CX : CXT} {k : Nat} {f : Addr} {N ps : List Str} {sp : Addr × Obj → Sp} {x qual : Str} {params : Arguments} {body : List Stmt} {scope : Scope} {dvs : List V} {kws : List (Str × V)} {fd : FuncData}
    (F : FunD K x qual params body scope dvs kws f fd) (S : FnScope N ps scope)
    (len : ∀ p vs H Q E, sp p vs H Q E → vs.length = ps.length)
    (hbody : ∀ (cdv : Value) (A : Around) (outer : List Env) (s : Shared) (H : Hp) (vs : List V) (Q : VK) (E : XK) (p : Addr × Obj), L2H.Hot1 A p →
      L2H.RoomH k (A.deeper (envOfC qual scope s.heap.objs.size f cdv)) → sp p vs H Q E →
      ∃ t, PSs (L2H.cxH CX P w K mg base N qual scope f cdv A outer s H E p) body t ∧ t { nx := fun _ H' => Q .non H', rt := Q } (L2.start N vs) H) :
    FnE P w K mg base CX (k + 1) f fd ps sp := by
  obtain ⟨oc, od, dV, kV, doc, pm, an, cdv, ct, osl, rfl, lk, hcd, _, _⟩ := F.ex
  constructor
  · exact len
  intro p A outer s H args us vs Q E room hot pin e0 bnd rel hsp
  have hl := len _ _ _ _ _ hsp
  have hK : K.In s.heap := e0.mod.kin.keeps (fun b o e => (e0.bs b o e).1)
  have hlim : s.heap.NoLimit := e0.mod.nolimit.keeps (fun b o e => (e0.bs b o e).1)
  have hkinds : ∀ y ∈ ps.zip us, scope.names.lookup y.1 = some .local ∨ (scope.names.lookup y.1 = some .cell ∧ ((cellsFrom (s.heap.objs.size + 1) scope.names []).lookup y.1).isSome = true) := by
    rintro ⟨n, v⟩ hy
    have hm := (List.of_mem_zip hy).1
    cases S.par n hm with
    | inl q => exact .inl q
    | inr q => exact .inr ⟨q, PySem.W.cellsFrom_some _ _ _ (.inl q)⟩
  refine codeAny_call_function room.depth (hK _ _ lk) rfl S.co S.gen rfl (PySem.W.codeRec_of hK hcd) (bnd _ _ _ _ ?_)
  refine wpAny_newFunctionEnv_cells S.kind hkinds (fun env he s1 x => ?_)
  subst he
  refine ⟨hlim.keeps x.toInCall.keep, codeAny_func ?_⟩
  obtain ⟨t, ht, hq⟩ := hbody cdv A outer s H vs Q E p hot (room.deeper _) hsp
  have I := L2H.inv_startH (CX := CX) (E := E) S pin e0 hl rel x
  refine wpAny_mono (ht.run [] s1 (L2.start N vs) H _ I hq) ?_ (fun e s' hs => hs)
  intro fl s' hs
  match fl, hs with
  | .ret u, ⟨v, σ', H', J, rv, q⟩ => exact ⟨v, H', J.os, J.bare, J.base, J.hok, rv, q⟩
  | .next, ⟨σ', H', J, q⟩ => exact ⟨V.non, H', J.os, J.bare, J.base, J.hok, rfl, q⟩
  | .brk, ⟨_, _, _, q⟩ => exact q.elim
  | .cont, ⟨_, _, _, q⟩ => exact q.elim
/-- from a context that bears p as the handled exception -/
theorem pe_callE {X : Cx} {CX : CXT} {k : Nat} {f : Addr} {fd : FuncData} {ps : List Str} {sp : Addr × Obj → Sp} {E : L2.St → XK} {x : Str} {q pos : Pos} {e : Expr} {es : List Expr} {t : TA} {p : Addr × Obj}
    (F : FnE X.prog X.w X.K X.mg X.base CX k f fd ps sp) (hr : L2H.RoomH k X.A) (hot : L2H.Hot1 X.A p) (hp : p ∈ X.pn)
    {sp0 : Sp} (hi : ∀ vs H Q E, sp0 vs H Q E → sp p vs H Q E)
    (hg : Gl X x) (hm : X.mg x = some (.ref f)) (hk : PySem.W.keepIn X.K (.ref f) = true) (hb : Binds X.K fd ps []) (hx : ∀ σ, PassesAt CX X σ (E σ))
    (ha : PA X (e :: es) t) (hdb : (x == ("__debug__" : Str)) = false := by decide)
    (he : starEach (e :: es) X.env = (false, eval e X.env) :: starEach es X.env := by rfl)
    (hpl : (backTo pos (starEach es X.env)).any (·.1) = false := by rfl) :
    PE X (.Call (.Name x q) (e :: es) [] pos) (tCallS sp0 E t) := by
  refine ⟨fun pins s σ H Q I h => ?_⟩
  refine wpAny_Call_Name_kw (ld_glob I hg hm ?_ hdb)
  refine PySem.W.callWith_K (h₀ := X.base) I.ok.mod.kin hk (thn (ha.run pos pins s σ H _ I h) ?_) he hpl
  rintro us s1 ⟨vs, H1, J, r, hq0⟩
  have hq := hi _ _ _ _ hq0
  refine ⟨J.kIn, ?_⟩
  have hl : us.length = ps.length := by rw [← r.length]; exact F.len _ _ _ _ _ hq
  have b := hb s1 us J.kIn (by rw [List.append_nil]; exact hl)
  rw [List.append_nil] at b
  have P1 := J.pin p (List.mem_append_left _ hp)
  have hpin : L2H.PinOk X.stack H1 s1 p :=
    ⟨P1.1, P1.2.1, fun hm => (List.mem_cons.mp (J.stkSub p.1 hm)).elim P1.2.2.1 P1.2.2.2.1, P1.2.2.2.2⟩
  refine wpAny_call (codeAny_mono (F.run p X.A X.stack s1 H1 ⟨us, []⟩ us vs Q (E σ) hr hot hpin J.env0 b r hq) ?_)
  intro r s' hq'
  match r, hq' with
  | .error e, h => exact hx σ pins H1 s1 e s' J h
  | .ok (.ret u), h => exact J.after h
  | .ok .next, h => exact h.elim
  | .ok .brk, h => exact h.elim
  | .ok .cont, h => exact h.elim
end
/-! ### what may be asked of the handled exception -/
section
variable {X : Cx} {a C : Addr} {oe : Obj} {d : Addr}
/-- e.n -/
theorem pe_xfP {e : Expr} {te : TE} {pos : Pos} {n : Str} (T : XfC X.K C) (hno : PySem.W.findIn X.K (.ref C) n = some none)
    (hz : L2N.Zn (.ref C) (some d) oe) (hf : ∃ vs, oe.data = .fields vs) (hp : (a, oe) ∈ X.pn) (he : PE X e te)
    (hb : attributeBase e n X.env (eval e X.env) = eval e X.env := by rfl) :
    PE X (.Attribute e n pos) (tXf a (.ref C) (some d) C n te) := by
  refine ⟨fun pins s σ H Q I h => attr_of hb (thn (he.run pins s σ H _ I h) ?_)⟩
  rintro u s1 ⟨x, H1, J, rx, ex, ec, dd, fs, v, ed, ea, l, q⟩
  subst ex
  obtain rfl : u = Value.ref a := rx
  cases ed
  have hget := (J.pin (a, oe) (List.mem_append_left _ hp)).1
  obtain ⟨vs, hd⟩ := hf
  obtain ⟨mA, hns, hr⟩ := (J.hok d _ ea : ObjOk X.prog X.w H1 s1.heap d (.xd fs))
  obtain ⟨od, ho, hl⟩ := lookIn_ns hns
  have hrn := hr n
  rw [l] at hrn
  obtain ⟨u, hu, ru⟩ := RelO.some_of hrn
  have inst : PySem.W.InstAt s1.heap a oe C (some od) := by
    refine ⟨hget, hz.1, ?_, ?_⟩
    · unfold PySem.W.notCls; rw [hd] <;> rfl
    · rw [hz.2.1]; exact ho
  refine HandSPX.exc_get J.kIn inst T.ga T.gg T.exC (PySem.W.findObj_own T.hdC hno rfl (by rw [hl, hu])) (handed_of ru) ?_
  exact ⟨v, H1, J.tok _, ru, q⟩
/-- isinstance(e, ..): e the handled exception, its dict stands at d -/
def rIsE (K : Fg) (C a d : Addr) : List V → Hp → VK → Prop := fun xs H Q => (∃ fs, H d = some (.xd fs)) ∧
  ((∃ (D : Addr) (b : Bool), xs = [.ref a, .ref D] ∧ PySem.W.kitOne K (.ref C) (.ref D) = some b ∧ Q (.bl b) H) ∨
   (∃ (T : String) (b : Bool), xs = [.ref a, .ty T] ∧ PySem.W.kitOne K (.ref C) (.type T) = some b ∧ Q (.bl b) H) ∨
   (∃ (t : Addr) (Ds : List Addr) (b : Bool), xs = [.ref a, .ref t] ∧ SqT K H t (Ds.map V.ref) ∧ PySem.W.kitAny K (.ref C) (Ds.map Value.ref) = some b ∧ Q (.bl b) H))
theorem vals_refs : ∀ {Ds : List Addr} {us : List Value}, Vals (Ds.map V.ref) us → us = Ds.map Value.ref
  | [], _, .nil => rfl
  | a :: r, _, .cons h t => by
    cases h
    rw [vals_refs t]
    rfl
theorem call_isE (T : EC X.K C) (hz : L2N.Zn (.ref C) (some d) oe) (hf : ∃ vs, oe.data = .fields vs) (hp : (a, oe) ∈ X.pn) : CallR X (.builtin "isinstance") (rIsE X.K C a d) := by
  intro pins s σ H xs us Q I r h
  obtain ⟨⟨fs, ea⟩, h⟩ := h
  have hget := (I.pin (a, oe) (List.mem_append_left _ hp)).1
  obtain ⟨vs, hd⟩ := hf
  obtain ⟨mA, hns, hr⟩ := (I.hok d _ ea : ObjOk X.prog X.w H s.heap d (.xd fs))
  obtain ⟨od, ho, hl⟩ := lookIn_ns hns
  have inst : PySem.W.InstAt s.heap a oe C (some od) := by
    refine ⟨hget, hz.1, ?_, ?_⟩
    · unfold PySem.W.notCls; rw [hd] <;> rfl
    · rw [hz.2.1]; exact ho
  have kx := PySem.W.kitx_exc (K := X.K) (x := a) (C := C) (ox := oe) (od := some od) T.hc T.xf.ga T.xf.gg T.xf.exC T.ca T.gt T.tk T.mo
  rcases h with ⟨D, b, rfl, e, q⟩ | ⟨T', b, rfl, e, q⟩ | ⟨t, Ds, b, rfl, ht, e, q⟩
  · obtain ⟨u, v, rfl, h1, h2⟩ : ∃ u v, us = [u, v] ∧ RelV (.ref a) u ∧ RelV (.ref D) v := by
      cases r with
      | cons r1 r2 => cases r2 with
        | cons r3 r4 => cases r4; exact ⟨_, _, rfl, r1, r3⟩
    cases h1; cases h2
    exact PySem.W.kia_one kx I.kIn inst e (fun z => nomatch z) fun tk => ⟨.bl b, H, I.kept (t' := tk) fun _ _ z => z, rfl, q⟩
  · obtain ⟨u, v, rfl, h1, h2⟩ : ∃ u v, us = [u, v] ∧ RelV (.ref a) u ∧ RelV (.ty T') v := by
      cases r with
      | cons r1 r2 => cases r2 with
        | cons r3 r4 => cases r4; exact ⟨_, _, rfl, r1, r3⟩
    cases h1; cases h2
    exact PySem.W.kia_one kx I.kIn inst e (fun z => nomatch z) fun tk => ⟨.bl b, H, I.kept (t' := tk) fun _ _ z => z, rfl, q⟩
  · obtain ⟨u, v, rfl, h1, h2⟩ : ∃ u v, us = [u, v] ∧ RelV (.ref a) u ∧ RelV (.ref t) v := by
      cases r with
      | cons r1 r2 => cases r2 with
        | cons r3 r4 => cases r4; exact ⟨_, _, rfl, r1, r3⟩
    cases h1; cases h2
    obtain ⟨its, hv, ht', _⟩ := I.tuple ht
    have ei := vals_refs hv
    subst ei
    obtain ⟨ob, hob, hcls, hdat⟩ := ht'
    obtain ⟨oc, odt, oda, osl⟩ := ob
    dsimp only at hcls hdat
    subst hcls
    obtain ⟨n, rfl⟩ : ∃ n, oda = Data.seq (Ds.map Value.ref).toArray n := by
      first
        | exact ⟨_, hdat⟩
        | exact hdat
    exact PySem.W.kia_tup kx I.kIn inst hob e (fun z => nomatch z) fun tk => ⟨.bl b, H, I.kept (t' := tk) fun _ _ z => z, rfl, q⟩
end
end GV

namespace GV
open PySem PySem.Spec PyProof.Rows L2
/-! ### raise C(e, ..) of an own class whose __init__ stores its arguments -/
section
variable {X : Cx} {e : Expr} {es : List Expr} {ta : TA} {p pos : Pos}
theorem pmk_oexN {CX : CXT} {x : Str} {C fI : Addr} {k : Nat} {fd : FuncData} {ps : List Str} {sp : Sp} (T : OexC X.K C)
    (iC : PySem.W.findIn X.K (.ref C) "__init__" = some (some (.ref fI))) (tI : PySem.W.typeIn X.K (.ref fI) = some (.type "function"))
    (F1 : FnOk X.prog X.w X.K X.mg X.base CX k fI fd ps sp) (hr : Room (k + 1) X.A) (hb : Binds X.K fd ps []) (hx : Passes CX X (fun _ _ _ => False))
    (hg : Gl X x) (hm : X.mg x = some (.ref C)) (ha : PA X (e :: es) ta) (hdb : (x == ("__debug__" : Str)) = false := by decide)
    (he : starEach (e :: es) X.env = (false, eval e X.env) :: starEach es X.env := by rfl)
    (hpl : (backTo pos (starEach es X.env)).any (·.1) = false := by rfl) :
    L2N.PMk X (.Call (.Name x p) (e :: es) [] pos) (tMkO C sp [] ta) := by
  intro pins s σ H Q I h
  obtain ⟨nm, q, N, bs, bm, sn, sub, ab, col, dd, k0, k1, k2, k3, k5, hC, hbm⟩ := T.cls
  refine wpAny_Call_Name_kw (ld_glob I hg hm ?_ hdb)
  refine PySem.W.callWith_K (h₀ := X.base) I.ok.mod.kin T.kC (thn (ha.run pos pins s σ H _ I h) ?_) he hpl
  rintro us s1 ⟨vs, H1, J, r1, hz, q1⟩
  refine ⟨J.kIn, ?_⟩
  show wpAny _ _ (call (.ref C) us) _ _ _
  obtain ⟨hp, g, dr, tk, os⟩ := s1
  have h01 : hp.objs.size ≤ hp.objs.size + 1 := Nat.le_succ _
  have hn : H1 (hp.objs.size + 1) = none := J.hok.fresh h01
  have hq := q1 (hp.objs.size + 1) hn
  rw [List.append_nil] at hq
  let hp2 := (hp.push (PySem.W.kdv_tup us)).push (PySem.HandSPX.excO C hp.objs.size)
  have kk : ∀ b o, hp.get? b = some o → hp2.get? b = some o := fun b o e => Heap.get?_push_of_some _ (Heap.get?_push_of_some _ e)
  have hget : hp2.get? (hp.objs.size + 1) = some (PySem.HandSPX.excO C hp.objs.size) := by
    show ((hp.push (PySem.W.kdv_tup us)).push (PySem.HandSPX.excO C hp.objs.size)).get? (hp.objs.size + 1) = _
    heap_get
  have J2 : Inv X pins σ (upd H1 (hp.objs.size + 1) (exo (hp.objs.size + 1) C none)) ⟨hp2, g, dr, tk, os⟩ :=
    J.laid (t' := tk) (a := hp.objs.size + 1) (o := exo (hp.objs.size + 1) C none) (h' := hp2) kk h01 (exo_ok hget)
  have r2 : Vals (V.ref (hp.objs.size + 1) :: vs) (Value.ref (hp.objs.size + 1) :: us) := .cons rfl r1
  have hl : (Value.ref (hp.objs.size + 1) :: us ++ []).length = ps.length := by
    have e := r2.length
    rw [F1.len _ _ _ _ hq] at e
    rw [List.append_nil]
    exact e.symm
  have b2 := hb _ (Value.ref (hp.objs.size + 1) :: us) J2.kIn hl
  rw [List.append_nil] at b2
  have hus : us.length ≤ sizeLine := by
    rw [← Paired.length r1, sizeLine_eq]
    omega
  refine wpAny_call (PySem.HandSPX.call_own F.excBase_ValueError (fun Y => PySem.HandSPX.refsVE_contains Y bm hbm) (J.kIn _ _ hC) (PySem.W.looks_findIn J.kIn iC) (fun self => PySem.W.bind_fn J.kIn self tI) hus
    (codeAny_mono (F1.run _ X.stack _ _ ⟨Value.ref (hp.objs.size + 1) :: us, []⟩ (Value.ref (hp.objs.size + 1) :: us) _ _ (fun _ _ _ => False) (hr.make C us []) (J2.env0.make C us []) b2 r2 hq) ?_))
  intro r s' hq'
  match r, hq' with
  | .error er, h => exact (hx pins σ _ _ er s' J2 h)
  | .ok .next, h => exact h.elim
  | .ok .brk, h => exact h.elim
  | .ok .cont, h => exact h.elim
  | .ok (.ret u), h =>
    obtain ⟨v, H2, os2, bare2, un2, hok2, rv, ev, d, fs, ea, ed, hd1, q2⟩ := h
    subst ev
    obtain ⟨h2, g2, d2, t2, os'⟩ := s'
    obtain ⟨t0, G, I4, kG, ge, hoe, na⟩ := mk_end0 (d2 := d2) (t2 := t2) J h01 kk un2 hok2 os2 bare2 ea ed hd1
    refine ⟨rv, ⟨hp.objs.size + 1, _, _, ⟨G, g2, d2, t2, os'⟩, _, .ref C, some d, rfl, I4, kG, ge, hoe, ⟨rfl, rfl, ?_⟩, rfl, rfl, na, rfl, bare2, raises_own T.exC T.tyC, q2⟩⟩
    intro vs hv
    cases hv
    rfl
end
/-! ### __init__ -/
/-- it hands back None and leaves the fields fs at a new dict d -/
def spI (C : Addr) (ns : List Str) : Sp := fun vs H Q _ => ∃ (a : Addr) (us : List V), vs = .ref a :: us ∧ us.length = ns.length ∧ H a = some (exo a C none) ∧
  ∀ (d : Addr) (H' : Hp), H d = none → d ≠ a → H' a = some (exo a C (some d)) → H' d = some (exd d (ns.zip us).reverse) →
    (∀ b o, H b = some o → b ≠ a → H' b = some o) → Q .non H'
section
variable {P : Program} {w : World} {K : Fg} {mg : Str → Option Value} {base : Heap} {CX : CXT}
theorem ok_init1 {C f : Addr} {fd : FuncData} {qual n : Str} {params : Arguments} {p1 p2 p3 p4 : Pos} {sc : Scope}
    (F : FunD K "__init__" qual params [.Assign [.Attribute (.Name "self" p1) n p2] (.Name n p3) p4] sc [] [] f fd)
    (S : FnScope ["self", n] ["self", n] sc) (T : OexC K C) (hno : PySem.W.findIn K (.ref C) n = some none)
    (v1 : List.lookup (Str.ofString "self") sc.names = some NameKind.local) (v2 : List.lookup n sc.names = some NameKind.local)
    (hd : (n == ("__debug__" : Str)) = false) (hcd : (n == ("__classdict__" : Str)) = false) :
    FnOk P w K mg base CX 1 f fd ["self", n] (spI C [n]) := by
  refine F.ok S (fun vs H Q E h => ?_) (fun cdv A outer s H vs Q E hr h => ?_)
  · obtain ⟨a, us, rfl, hl, _⟩ := h
    exact congrArg Nat.succ hl
  · obtain ⟨a, us, rfl, hl, ha, k⟩ := h
    obtain ⟨y, rfl⟩ : ∃ y, us = [y] := by
      match us, hl with
      | [y], _ => exact ⟨y, rfl⟩
    refine ⟨_, pss_one (ps_ost (pe_var (i := 0) rfl (.inl v1)) (pe_var (i := 1) rfl (.inl v2) hd hcd)), ?_⟩
    refine ⟨y, rfl, .ref a, rfl, a, C, rfl, T, hno, .inl ⟨ha, fun dx hn ne => ?_⟩⟩
    refine k dx _ hn ne upd_same ?_ (fun b o hb hba => ?_)
    · rw [upd_ne ne, upd_same]
      rfl
    · rw [upd_ne hba, upd_ne (ne_of_none hb hn)]
      exact hb
theorem ok_init2 {C f : Addr} {fd : FuncData} {qual n m : Str} {params : Arguments} {p1 p2 p3 p4 q1 q2 q3 q4 : Pos} {sc : Scope}
    (F : FunD K "__init__" qual params [.Assign [.Attribute (.Name "self" p1) n p2] (.Name n p3) p4, .Assign [.Attribute (.Name "self" q1) m q2] (.Name m q3) q4] sc [] [] f fd)
    (S : FnScope ["self", n, m] ["self", n, m] sc) (T : OexC K C) (hno : PySem.W.findIn K (.ref C) n = some none) (hno2 : PySem.W.findIn K (.ref C) m = some none)
    (v1 : List.lookup (Str.ofString "self") sc.names = some NameKind.local) (v2 : List.lookup n sc.names = some NameKind.local) (v3 : List.lookup m sc.names = some NameKind.local)
    (hd : (n == ("__debug__" : Str)) = false) (hcd : (n == ("__classdict__" : Str)) = false) (hd2 : (m == ("__debug__" : Str)) = false) (hcd2 : (m == ("__classdict__" : Str)) = false) :
    FnOk P w K mg base CX 1 f fd ["self", n, m] (spI C [n, m]) := by
  refine F.ok S (fun vs H Q E h => ?_) (fun cdv A outer s H vs Q E hr h => ?_)
  · obtain ⟨a, us, rfl, hl, _⟩ := h
    exact congrArg Nat.succ hl
  · obtain ⟨a, us, rfl, hl, ha, k⟩ := h
    obtain ⟨y, z, rfl⟩ : ∃ y z, us = [y, z] := by
      match us, hl with
      | [y, z], _ => exact ⟨y, z, rfl⟩
    refine ⟨_, pss_cons (ps_ost (pe_var (i := 0) rfl (.inl v1)) (pe_var (i := 1) rfl (.inl v2) hd hcd)) (pss_one (ps_ost (pe_var (i := 0) rfl (.inl v1)) (pe_var (i := 2) rfl (.inl v3) hd2 hcd2))), ?_⟩
    refine ⟨y, rfl, .ref a, rfl, a, C, rfl, T, hno, .inl ⟨ha, fun dx hn ne => ?_⟩⟩
    have e1 : (upd (upd H dx (exd dx [(n, y)])) a (exo a C (some dx))) a = some (exo a C (some dx)) := upd_same
    have e2 : (upd (upd H dx (exd dx [(n, y)])) a (exo a C (some dx))) dx = some (exd dx [(n, y)]) := by rw [upd_ne ne, upd_same]
    refine ⟨z, rfl, .ref a, rfl, a, C, rfl, T, hno2, .inr ⟨dx, [(n, y)], e1, e2, by show 1 ≤ 900; decide, ?_⟩⟩
    refine k dx _ hn ne ?_ upd_same (fun b o hb hba => ?_)
    · rw [upd_ne ne.symm]
      exact e1
    · rw [upd_ne (ne_of_none hb hn), upd_ne hba, upd_ne (ne_of_none hb hn)]
      exact hb
/-- the reading of a raise, at the arguments' values -/
theorem mkO_pt {C : Addr} {ns : List Str} {us : List V} {H1 : Hp} {Q : XK} (h9 : ns.length ≤ 900) (hl : us.length = ns.length)
    (k : ∀ d Hf, H1 d = none → Hf d = some (.xd (ns.zip us).reverse) → (∀ b o, H1 b = some o → Hf b = some o) → Q (.ref C) (some d) Hf) :
    us.length ≤ 1000 ∧ ∀ a, H1 a = none → spI C ns (.ref a :: (us ++ [])) (upd H1 a (exo a C none))
      (fun v H2 => v = .non ∧ ∃ (d : Addr) (fs : List (Str × V)), H2 a = some (exo a C (some d)) ∧ H2 d = some (exd d fs) ∧ H1 d = none ∧ Q (.ref C) (some d) (upd (del H2 a) d (.xd fs))) (fun _ _ _ => False) := by
  refine ⟨by rw [hl]; omega, fun a ha => ⟨a, us, by rw [List.append_nil], hl, upd_same, ?_⟩⟩
  intro d H' hd hda e1 e2 keep
  have hd1 : H1 d = none := by rw [upd_ne hda] at hd; exact hd
  refine ⟨rfl, d, _, e1, e2, hd1, k d _ hd1 upd_same fun b o hb => ?_⟩
  have hba : b ≠ a := ne_of_none hb ha
  rw [upd_ne (ne_of_none hb hd1), del_ne hba]
  refine keep b o ?_ hba
  rw [upd_ne hba]
  exact hb
end
end GV

/-! A layer over HandS: abstract values (tuples are values), a heap of cells, one universal reading a construct. -/
namespace GA
open PySem PySem.Spec PyProof.Rows L2 GV TL
inductive D where
  | non | bl (b : Bool) | int (i : Int) | str (cs : List Nat) | ref (a : Addr) | ty (n : String) | tup (ds : List D) | lof (ds : List D) | fl (ds : List D)
inductive Cell where
  | lst (ds : List D)
  | dic (kvs : List (Key × D))
  | dit (kvs : List (List Key × D))
  | xd (fs : List (Str × D))
  | st (P : Program) (w : World) (p : Addr) (S : Key → Bool) (n : Nat)
abbrev Ah := Addr → Option Cell
def updA (A : Ah) (a : Addr) (c : Cell) : Ah := fun b => if b = a then some c else A b
theorem updA_same {A : Ah} {a : Addr} {c : Cell} : updA A a c a = some c := if_pos rfl
theorem updA_ne {A : Ah} {a b : Addr} {c : Cell} (h : b ≠ a) : updA A a c b = A b := if_neg h
theorem updA_updA {A : Ah} {a : Addr} {c c' : Cell} : updA (updA A a c) a c' = updA A a c' := by
  funext b; unfold updA; split <;> rfl
theorem neA {A : Ah} {a b : Addr} {c : Cell} (h : A a = some c) (h' : A b = none) : a ≠ b := by
  intro e; subst e; rw [h] at h'; cases h'
/-- a list that nothing writes to: frozen, or of the text -/
def SqF (K : Fg) (H : Hp) (a : Addr) (xs : List V) : Prop := (∃ o, H a = some (.frz o (.lst xs))) ∨ ∃ o its n, List.lookup a K = some o ∧ o.cls = Value.type "list" ∧ o.dict = none ∧ o.data = Data.seq its n ∧ its.size ≤ sizeLine ∧ Vals xs its.toList
theorem SqF.seq {K : Fg} {H : Hp} {a : Addr} {xs : List V} (h : SqF K H a xs) : SqL K H a xs := h.imp (fun h => .inr h) id
theorem SqF.of {K : Fg} {H : Hp} {a : Addr} {xs : List V} (o : Only H) (h : SqL K H a xs) : SqF K H a xs := h.imp (fun h => by
  rcases h with h | h
  · rcases o a with e | ⟨_, _, e⟩
    · rw [e] at h; cases h
    · rw [e] at h; cases h
  · exact h) id
mutual
inductive Val (K : Fg) (H : Hp) : V → D → Prop
  | non : Val K H .non .non
  | bl (b : Bool) : Val K H (.bl b) (.bl b)
  | int (i : Int) : Val K H (.int i) (.int i)
  | str (x : Str) : Val K H (.str x) (.str (tl x))
  | ref (a : Addr) : Val K H (.ref a) (.ref a)
  | ty (n : String) : Val K H (.ty n) (.ty n)
  | tup {a : Addr} {vs : List V} {ds : List D} : SqT K H a vs → Vls K H vs ds → Val K H (.ref a) (.tup ds)
  | lof {a : Addr} {vs : List V} {ds : List D} : SqF K H a vs → Vls K H vs ds → Val K H (.ref a) (.lof ds)
  | fl {a : Addr} {vs : List V} {ds : List D} : (∃ o, H a = some (.frz o (.lst vs))) → Vls K H vs ds → Val K H (.ref a) (.fl ds)
inductive Vls (K : Fg) (H : Hp) : List V → List D → Prop
  | nil : Vls K H [] []
  | cons {v : V} {vs : List V} {d : D} {ds : List D} : Val K H v d → Vls K H vs ds → Vls K H (v :: vs) (d :: ds)
end
structure Nxt (K : Fg) (H H' : Hp) : Prop where
  tp : ∀ a xs, SqT K H a xs → SqT K H' a xs
  fz : ∀ a o u, H a = some (.frz o u) → H' a = some (.frz o u)
theorem Nxt.rfl {K : Fg} {H : Hp} : Nxt K H H := ⟨fun _ _ h => h, fun _ _ _ h => h⟩
theorem Nxt.trans {K : Fg} {H H1 H2 : Hp} (a : Nxt K H H1) (b : Nxt K H1 H2) : Nxt K H H2 := ⟨fun x xs h => b.tp x xs (a.tp x xs h), fun x o u h => b.fz x o u (a.fz x o u h)⟩
mutual
theorem Val.mono {K : Fg} {H H' : Hp} (n : Nxt K H H') : ∀ {d : D} {v : V}, Val K H v d → Val K H' v d
  | .non, _, .non => .non
  | .bl _, _, .bl b => .bl b
  | .int _, _, .int i => .int i
  | .str _, _, .str x => .str x
  | .ref _, _, .ref a => .ref a
  | .ty _, _, .ty s => .ty s
  | .tup _, _, .tup h t => .tup (n.tp _ _ h) (Vls.mono n t)
  | .lof _, _, .lof h t => .lof (h.imp (fun ⟨o, h⟩ => ⟨o, n.fz _ _ _ h⟩) id) (Vls.mono n t)
  | .fl _, _, .fl ⟨o, h⟩ t => .fl ⟨o, n.fz _ _ _ h⟩ (Vls.mono n t)
theorem Vls.mono {K : Fg} {H H' : Hp} (n : Nxt K H H') : ∀ {ds : List D} {vs : List V}, Vls K H vs ds → Vls K H' vs ds
  | [], _, .nil => .nil
  | _ :: _, _, .cons h t => .cons (Val.mono n h) (Vls.mono n t)
end
section
variable {K : Fg} {H : Hp}
theorem Val.inv_non {v : V} (h : Val K H v .non) : v = .non := by cases h; rfl
theorem Val.inv_bl {v : V} {b : Bool} (h : Val K H v (.bl b)) : v = .bl b := by cases h; rfl
theorem Val.inv_int {v : V} {i : Int} (h : Val K H v (.int i)) : v = .int i := by cases h; rfl
theorem Val.inv_str {v : V} {cs : List Nat} (h : Val K H v (.str cs)) : ∃ x, v = .str x ∧ tl x = cs := by cases h; exact ⟨_, rfl, rfl⟩
theorem Val.inv_ref {v : V} {a : Addr} (h : Val K H v (.ref a)) : v = .ref a := by cases h; rfl
theorem Val.inv_ty {v : V} {n : String} (h : Val K H v (.ty n)) : v = .ty n := by cases h; rfl
theorem Val.inv_tup {v : V} {ds : List D} (h : Val K H v (.tup ds)) : ∃ a vs, v = .ref a ∧ SqT K H a vs ∧ Vls K H vs ds := by cases h with
  | tup h t => exact ⟨_, _, rfl, h, t⟩
theorem Val.inv_lof {v : V} {ds : List D} (h : Val K H v (.lof ds)) : ∃ a vs, v = .ref a ∧ SqF K H a vs ∧ Vls K H vs ds := by cases h with
  | lof h t => exact ⟨_, _, rfl, h, t⟩
theorem Val.inv_fl {v : V} {ds : List D} (h : Val K H v (.fl ds)) : ∃ a vs, v = .ref a ∧ Rd H a (.lst vs) ∧ Vls K H vs ds ∧ ∃ o, H a = some (.frz o (.lst vs)) := by cases h with
  | fl h t => exact ⟨_, _, rfl, .inr h, t, h⟩
theorem Rd.sq {a : Addr} {vs : List V} (h : Rd H a (.lst vs)) : SqL K H a vs := .inl h
theorem Val.strOf {x : Str} {cs : List Nat} (h : tl x = cs) : Val K H (.str x) (.str cs) := by subst h; exact .str x
theorem Vls.length {vs : List V} {ds : List D} (h : Vls K H vs ds) : vs.length = ds.length := by
  induction ds generalizing vs with
  | nil => cases h; rfl
  | cons d ds ih => cases h with
    | cons h t => exact congrArg Nat.succ (ih t)
theorem Vls.get {vs : List V} {ds : List D} (h : Vls K H vs ds) {i : Nat} {d : D} (e : ds[i]? = some d) : ∃ v, vs[i]? = some v ∧ Val K H v d := by
  induction ds generalizing vs i with
  | nil => cases e
  | cons d' ds ih => cases h with
    | cons h t => cases i with
      | zero => cases e; exact ⟨_, rfl, h⟩
      | succ i => exact ih t e
theorem Vls.get' {vs : List V} {ds : List D} (h : Vls K H vs ds) {i : Nat} {v : V} (e : vs[i]? = some v) : ∃ d, ds[i]? = some d ∧ Val K H v d := by
  induction ds generalizing vs i with
  | nil => cases h; cases e
  | cons d' ds ih => cases h with
    | cons h t => cases i with
      | zero => cases e; exact ⟨_, rfl, h⟩
      | succ i => exact ih t e
theorem Vls.append {vs ws : List V} {ds es : List D} (h : Vls K H vs ds) (h' : Vls K H ws es) : Vls K H (vs ++ ws) (ds ++ es) := by
  induction ds generalizing vs with
  | nil => cases h; exact h'
  | cons d ds ih => cases h with
    | cons h t => exact .cons h (ih t)
theorem Vls.take {vs : List V} {ds : List D} (n : Nat) (h : Vls K H vs ds) : Vls K H (vs.take n) (ds.take n) := by
  induction n generalizing vs ds with
  | zero => exact .nil
  | succ n ih => cases h with
    | nil => exact .nil
    | cons h t => exact .cons h (ih t)
theorem Vls.drop {vs : List V} {ds : List D} (n : Nat) (h : Vls K H vs ds) : Vls K H (vs.drop n) (ds.drop n) := by
  induction n generalizing vs ds with
  | zero => exact h
  | succ n ih => cases h with
    | nil => exact .nil
    | cons h t => exact ih t
theorem Vls.set {vs : List V} {ds : List D} {v : V} {d : D} (hv : Val K H v d) (n : Nat) (h : Vls K H vs ds) : Vls K H (vs.set n v) (ds.set n d) := by
  induction n generalizing vs ds with
  | zero => cases h with
    | nil => exact .nil
    | cons h t => exact .cons hv t
  | succ n ih => cases h with
    | nil => exact .nil
    | cons h t => exact .cons h (ih t)
theorem Vls.rev {vs : List V} {ds : List D} (h : Vls K H vs ds) : Vls K H vs.reverse ds.reverse := by
  induction ds generalizing vs with
  | nil => cases h; exact .nil
  | cons d ds ih => cases h with
    | cons h t =>
      rw [List.reverse_cons, List.reverse_cons]
      exact (ih t).append (.cons h .nil)
end
/-- what stands at a cell's address -/
inductive CellOk (K : Fg) (H : Hp) : Cell → HO → Prop
  | lst {ds : List D} {vs : List V} : Vls K H vs ds → CellOk K H (.lst ds) (.lst vs)
  | dic {kvs : List (Key × D)} {ws : List (Key × V)} : Paired (fun (p : Key × V) (q : Key × D) => p.1 = q.1 ∧ Val K H p.2 q.2) ws kvs → CellOk K H (.dic kvs) (.dK ws)
  | dit {kvs : List (List Key × D)} {ws : List (List Key × V)} : Paired (fun (p : List Key × V) (q : List Key × D) => p.1 = q.1 ∧ Val K H p.2 q.2) ws kvs → CellOk K H (.dit kvs) (.dT ws)
  | xd {fs : List (Str × D)} {ws : List (Str × V)} : Paired (fun (p : Str × V) (q : Str × D) => p.1 = q.1 ∧ Val K H p.2 q.2) ws fs → CellOk K H (.xd fs) (.xd ws)
  | st {P : Program} {w : World} {p : Addr} {S : Key → Bool} {n : Nat} : CellOk K H (.st P w p S n) (SetK P w p S n)
theorem CellOk.mono {K : Fg} {H H' : Hp} (n : Nxt K H H') {c : Cell} {o : HO} (h : CellOk K H c o) : CellOk K H' c o := by
  cases h with
  | lst h => exact .lst (h.mono n)
  | dic h => exact .dic (Paired.mapP h fun _ _ z => ⟨z.1, z.2.mono n⟩)
  | dit h => exact .dit (Paired.mapP h fun _ _ z => ⟨z.1, z.2.mono n⟩)
  | xd h => exact .xd (Paired.mapP h fun _ _ z => ⟨z.1, z.2.mono n⟩)
  | st => exact .st
def RelA (K : Fg) (H : Hp) (A : Ah) : Prop := ∀ a c, A a = some c → ∃ o, H a = some o ∧ CellOk K H c o
abbrev Gt := List (Option D)
structure Slots (K : Fg) (H : Hp) (σ : L2.St) (Γ : Gt) : Prop where
  len : σ.length = Γ.length
  get : ∀ (i : Nat) (d : D), Γ[i]? = some (some d) → ∃ v, σ[i]? = some (some v) ∧ Val K H v d
theorem Slots.mono {K : Fg} {H H' : Hp} {σ : L2.St} {Γ : Gt} (s : Slots K H σ Γ) (n : Nxt K H H') : Slots K H' σ Γ :=
  ⟨s.len, fun i d e => let ⟨v, h1, h2⟩ := s.get i d e; ⟨v, h1, h2.mono n⟩⟩
theorem Slots.set {K : Fg} {H : Hp} {σ : L2.St} {Γ : Gt} (s : Slots K H σ Γ) {i : Nat} {v : V} {d : D} (h : Val K H v d) : Slots K H (σ.set i (some v)) (Γ.set i (some d)) := by
  refine ⟨by rw [List.length_set, List.length_set]; exact s.len, fun j e hj => ?_⟩
  by_cases hij : i = j
  · subst hij
    by_cases hi : i < Γ.length
    · rw [List.getElem?_set_self hi] at hj
      cases hj
      exact ⟨v, List.getElem?_set_self (by rw [s.len]; exact hi), h⟩
    · rw [List.getElem?_eq_none (by rw [List.length_set]; omega)] at hj
      cases hj
  · rw [List.getElem?_set_ne hij] at hj
    rw [List.getElem?_set_ne hij]
    exact s.get j e hj
theorem Slots.unset {K : Fg} {H : Hp} {σ : L2.St} {Γ : Gt} (s : Slots K H σ Γ) {i : Nat} : Slots K H (σ.set i none) (Γ.set i none) := by
  refine ⟨by rw [List.length_set, List.length_set]; exact s.len, fun j e hj => ?_⟩
  by_cases hij : i = j
  · subst hij
    by_cases hi : i < Γ.length
    · rw [List.getElem?_set_self hi] at hj
      cases hj
    · rw [List.getElem?_eq_none (by rw [List.length_set]; omega)] at hj
      cases hj
  · rw [List.getElem?_set_ne hij] at hj
    rw [List.getElem?_set_ne hij]
    exact s.get j e hj
/-- an exception in the air: the name of its class, its dict's address -/
structure Exn where
  cls : Str
  d : Addr
abbrev AX := Exn → Ah → Prop
abbrev AE := Gt → Ah → (D → Ah → Prop) → AX → Prop
abbrev AT := Gt → Ah → (Bool → Ah → Prop) → AX → Prop
abbrev AA := Gt → Ah → (List D → Ah → Prop) → AX → Prop
structure AEnds where
  nx : Gt → Ah → Prop
  rt : D → Ah → Prop
  bk : Gt → Ah → Prop
  ct : Gt → Ah → Prop
  ex : Exn → Gt → Ah → Prop
abbrev AS := AEnds → Gt → Ah → Prop
abbrev exC (K : Fg) (e : Exn) : Value := .ref (He.ga K e.cls)
/-- what an expression's reading owes its abstract reading -/
def SimE (K : Fg) (W : WX) (te : TE) (ae : AE) : Prop := ∀ (σ : L2.St) (H : Hp) (Γ : Gt) (A : Ah) (q : D → Ah → Prop) (x : AX) (Q : VK), RelA K H A → Slots K H σ Γ → ae Γ A q x →
  (∀ H' v d A', Nxt K H H' → RelA K H' A' → Val K H' v d → q d A' → Q v H') → (∀ H' e A', Nxt K H H' → RelA K H' A' → x e A' → W (exC K e) (some e.d) σ H') → te σ H Q
def SimT (K : Fg) (W : WX) (tt : TT) (at_ : AT) : Prop := ∀ (σ : L2.St) (H : Hp) (Γ : Gt) (A : Ah) (q : Bool → Ah → Prop) (x : AX) (Q : Bool → Hp → Prop), RelA K H A → Slots K H σ Γ → at_ Γ A q x →
  (∀ H' b A', Nxt K H H' → RelA K H' A' → q b A' → Q b H') → (∀ H' e A', Nxt K H H' → RelA K H' A' → x e A' → W (exC K e) (some e.d) σ H') → tt σ H Q
def SimA (K : Fg) (W : WX) (ta : TA) (aa : AA) : Prop := ∀ (σ : L2.St) (H : Hp) (Γ : Gt) (A : Ah) (q : List D → Ah → Prop) (x : AX) (Q : List V → Hp → Prop), RelA K H A → Slots K H σ Γ → aa Γ A q x →
  (∀ H' vs ds A', Nxt K H H' → RelA K H' A' → Vls K H' vs ds → q ds A' → Q vs H') → (∀ H' e A', Nxt K H H' → RelA K H' A' → x e A' → W (exC K e) (some e.d) σ H') → ta σ H Q
structure SimD (K : Fg) (W : WX) (H0 : Hp) (D : L2.Ends) (AD : AEnds) : Prop where
  nx : ∀ σ H Γ A, Nxt K H0 H → RelA K H A → Slots K H σ Γ → AD.nx Γ A → D.nx σ H
  rt : ∀ v H d A, Nxt K H0 H → RelA K H A → Val K H v d → AD.rt d A → D.rt v H
  bk : ∀ σ H Γ A, Nxt K H0 H → RelA K H A → Slots K H σ Γ → AD.bk Γ A → D.bk σ H
  ct : ∀ σ H Γ A, Nxt K H0 H → RelA K H A → Slots K H σ Γ → AD.ct Γ A → D.ct σ H
  ex : ∀ e σ H Γ A, Nxt K H0 H → RelA K H A → Slots K H σ Γ → AD.ex e Γ A → W (exC K e) (some e.d) σ H
theorem SimD.mono {K : Fg} {W : WX} {H0 H1 : Hp} {D : L2.Ends} {AD : AEnds} (h : SimD K W H0 D AD) (n : Nxt K H0 H1) : SimD K W H1 D AD :=
  ⟨fun σ H Γ A k => h.nx σ H Γ A (n.trans k), fun v H d A k => h.rt v H d A (n.trans k), fun σ H Γ A k => h.bk σ H Γ A (n.trans k), fun σ H Γ A k => h.ct σ H Γ A (n.trans k), fun e σ H Γ A k => h.ex e σ H Γ A (n.trans k)⟩
def SimS (K : Fg) (W : WX) (ts : TS) (as : AS) : Prop := ∀ (D : L2.Ends) (AD : AEnds) (σ : L2.St) (H : Hp) (Γ : Gt) (A : Ah), RelA K H A → Slots K H σ Γ → as AD Γ A → SimD K W H D AD → ts D σ H
structure PEA (X : Cx) (W : WX) (e : Expr) (te : TE) (ae : AE) : Prop where
  pe : PE X e te
  sim : SimE X.K W te ae
structure PTA (X : Cx) (W : WX) (e : Expr) (tt : TT) (at_ : AT) : Prop where
  pe : PT X e tt
  sim : SimT X.K W tt at_
structure PWA (X : Cx) (W : WX) (e : Expr) (tt : TT) (at_ : AT) : Prop where
  pe : PW X e tt
  sim : SimT X.K W tt at_
structure PAA (X : Cx) (W : WX) (es : List Expr) (ta : TA) (aa : AA) : Prop where
  pe : PA X es ta
  sim : SimA X.K W ta aa
structure PSA (X : Cx) (W : WX) (st : Stmt) (ts : TS) (as : AS) : Prop where
  pe : PS X st ts
  sim : SimS X.K W ts as
structure PSsA (X : Cx) (W : WX) (sts : List Stmt) (ts : TS) (as : AS) : Prop where
  pe : PSs X sts ts
  sim : SimS X.K W ts as
/-! ### expressions -/
section
variable {X : Cx} {W : WX}
def aVar (i : Nat) : AE := fun Γ A q _ => match Γ[i]? with
  | some (some d) => q d A
  | _ => False
theorem ga_var {i : Nat} {x : Str} {pos : Pos} (hN : X.N[i]? = some x := by rfl) (hv : Vis X.env.scope x := by first | exact Or.inl rfl | exact Or.inr (Or.inl rfl) | exact Or.inr (Or.inr rfl)) (hd : (x == ("__debug__" : Str)) = false := by decide)
    (hcd : (x == ("__classdict__" : Str)) = false := by decide) : PEA X W (.Name x pos) (tVar i) (aVar i) where
  pe := pe_var hN hv hd hcd
  sim := fun σ H Γ A q x Q R S h k _ => by
    unfold aVar at h
    split at h
    · rename_i d e
      obtain ⟨v, h1, h2⟩ := S.get i d e
      exact ⟨v, h1, k H v d A .rfl R h2 h⟩
    · exact h.elim
def aC (d : D) : AE := fun _ A q _ => q d A
theorem sim_c {K : Fg} {v : V} {d : D} (hv : ∀ H, Val K H v d) : SimE K W (tC v) (aC d) := fun σ H Γ A q x Q R S h k _ => k H v d A .rfl R (hv H) h
theorem ga_int {i j pos} : PEA X W (.Constant (.int i) j pos) (tC (.int i)) (aC (.int i)) := ⟨pe_int, sim_c fun _ => .int i⟩
theorem ga_bl {b j pos} : PEA X W (.Constant (.bool b) j pos) (tC (.bl b)) (aC (.bl b)) := ⟨pe_bl, sim_c fun _ => .bl b⟩
theorem ga_non {j pos} : PEA X W (.Constant .none j pos) (tC .non) (aC .non) := ⟨pe_non, sim_c fun _ => .non⟩
theorem ga_str {x j pos} : PEA X W (.Constant (.str x) j pos) (tC (.str x)) (aC (.str (tl x))) := ⟨pe_str, sim_c fun _ => .str x⟩
theorem ga_glob {x : Str} {v : V} {u : Value} {d : D} {pos : Pos} (hm : X.mg x = some u) (r : RelV v u) (hv : ∀ H, Val X.K H v d) (hg : Gl X x := by rfl) (hd : (x == ("__debug__" : Str)) = false := by decide) : PEA X W (.Name x pos) (tC v) (aC d) :=
  ⟨pe_glob hg hm r hd, sim_c hv⟩
theorem ga_bltn {x : Str} {v : V} {u : Value} {d : D} {pos : Pos} (hm : X.mg x = none) (hv : bootBuiltins x = some u) (r : RelV v u) (hd : ∀ H, Val X.K H v d) (hg : Gl X x := by rfl) (hn : x ≠ "__name__" := by decide) (hdb : (x == ("__debug__" : Str)) = false := by decide) :
    PEA X W (.Name x pos) (tC v) (aC d) := ⟨pe_bltn hg hm hv r hn hdb, sim_c hd⟩
/-- a two-place operation on values -/
abbrev A2 := D → D → Ah → (D → Ah → Prop) → Prop
def Sim2 (K : Fg) (r : R2) (ar : A2) : Prop := ∀ (H : Hp) (A : Ah) (v w : V) (d e : D) (q : D → Ah → Prop) (Q : VK), RelA K H A → Val K H v d → Val K H w e → ar d e A q →
  (∀ H' z f A', Nxt K H H' → RelA K H' A' → Val K H' z f → q f A' → Q z H') → r v w H Q
def aOp (r : A2) (a b : AE) : AE := fun Γ A q x => a Γ A (fun d A1 => b Γ A1 (fun e A2 => r d e A2 q) x) x
theorem sim_op {K : Fg} {r : R2} {ar : A2} {ta tb : TE} {aa ab : AE} (hr : Sim2 K r ar) (ha : SimE K W ta aa) (hb : SimE K W tb ab) : SimE K W (tOp r ta tb) (aOp ar aa ab) :=
  fun σ H Γ A q x Q R S h k kx => ha σ H Γ A _ x _ R S h (fun H1 v d A1 n1 R1 v1 h1 => hb σ H1 Γ A1 _ x _ R1 (S.mono n1) h1
    (fun H2 w e A2 n2 R2 v2 h2 => hr H2 A2 v w d e q Q R2 (v1.mono n2) v2 h2 fun H3 z f A3 n3 R3 v3 h3 => k H3 z f A3 ((n1.trans n2).trans n3) R3 v3 h3)
    (fun H2 e A2 n2 R2 h2 => kx H2 e A2 (n1.trans n2) R2 h2)) kx
/-- either of two readings -/
def r2or (r r' : R2) : R2 := fun x y H Q => r x y H Q ∨ r' x y H Q
theorem opR_or {f : Value → Value → Sem Value} {r r' : R2} (h : OpR X f r) (h' : OpR X f r') : OpR X f (r2or r r') := by
  intro pins s σ H x y v u Q I rx ry q
  rcases q with q | q
  · exact h pins s σ H x y v u Q I rx ry q
  · exact h' pins s σ H x y v u Q I rx ry q
theorem ixR_or {r r' : R2} (h : IxR X r) (h' : IxR X r') : IxR X (r2or r r') := by
  intro a b pins s σ H x y v u Q I rx ry q
  rcases q with q | q
  · exact h a b pins s σ H x y v u Q I rx ry q
  · exact h' a b pins s σ H x y v u Q I rx ry q
end
end GA

namespace GA
open PySem PySem.Spec PyProof.Rows L2 GV TL
abbrev big : Nat := 16777216
theorem big_eq : sizeLine = big := sizeLine_eq
section
variable {K : Fg} {H : Hp} {A : Ah}
theorem RelA.none {p : Addr} (R : RelA K H A) (h : H p = none) : A p = none := by
  cases e : A p with
  | none => rfl
  | some c =>
    obtain ⟨o, h1, _⟩ := R p c e
    rw [h] at h1; cases h1
theorem Nxt.new {p : Addr} {o : HO} (h : H p = none) : Nxt K H (upd H p o) := by
  refine ⟨fun a xs hs => ?_, fun a ob u hs => by rw [upd_ne (ne_of_none hs h)]; exact hs⟩
  rcases hs with hs | hs
  · refine .inl ?_
    rcases hs with hs | ⟨ob, hs⟩
    · exact .inl (by rw [upd_ne (ne_of_none hs h)]; exact hs)
    · exact .inr ⟨ob, by rw [upd_ne (ne_of_none hs h)]; exact hs⟩
  · exact .inr hs
/-- an object that is no tuple is changed -/
def NoTup (o : HO) : Prop := (∀ xs, o ≠ .tup xs) ∧ ∀ ob u, o ≠ .frz ob u
theorem Nxt.set {p : Addr} {o o' : HO} (h : H p = some o) (hn : NoTup o) : Nxt K H (upd H p o') := by
  refine ⟨fun a xs hs => ?_, fun a ob u hs => ?_⟩
  rotate_left
  · have : a ≠ p := fun e => by subst e; rw [h] at hs; exact hn.2 _ _ (Option.some.inj hs)
    rw [upd_ne this]; exact hs
  rcases hs with hs | hs
  · refine .inl ?_
    rcases hs with hs | ⟨ob, hs⟩
    · have : a ≠ p := fun e => by subst e; rw [h] at hs; exact hn.1 _ (Option.some.inj hs)
      exact .inl (by rw [upd_ne this]; exact hs)
    · have : a ≠ p := fun e => by subst e; rw [h] at hs; exact hn.2 _ _ (Option.some.inj hs)
      exact .inr ⟨ob, by rw [upd_ne this]; exact hs⟩
  · exact .inr hs
theorem noTup_lst {xs : List V} : NoTup (.lst xs) := ⟨fun _ e => (nomatch e), fun _ _ e => (nomatch e)⟩
theorem noTup_dK {xs : List (Key × V)} : NoTup (.dK xs) := ⟨fun _ e => (nomatch e), fun _ _ e => (nomatch e)⟩
theorem noTup_dT {xs : List (List Key × V)} : NoTup (.dT xs) := ⟨fun _ e => (nomatch e), fun _ _ e => (nomatch e)⟩
/-- an object that A does not know -/
theorem RelA.ext (R : RelA K H A) {p : Addr} {o : HO} (h : H p = .none) : RelA K (upd H p o) A := fun a c e => by
  obtain ⟨o', h1, h2⟩ := R a c e
  exact ⟨o', by rw [upd_ne (ne_of_none h1 h)]; exact h1, h2.mono (.new h)⟩
theorem RelA.new (R : RelA K H A) {p : Addr} {o : HO} {c : Cell} (h : H p = .none) (hc : CellOk K H c o) : RelA K (upd H p o) (updA A p c) := fun a c' e => by
  by_cases hp : a = p
  · subst hp
    rw [updA_same] at e
    cases e
    exact ⟨o, upd_same, hc.mono (.new h)⟩
  · rw [updA_ne hp] at e
    exact R.ext h a c' e
theorem RelA.set (R : RelA K H A) {p : Addr} {o o' : HO} {c : Cell} (h : H p = some o) (hn : NoTup o) (hc : CellOk K H c o') : RelA K (upd H p o') (updA A p c) := fun a c' e => by
  have n : Nxt K H (upd H p o') := .set h hn
  by_cases hp : a = p
  · subst hp
    rw [updA_same] at e
    cases e
    exact ⟨o', upd_same, hc.mono n⟩
  · rw [updA_ne hp] at e
    obtain ⟨o2, h1, h2⟩ := R a c' e
    exact ⟨o2, by rw [upd_ne hp]; exact h1, h2.mono n⟩
/-- less is known -/
theorem RelA.less {A' : Ah} (R : RelA K H A) (h : ∀ a c, A' a = some c → A a = some c) : RelA K H A' := fun a c e => R a c (h a c e)
theorem RelA.lst {a : Addr} {ds : List D} (R : RelA K H A) (h : A a = some (.lst ds)) : ∃ vs, H a = some (.lst vs) ∧ Vls K H vs ds := by
  obtain ⟨o, h1, h2⟩ := R a _ h
  cases h2 with
  | lst hv => exact ⟨_, h1, hv⟩
end
/-! ### + -/
def onL (A : Ah) (a : Addr) (k : List D → Prop) : Prop := ∃ xs, A a = some (.lst xs) ∧ k xs
/-- .. or a list that nothing writes to -/
def onS (A : Ah) (d : D) (k : List D → Prop) : Prop := match d with
  | .ref a => onL A a k
  | .fl xs => k xs
  | _ => False
theorem onS_of {K : Fg} {H : Hp} {A : Ah} {v : V} {d : D} {k : List D → Prop} (R : RelA K H A) (hv : Val K H v d) (h : onS A d k) : ∃ xs a vs, k xs ∧ v = .ref a ∧ Rd H a (.lst vs) ∧ Vls K H vs xs := by
  cases d with
  | ref a =>
    obtain ⟨xs, e, h⟩ := h
    obtain ⟨vs, h1, r⟩ := R.lst e
    cases hv
    exact ⟨xs, _, vs, h, rfl, .inl h1, r⟩
  | fl xs =>
    obtain ⟨a, vs, rfl, h1, r, _⟩ := hv.inv_fl
    exact ⟨xs, a, vs, h, rfl, h1, r⟩
  | _ => exact h.elim
theorem onL_of {A : Ah} {a : Addr} {k : List D → Prop} (h : onL A a k) : ∃ xs, A a = some (.lst xs) ∧ k xs := h
/-- two ways by a truth value -/
def bsel (b : Bool) (P Q : Prop) : Prop := (b = true → P) ∧ (b = false → Q)
def newL (A : Ah) (ds : List D) (q : D → Ah → Prop) : Prop := ∀ p, A p = none → q (.ref p) (updA A p (.lst ds))
def aAdd : A2 := fun d e A q => match d, e with
  | .int i, .int j => q (.int (i + j)) A
  | .str a, .str b => a.length + b.length ≤ big ∧ q (.str (a ++ b)) A
  | .tup a, .tup b => a.length + b.length ≤ big ∧ q (.tup (a ++ b)) A
  | .ref a, .ref b => onL A a fun xs => onL A b fun ys => xs.length + ys.length ≤ big ∧ newL A (xs ++ ys) q
  | .ref a, .fl ys => onL A a fun xs => xs.length + ys.length ≤ big ∧ newL A (xs ++ ys) q
  | .fl xs, .ref b => onL A b fun ys => xs.length + ys.length ≤ big ∧ newL A (xs ++ ys) q
  | .fl xs, .fl ys => xs.length + ys.length ≤ big ∧ newL A (xs ++ ys) q
  | _, _ => False
/-- two lists, each locked or not -/
def rCatF : R2 := fun x y H Q => ∃ l b xs zs, x = .ref l ∧ y = .ref b ∧ Rd H l (.lst xs) ∧ Rd H b (.lst zs) ∧ xs.length + zs.length ≤ sizeLine ∧ ∀ p, H p = none → Q (.ref p) (upd H p (.lst (xs ++ zs)))
section
variable {X : Cx}
theorem op_catF : OpR X (binaryOp .Add) rCatF := by
  intro pins s σ H x y v u Q I rx ry h
  obtain ⟨l, b, xs, zs, rfl, rfl, hH, hB, hz, q⟩ := h
  cases rx
  cases ry
  obtain ⟨z, its, n, r, e⟩ := hH.ok I.hok
  obtain ⟨z2, its2, n2, r2, e2⟩ := hB.ok I.hok
  have hl := r.length
  have hl2 := r2.length
  refine PySem.P.add_list e e2 ?_ (by rw [List.size_toArray, List.size_toArray]; omega)
  have ea : its.toArray ++ its2.toArray = (its ++ its2).toArray := by simp
  rw [ea]
  exact ⟨.ref _, _, I.lnew (t' := s.toks) (r.append r2) (by rw [List.length_append]; omega), rfl, q _ I.fresh⟩
theorem op_addU : OpR X (binaryOp .Add) (r2or (rI0 fun i j => .int (i + j)) (r2or (fun x y H Q => ∃ i j, x = .str i ∧ y = .str j ∧ i.length + j.length ≤ sizeLine ∧ Q (.str (i ++ j)) H) (r2or (rCatA X.K) rCatF))) :=
  opR_or op_add (opR_or op_add_str (opR_or op_catA op_catF))
end
theorem sim_add {K : Fg} : Sim2 K (r2or (rI0 fun i j => .int (i + j)) (r2or (fun x y H Q => ∃ i j, x = .str i ∧ y = .str j ∧ i.length + j.length ≤ sizeLine ∧ Q (.str (i ++ j)) H) (r2or (rCatA K) rCatF))) aAdd := by
  intro H A v w d e q Q R hv hw h k
  unfold aAdd at h
  split at h
  · rename_i i j
    cases hv; cases hw
    exact .inl ⟨i, j, rfl, rfl, k H _ _ A .rfl R (.int _) h⟩
  · rename_i a b
    obtain ⟨x, rfl, rfl⟩ := hv.inv_str
    obtain ⟨y, rfl, rfl⟩ := hw.inv_str
    refine .inr (.inl ⟨x, y, rfl, rfl, ?_, k H _ _ A .rfl R (.strOf (tl_append x y)) h.2⟩)
    rw [big_eq, len_tl, len_tl]; exact h.1
  · rename_i a b
    obtain ⟨p, vs, rfl, hp, hvs⟩ := hv.inv_tup
    obtain ⟨p', ws, rfl, hp', hws⟩ := hw.inv_tup
    refine .inr (.inr (.inl ⟨p, p', vs, ws, rfl, rfl, hp, hp', ?_, ?_, ?_, ?_⟩))
    · rw [big_eq, hvs.length, hws.length]; exact h.1
    · rintro rfl
      cases hvs
      exact k H _ _ A .rfl R hw h.2
    · rintro _ rfl
      cases hws
      rw [List.append_nil] at h
      exact k H _ _ A .rfl R hv h.2
    · intro _ _ z hz
      exact k _ _ _ A (.new hz) (R.ext hz) (.tup (SqT.of upd_same) ((hvs.append hws).mono (.new hz))) h.2
  · rename_i a b
    obtain ⟨xs, ha, h⟩ := onL_of h
    obtain ⟨ys, hb, h, h'⟩ := onL_of h
    obtain ⟨vs, h1, r1⟩ := R.lst ha
    obtain ⟨ws, h2, r2⟩ := R.lst hb
    cases hv; cases hw
    refine .inr (.inr (.inr ⟨a, b, vs, ws, rfl, rfl, .inl h1, .inl h2, ?_, fun p hp => ?_⟩))
    · rw [big_eq, r1.length, r2.length]; exact h
    · exact k _ _ _ _ (.new hp) (R.new hp (.lst (r1.append r2))) (.ref p) (h' p (R.none hp))
  · obtain ⟨xs, ha, h⟩ := onL_of h
    obtain ⟨vs, h1, r1⟩ := R.lst ha
    obtain ⟨b, ws, rfl, g2, r2, _⟩ := hw.inv_fl
    cases hv
    have g1 := Rd.of h1
    refine .inr (.inr (.inr ⟨_, _, vs, ws, rfl, rfl, g1, g2, by rw [big_eq, r1.length, r2.length]; exact h.1, fun p hp => ?_⟩))
    exact k _ _ _ _ (.new hp) (R.new hp (.lst (r1.append r2))) (.ref p) (h.2 p (R.none hp))
  · obtain ⟨xs, ha, h⟩ := onL_of h
    obtain ⟨ws, h1, r2⟩ := R.lst ha
    obtain ⟨b, vs, rfl, g1, r1, _⟩ := hv.inv_fl
    cases hw
    have g2 := Rd.of h1
    refine .inr (.inr (.inr ⟨_, _, vs, ws, rfl, rfl, g1, g2, by rw [big_eq, r1.length, r2.length]; exact h.1, fun p hp => ?_⟩))
    exact k _ _ _ _ (.new hp) (R.new hp (.lst (r1.append r2))) (.ref p) (h.2 p (R.none hp))
  · obtain ⟨a, vs, rfl, g1, r1, _⟩ := hv.inv_fl
    obtain ⟨b, ws, rfl, g2, r2, _⟩ := hw.inv_fl
    refine .inr (.inr (.inr ⟨_, _, vs, ws, rfl, rfl, g1, g2, by rw [big_eq, r1.length, r2.length]; exact h.1, fun p hp => ?_⟩))
    exact k _ _ _ _ (.new hp) (R.new hp (.lst (r1.append r2))) (.ref p) (h.2 p (R.none hp))
  · exact h.elim
/-! ### -, *, //, %, ** -/
def aSub : A2 := fun d e A q => match d, e with
  | .int i, .int j => q (.int (i - j)) A
  | _, _ => False
theorem sim_sub {K : Fg} : Sim2 K (rI0 fun i j => .int (i - j)) aSub := by
  intro H A v w d e q Q R hv hw h k
  unfold aSub at h
  split at h
  · cases hv; cases hw
    exact ⟨_, _, rfl, rfl, k H _ _ A .rfl R (.int _) h⟩
  · exact h.elim
def lim : Nat := 2 ^ 4000
def SmallI (i : Int) : Prop := i.natAbs < lim
theorem small_of {i : Int} {b : Nat} (h : i.natAbs ≤ b) (hb : b < lim) : SmallI i := Nat.lt_of_le_of_lt h hb
def rRepS : R2 := fun x y H Q => ∃ z n, x = .str z ∧ y = .int n ∧ 0 ≤ n ∧ n < 2 ^ 40 ∧ z.length * n.toNat ≤ big ∧ ∀ z', tl z' = (List.replicate n.toNat (tl z)).flatten → Q (.str z') H
theorem foldl_app : ∀ (l : List (Array Nat)) (a : Array Nat), (l.foldl (· ++ ·) a).toList = a.toList ++ (l.map Array.toList).flatten
  | [], a => by simp
  | b :: l, a => by
    rw [List.foldl_cons, foldl_app l (a ++ b)]
    simp
theorem tl_mul {z : Str} {n : Int} (h : 0 ≤ n) : tl (Txt.mul z n) = (List.replicate n.toNat (tl z)).flatten := by
  unfold Txt.mul
  by_cases h1 : n < 1
  · have : n = 0 := by omega
    subst this
    rw [if_pos h1]
    rfl
  · rw [if_neg h1]
    split
    · rename_i h2
      rw [Bool.or_eq_true] at h2
      rcases h2 with h2 | h2
      · have : n = 1 := by simpa using h2
        subst this
        simp
      · have : tl z = [] := List.eq_nil_of_length_eq_zero (by rw [← len_tl]; simpa using h2)
        rw [this]
        simp
    · show ((List.replicate n.toNat z.cps).foldl (· ++ ·) #[]).toList = _
      rw [foldl_app]
      simp
theorem op_repS {X : Cx} : OpR X (binaryOp .Mult) rRepS := by
  intro pins s σ H x y v u Q I rx ry h
  obtain ⟨z, n, rfl, rfl, h0, h1, h2, k⟩ := h
  obtain ⟨t, rfl⟩ := rx
  obtain ⟨t', rfl⟩ := ry
  have hb : (2 : Int) ^ 63 = 9223372036854775808 := by decide
  have hb2 : (2 : Int) ^ 40 = 1099511627776 := by decide
  refine SB.mul ⟨?_, fun g1 g2 => ?_, fun g1 g2 => ?_⟩ fun t'' k' => ⟨.str _, H, I.tok _, ⟨_, rfl⟩, k _ (tl_mul h0)⟩
  · rw [Bool.or_eq_false_iff]
    exact ⟨decide_eq_false (by omega), decide_eq_false (by omega)⟩
  · have hz : (z.length : Int) * n ≤ 16777216 := by
      have e : ((z.length * n.toNat : Nat) : Int) ≤ ((16777216 : Nat) : Int) := Int.ofNat_le.mpr h2
      rw [Int.natCast_mul, Int.toNat_of_nonneg h0] at e
      exact e
    intro hgt
    have hlt : (2 ^ 63 - 1) / n < (z.length : Int) := hgt
    have hp : 0 < n := by omega
    have := (Int.ediv_lt_iff_lt_mul hp).mp hlt
    omega
  · have h2' : z.length * n.toNat ≤ 16777216 := h2
    unfold Builtin.Str.tooLong
    rw [sizeLine_eq]
    exact decide_eq_false (by omega)
def aMul : A2 := fun d e A q => match d, e with
  | .int i, .int j => SmallI i ∧ SmallI j ∧ q (.int (i * j)) A
  | .str a, .int n => 0 ≤ n ∧ n < 2 ^ 40 ∧ a.length * n.toNat ≤ big ∧ q (.str (List.replicate n.toNat a).flatten) A
  | .ref a, .int n => onL A a fun xs => 0 ≤ n ∧ n < 2 ^ 40 ∧ xs.length * n.toNat ≤ big ∧ newL A (List.replicate n.toNat xs).flatten q
  | .tup ds, .int n => ds ≠ [] ∧ 2 ≤ n ∧ n ≤ 1000 ∧ ds.length ≤ 1000 ∧ q (.tup (List.replicate n.toNat ds).flatten) A
  | _, _ => False
theorem small_mul {i j : Int} (h : SmallI i) (h' : SmallI j) : CMulW i j := wide_mul (a := 4000) (b := 4000) h h' (by decide) (by decide) (by decide)
theorem Vls.flat {K : Fg} {H : Hp} {vs : List V} {ds : List D} (h : Vls K H vs ds) : ∀ n : Nat, Vls K H (List.replicate n vs).flatten (List.replicate n ds).flatten
  | 0 => .nil
  | n + 1 => by
    rw [List.replicate_succ, List.replicate_succ, List.flatten_cons, List.flatten_cons]
    exact h.append (Vls.flat h n)
theorem sim_mul {K : Fg} : Sim2 K (r2or (rI CMulW fun i j => .int (i * j)) (r2or rRepS (r2or rRep (rRepT K)))) aMul := by
  intro H A v w d e q Q R hv hw h k
  unfold aMul at h
  split at h
  · cases hv; cases hw
    exact .inl ⟨_, _, rfl, rfl, small_mul h.1 h.2.1, k H _ _ A .rfl R (.int _) h.2.2⟩
  · obtain ⟨x, rfl, rfl⟩ := hv.inv_str
    cases hw
    obtain ⟨h0, h1, h2, h3⟩ := h
    exact .inr (.inl ⟨x, _, rfl, rfl, h0, h1, by rw [len_tl]; exact h2, fun z' hz => k H _ _ A .rfl R (.strOf hz) h3⟩)
  · obtain ⟨xs, ha, h0, h1, h2, h3⟩ := onL_of h
    obtain ⟨vs, e1, r1⟩ := R.lst ha
    cases hv; cases hw
    have hb : (2 : Int) ^ 63 = 9223372036854775808 := by decide
    have hb2 : (2 : Int) ^ 40 = 1099511627776 := by decide
    exact .inr (.inr (.inl ⟨_, _, vs, rfl, rfl, e1, by omega, by omega, by rw [big_eq, r1.length]; exact h2, fun p hp => k _ _ _ _ (.new hp) (R.new hp (.lst (r1.flat _))) (.ref p) (h3 p (R.none hp))⟩))
  · obtain ⟨p, vs, rfl, hp, hvs⟩ := hv.inv_tup
    cases hw
    obtain ⟨h0, h1, h2, h3, h4⟩ := h
    refine .inr (.inr (.inr ⟨p, _, vs, rfl, rfl, hp, ?_, h1, h2, by rw [hvs.length]; exact h3, fun r hr => k _ _ _ _ (.new hr) (R.ext hr) (.tup (SqT.of upd_same) ((hvs.flat _).mono (.new hr))) h4⟩))
    intro z; subst z; cases hvs; exact h0 rfl
  · exact h.elim
def aDiv : A2 := fun d e A q => match d, e with
  | .int i, .int j => 0 < j ∧ SmallI j ∧ q (.int (i / j)) A
  | _, _ => False
theorem sim_div {K : Fg} : Sim2 K (rI CDivW fun i j => .int (i / j)) aDiv := by
  intro H A v w d e q Q R hv hw h k
  unfold aDiv at h
  split at h
  · cases hv; cases hw
    exact ⟨_, _, rfl, rfl, wide_div h.1 (b := 4000) h.2.1 (by decide) (by decide), k H _ _ A .rfl R (.int _) h.2.2⟩
  · exact h.elim
def aMod : A2 := fun d e A q => match d, e with
  | .int i, .int j => 0 < j ∧ q (.int (i % j)) A
  | _, _ => False
theorem sim_mod {K : Fg} : Sim2 K (rI (fun _ j => j ≠ 0) fun i j => .int (i.fmod j)) aMod := by
  intro H A v w d e q Q R hv hw h k
  unfold aMod at h
  split at h
  · rename_i i j
    cases hv; cases hw
    refine ⟨_, _, rfl, rfl, by omega, ?_⟩
    show Q (.int (i.fmod j)) H
    rw [Int.fmod_eq_emod_of_nonneg i (by omega)]
    exact k H _ _ A .rfl R (.int _) h.2
  · exact h.elim
def aPow : A2 := fun d e A q => match d, e with
  | .int i, .int j => (0 ≤ j ∧ j ≤ 100000 ∧ i.natAbs < 2 ^ 64) ∧ q (.int (i ^ j.toNat)) A
  | _, _ => False
theorem sim_pow {K : Fg} : Sim2 K (rI CPow fun i j => .int (i ^ j.toNat)) aPow := by
  intro H A v w d e q Q R hv hw h k
  unfold aPow at h
  split at h
  · cases hv; cases hw
    exact ⟨_, _, rfl, rfl, ⟨h.1.1, by omega, h.1.2.2⟩, k H _ _ A .rfl R (.int _) h.2⟩
  · exact h.elim
/-! ### comparisons -/
def lexL : List Nat → List Nat → Bool
  | _, [] => false
  | [], _ :: _ => true
  | a :: x, b :: y => decide (a < b) || (decide (a = b) && lexL x y)
theorem lexL_eq : ∀ a b : List Nat, lexL a b = decide (a < b)
  | [], [] => by decide
  | _ :: _, [] => by simp [lexL]
  | [], _ :: _ => by simp [lexL]
  | a :: x, b :: y => by
    rw [lexL, lexL_eq x y, Bool.eq_iff_iff]
    simp [List.cons_lt_cons_iff]
def aLt : A2 := fun d e A q => match d, e with
  | .int i, .int j => q (.bl (decide (i < j))) A
  | .str a, .str b => q (.bl (lexL a b)) A
  | _, _ => False
def aLe : A2 := fun d e A q => match d, e with
  | .int i, .int j => q (.bl (decide (i ≤ j))) A
  | .str a, .str b => q (.bl (!lexL b a)) A
  | _, _ => False
def aGt : A2 := fun d e A q => match d, e with
  | .int i, .int j => q (.bl (decide (j < i))) A
  | .str a, .str b => q (.bl (lexL b a)) A
  | _, _ => False
def aGe : A2 := fun d e A q => match d, e with
  | .int i, .int j => q (.bl (decide (j ≤ i))) A
  | .str a, .str b => q (.bl (!lexL a b)) A
  | _, _ => False

section
variable {X : Cx}
theorem op_ltU : OpR X (compareOp .Lt) (r2or (rI0 fun i j => .bl (decide (i < j))) fun x y H Q => ∃ i j, x = .str i ∧ y = .str j ∧ Q (.bl (decide (i.cps.toList < j.cps.toList))) H) := opR_or op_lt op_lt_str
theorem op_leU : OpR X (compareOp .LtE) (r2or (rI0 fun i j => .bl (decide (i ≤ j))) fun x y H Q => ∃ i j, x = .str i ∧ y = .str j ∧ Q (.bl !decide (j.cps.toList < i.cps.toList)) H) := opR_or op_le op_le_str
theorem op_gtU : OpR X (compareOp .Gt) (r2or (rI0 fun i j => .bl (decide (j < i))) fun x y H Q => ∃ i j, x = .str i ∧ y = .str j ∧ Q (.bl (decide (j.cps.toList < i.cps.toList))) H) := opR_or op_gt op_gt_str
theorem op_geU : OpR X (compareOp .GtE) (r2or (rI0 fun i j => .bl (decide (j ≤ i))) fun x y H Q => ∃ i j, x = .str i ∧ y = .str j ∧ Q (.bl !decide (i.cps.toList < j.cps.toList)) H) := opR_or op_ge op_ge_str
end
section
variable {K : Fg}
theorem sim_lt : Sim2 K (r2or (rI0 fun i j => .bl (decide (i < j))) fun x y H Q => ∃ i j, x = .str i ∧ y = .str j ∧ Q (.bl (decide (i.cps.toList < j.cps.toList))) H) aLt := by
  intro H A v w d e q Q R hv hw h k
  unfold aLt at h
  split at h
  · cases hv; cases hw; exact .inl ⟨_, _, rfl, rfl, k H _ _ A .rfl R (.bl _) h⟩
  · obtain ⟨x, rfl, rfl⟩ := hv.inv_str
    obtain ⟨y, rfl, rfl⟩ := hw.inv_str
    rw [lexL_eq] at h
    exact .inr ⟨x, y, rfl, rfl, k H _ _ A .rfl R (.bl _) h⟩
  · exact h.elim
theorem sim_le : Sim2 K (r2or (rI0 fun i j => .bl (decide (i ≤ j))) fun x y H Q => ∃ i j, x = .str i ∧ y = .str j ∧ Q (.bl !decide (j.cps.toList < i.cps.toList)) H) aLe := by
  intro H A v w d e q Q R hv hw h k
  unfold aLe at h
  split at h
  · cases hv; cases hw; exact .inl ⟨_, _, rfl, rfl, k H _ _ A .rfl R (.bl _) h⟩
  · obtain ⟨x, rfl, rfl⟩ := hv.inv_str
    obtain ⟨y, rfl, rfl⟩ := hw.inv_str
    rw [lexL_eq] at h
    exact .inr ⟨x, y, rfl, rfl, k H _ _ A .rfl R (.bl _) h⟩
  · exact h.elim
theorem sim_gt : Sim2 K (r2or (rI0 fun i j => .bl (decide (j < i))) fun x y H Q => ∃ i j, x = .str i ∧ y = .str j ∧ Q (.bl (decide (j.cps.toList < i.cps.toList))) H) aGt := by
  intro H A v w d e q Q R hv hw h k
  unfold aGt at h
  split at h
  · cases hv; cases hw; exact .inl ⟨_, _, rfl, rfl, k H _ _ A .rfl R (.bl _) h⟩
  · obtain ⟨x, rfl, rfl⟩ := hv.inv_str
    obtain ⟨y, rfl, rfl⟩ := hw.inv_str
    rw [lexL_eq] at h
    exact .inr ⟨x, y, rfl, rfl, k H _ _ A .rfl R (.bl _) h⟩
  · exact h.elim
theorem sim_ge : Sim2 K (r2or (rI0 fun i j => .bl (decide (j ≤ i))) fun x y H Q => ∃ i j, x = .str i ∧ y = .str j ∧ Q (.bl !decide (i.cps.toList < j.cps.toList)) H) aGe := by
  intro H A v w d e q Q R hv hw h k
  unfold aGe at h
  split at h
  · cases hv; cases hw; exact .inl ⟨_, _, rfl, rfl, k H _ _ A .rfl R (.bl _) h⟩
  · obtain ⟨x, rfl, rfl⟩ := hv.inv_str
    obtain ⟨y, rfl, rfl⟩ := hw.inv_str
    rw [lexL_eq] at h
    exact .inr ⟨x, y, rfl, rfl, k H _ _ A .rfl R (.bl _) h⟩
  · exact h.elim
end
/-! ### ==, != -/
mutual
def D.py : D → PyData
  | .non => .none
  | .bl b => .bool b
  | .int i => .int i
  | .str cs => .str ⟨cs.toArray⟩
  | .ref _ => .none
  | .ty _ => .none
  | .tup ds => .tuple (D.pys ds)
  | .lof _ => .none
  | .fl ds => .list (D.pys ds)
def D.pys : List D → List PyData
  | [] => []
  | d :: ds => d.py :: D.pys ds
end
mutual
/-- data that == looks through: no reference, signs of Python, at most 60 deep -/
def D.flat : Nat → D → Bool
  | _, .non => true
  | _, .bl _ => true
  | _, .int _ => true
  | _, .str cs => cs.all (· < 0x110000)
  | _, .ref _ => false
  | _, .ty _ => false
  | _, .lof _ => false
  | 0, .fl _ => false
  | n + 1, .fl ds => D.flats n ds
  | 0, .tup _ => false
  | n + 1, .tup ds => D.flats n ds
def D.flats : Nat → List D → Bool
  | _, [] => true
  | n, d :: ds => D.flat n d && D.flats n ds
end
mutual
/-- == of such data -/
def D.eqv : D → D → Bool
  | .non, .non => true
  | .bl a, .bl b => a == b
  | .bl a, .int j => (if a then 1 else 0) == j
  | .int i, .bl b => i == (if b then 1 else 0)
  | .int i, .int j => i == j
  | .str x, .str y => x == y
  | .tup xs, .tup ys => D.eqvs xs ys
  | .fl xs, .fl ys => D.eqvs xs ys
  | _, _ => false
def D.eqvs : List D → List D → Bool
  | [], [] => true
  | x :: xs, y :: ys => D.eqv x y && D.eqvs xs ys
  | _, _ => false
end
mutual
theorem flat_depth : ∀ (n : Nat) (d : D), d.flat n = true → d.py.depth ≤ n ∧ d.py.canLay0 = true
  | _, .non, _ => ⟨Nat.zero_le _, rfl⟩
  | _, .bl _, _ => ⟨Nat.zero_le _, rfl⟩
  | _, .int _, _ => ⟨Nat.zero_le _, rfl⟩
  | n, .str cs, h => ⟨Nat.zero_le _, by
      show PyData.strOk ⟨cs.toArray⟩ = true
      unfold PyData.strOk
      cases n <;> simpa [D.flat] using h⟩
  | n, .ref _, h => by simp [D.flat] at h
  | n, .ty _, h => by simp [D.flat] at h
  | n, .lof _, h => by simp [D.flat] at h
  | 0, .fl _, h => by simp [D.flat] at h
  | n + 1, .fl ds, h => by
    have := flats_depth n ds (by simpa [D.flat] using h)
    exact ⟨by simp only [D.py, PyData.depth]; omega, by simp only [D.py, PyData.canLay0]; exact this.2⟩
  | 0, .tup _, h => by simp [D.flat] at h
  | n + 1, .tup ds, h => by
    have := flats_depth n ds (by simpa [D.flat] using h)
    exact ⟨by simp only [D.py, PyData.depth]; omega, by simp only [D.py, PyData.canLay0]; exact this.2⟩
theorem flats_depth : ∀ (n : Nat) (ds : List D), D.flats n ds = true → PyData.depthAll (D.pys ds) ≤ n ∧ PyData.canLayAll0 (D.pys ds) = true
  | _, [], _ => ⟨Nat.zero_le _, rfl⟩
  | n, d :: ds, h => by
    have h1 : D.flat n d = true ∧ D.flats n ds = true := by simpa [D.flats] using h
    have a := flat_depth n d h1.1
    have b := flats_depth n ds h1.2
    exact ⟨by simp only [D.pys, PyData.depthAll]; omega, by simp only [D.pys, PyData.canLayAll0, a.2, b.2]; rfl⟩
end
mutual
theorem py_eqv : ∀ (n m : Nat) (d e : D), d.flat n = true → e.flat m = true → PyData.eqv d.py e.py = D.eqv d e := by
  intro n m d e hd he
  cases d <;> cases e <;> first
    | rfl
    | (simp [D.flat] at hd; done)
    | (simp [D.flat] at he; done)
    | skip
  · rename_i x y
    simp only [D.py, PyData.eqv, D.eqv]
    rw [Bool.eq_iff_iff]
    simp
  · rename_i xs ys
    simp only [D.py, PyData.eqv, D.eqv]
    cases n with
    | zero => simp [D.flat] at hd
    | succ n => cases m with
      | zero => simp [D.flat] at he
      | succ m => exact pys_eqv n m xs ys (by simpa [D.flat] using hd) (by simpa [D.flat] using he)
  · rename_i xs ys
    simp only [D.py, PyData.eqv, D.eqv]
    cases n with
    | zero => simp [D.flat] at hd
    | succ n => cases m with
      | zero => simp [D.flat] at he
      | succ m => exact pys_eqv n m xs ys (by simpa [D.flat] using hd) (by simpa [D.flat] using he)
theorem pys_eqv : ∀ (n m : Nat) (ds es : List D), D.flats n ds = true → D.flats m es = true → PyData.eqvAll (D.pys ds) (D.pys es) = D.eqvs ds es
  | _, _, [], [], _, _ => rfl
  | _, _, [], _ :: _, _, _ => rfl
  | _, _, _ :: _, [], _, _ => rfl
  | n, m, d :: ds, e :: es, hd, he => by
    have h1 : D.flat n d = true ∧ D.flats n ds = true := by simpa [D.flats] using hd
    have h2 : D.flat m e = true ∧ D.flats m es = true := by simpa [D.flats] using he
    simp only [D.pys, PyData.eqvAll, D.eqvs]
    rw [py_eqv n m d e h1.1 h2.1, pys_eqv n m ds es h1.2 h2.2]
end
mutual
theorem Val.dp {K : Fg} {H : Hp} : ∀ (n : Nat) {d : D} {v : V}, d.flat n = true → Val K H v d → Dp K H v d.py
  | _, .non, _, _, .non => .non
  | _, .bl _, _, _, .bl b => .bl b
  | _, .int _, _, _, .int i => .int i
  | _, .str _, _, _, .str x => by
    show Dp K H (.str x) (.str ⟨(tl x).toArray⟩)
    rw [mk_tl]
    exact .str x
  | n, .ref _, _, h, _ => by simp [D.flat] at h
  | n, .ty _, _, h, _ => by simp [D.flat] at h
  | n, .lof _, _, h, _ => by simp [D.flat] at h
  | 0, .fl _, _, h, _ => by simp [D.flat] at h
  | n + 1, .fl ds, _, h, .fl hs t => .lst (Rd.sq (.inr hs)) (Vls.dp n (by simpa [D.flat] using h) t)
  | 0, .tup _, _, h, _ => by simp [D.flat] at h
  | n + 1, .tup ds, _, h, .tup hs t => .tup hs (Vls.dp n (by simpa [D.flat] using h) t)
theorem Vls.dp {K : Fg} {H : Hp} : ∀ (n : Nat) {ds : List D} {vs : List V}, D.flats n ds = true → Vls K H vs ds → DpAll K H vs (D.pys ds)
  | _, [], _, _, .nil => .nil
  | n, d :: ds, _, h, .cons hv t => by
    have h1 : D.flat n d = true ∧ D.flats n ds = true := by simpa [D.flats] using h
    exact .cons (Val.dp n h1.1 hv) (Vls.dp n h1.2 t)
end
def aEq : A2 := fun d e A q => match d, e with
  | .int i, .int j => q (.bl (decide (i = j))) A
  | .str a, .str b => q (.bl (decide (a = b))) A
  | .bl a, .bl b => q (.bl (a == b)) A
  | d, e => d.flat 60 = true ∧ e.flat 60 = true ∧ q (.bl (D.eqv d e)) A
def aNe : A2 := fun d e A q => match d, e with
  | .int i, .int j => q (.bl (!decide (i = j))) A
  | .str a, .str b => q (.bl (!decide (a = b))) A
  | .bl a, .bl b => q (.bl (!(a == b))) A
  | d, e => d.flat 60 = true ∧ e.flat 60 = true ∧ q (.bl (!D.eqv d e)) A
theorem tl_inj {x y : Str} : (x = y) ↔ (tl x = tl y) := ⟨fun h => by rw [h], ext_tl⟩
section
variable {K : Fg}
theorem sim_eq : Sim2 K (r2or rEq (rEqD K)) aEq := by
  intro H A v w d e q Q R hv hw h k
  unfold aEq at h
  split at h
  · rename_i i j
    cases hv; cases hw
    refine .inl ⟨rfl, ?_⟩
    have : decide (V.int i = V.int j) = decide (i = j) := by rw [Bool.eq_iff_iff]; simp
    rw [this]
    exact k H _ _ A .rfl R (.bl _) h
  · obtain ⟨x, rfl, rfl⟩ := hv.inv_str
    obtain ⟨y, rfl, rfl⟩ := hw.inv_str
    refine .inl ⟨rfl, ?_⟩
    have : decide (V.str x = V.str y) = decide (tl x = tl y) := by rw [Bool.eq_iff_iff]; simp only [decide_eq_true_eq, V.str.injEq]; exact tl_inj
    rw [this]
    exact k H _ _ A .rfl R (.bl _) h
  · rename_i a b
    cases hv; cases hw
    refine .inl ⟨rfl, ?_⟩
    have : decide (V.bl a = V.bl b) = (a == b) := by rw [Bool.eq_iff_iff]; simp
    rw [this]
    exact k H _ _ A .rfl R (.bl _) h
  · obtain ⟨h1, h2, h3⟩ := h
    refine .inr ⟨d.py, e.py, hv.dp 60 h1, hw.dp 60 h2, ?_, ?_, ?_⟩
    · have := flat_depth 60 d h1
      unfold SeqAt.shaped; rw [this.2]; simp; omega
    · have := flat_depth 60 e h2
      unfold SeqAt.shaped; rw [this.2]; simp; omega
    · rw [py_eqv 60 60 d e h1 h2]
      exact k H _ _ A .rfl R (.bl _) h3
theorem sim_ne : Sim2 K (r2or rNe (rNeD K)) aNe := by
  intro H A v w d e q Q R hv hw h k
  unfold aNe at h
  split at h
  · rename_i i j
    cases hv; cases hw
    refine .inl ⟨rfl, ?_⟩
    have : decide (V.int i = V.int j) = decide (i = j) := by rw [Bool.eq_iff_iff]; simp
    rw [this]
    exact k H _ _ A .rfl R (.bl _) h
  · obtain ⟨x, rfl, rfl⟩ := hv.inv_str
    obtain ⟨y, rfl, rfl⟩ := hw.inv_str
    refine .inl ⟨rfl, ?_⟩
    have : decide (V.str x = V.str y) = decide (tl x = tl y) := by rw [Bool.eq_iff_iff]; simp only [decide_eq_true_eq, V.str.injEq]; exact tl_inj
    rw [this]
    exact k H _ _ A .rfl R (.bl _) h
  · rename_i a b
    cases hv; cases hw
    refine .inl ⟨rfl, ?_⟩
    have : decide (V.bl a = V.bl b) = (a == b) := by rw [Bool.eq_iff_iff]; simp
    rw [this]
    exact k H _ _ A .rfl R (.bl _) h
  · obtain ⟨h1, h2, h3⟩ := h
    refine .inr ⟨d.py, e.py, hv.dp 60 h1, hw.dp 60 h2, ?_, ?_, ?_⟩
    · have := flat_depth 60 d h1
      unfold SeqAt.shaped; rw [this.2]; simp; omega
    · have := flat_depth 60 e h2
      unfold SeqAt.shaped; rw [this.2]; simp; omega
    · rw [py_eqv 60 60 d e h1 h2]
      exact k H _ _ A .rfl R (.bl _) h3
end
end GA

namespace GA
open PySem PySem.Spec PyProof.Rows L2 GV TL
/-! ### in -/
def inL (y x : List Nat) : Bool := match y with
  | [c] => decide (c ∈ x)
  | y => (List.range (x.length + 1)).any fun i => pre y (x.drop i)
theorem inL_eq (x y : Str) : (!(Builtin.Str.occurrences x y 0 x.length 1).isEmpty) = inL (tl y) (tl x) := by
  unfold inL
  split
  · rename_i c e
    have : y = ⟨#[c]⟩ := ext_tl e
    rw [this]
    exact PySem.StrLaws.found_one x c
  · rw [Bool.eq_iff_iff, PySem.StrLaws.found_iff]
    simp only [List.any_eq_true, List.mem_range]
    by_cases hy : tl y = []
    · rw [hy]
      constructor
      · rintro ⟨i, h1, h2⟩
        exact ⟨0, by omega, rfl⟩
      · rintro ⟨i, h1, h2⟩
        refine ⟨0, ?_, ?_⟩
        · rw [len_tl y, hy]; simp
        · have : y = ⟨#[]⟩ := ext_tl hy
          subst this
          unfold Builtin.Str.subAt
          simp [Str.length]
    · constructor
      · rintro ⟨i, h1, h2⟩
        refine ⟨i, ?_, (at_iff hy i).mp ⟨h1, h2⟩⟩
        rw [← len_tl]; omega
      · rintro ⟨i, h1, h2⟩
        obtain ⟨h3, h4⟩ := (at_iff hy i).mpr h2
        exact ⟨i, h3, h4⟩
def D.sc : D → Bool
  | .non => true | .bl _ => true | .int _ => true | .str _ => true | _ => false
def inD (x : D) (ds : List D) : Bool := ds.any fun y => D.eqv y x
def valD {κ : Type} [DecidableEq κ] : List (κ × D) → κ → Option D
  | [], _ => none
  | (k', d) :: r, k => if k' = k then some d else valD r k
def keyD : D → Option Key
  | .int i => some (.inl i)
  | .str cs => some (.inr ⟨cs.toArray⟩)
  | _ => none
def keysD : List D → Option (List Key)
  | [] => some []
  | d :: ds => match keyD d, keysD ds with
    | some k, some ks => some (k :: ks)
    | _, _ => none
/-- what the dict at a holds under d (none: not asked rightly) -/
def dget (A : Ah) (a : Addr) (d : D) : Option (Option D) := match A a, d with
  | some (.dic kvs), .tup _ => none
  | some (.dic kvs), d => (keyD d).map fun k => valD kvs k
  | some (.dit kvs), .tup ds => (keysD ds).map fun k => valD kvs k
  | _, _ => none
def aIn : A2 := fun d e A q => match d, e with
  | .str a, .str b => q (.bl (inL a b)) A
  | d, .tup ds => d.sc = true ∧ ds.all D.sc = true ∧ q (.bl (inD d ds)) A
  | d, .ref a => match A a with
    | some (.lst ds) => d.sc = true ∧ ds.all D.sc = true ∧ q (.bl (inD d ds)) A
    | _ => match dget A a d with
      | some o => q (.bl o.isSome) A
      | none => False
  | _, _ => False
def aNotIn : A2 := fun d e A q => aIn d e A fun b A1 => match b with
  | .bl b => q (.bl (!b)) A1
  | _ => False
section
variable {K : Fg} {H : Hp}
theorem Val.flatV {v : V} {d : D} (h : Val K H v d) (hd : d.sc = true) : flatV v = true := by
  cases d <;> first | (cases h; rfl) | cases hd
theorem Vls.flatV {vs : List V} {ds : List D} (h : Vls K H vs ds) (hd : ds.all D.sc = true) : vs.all L2.flatV = true := by
  induction ds generalizing vs with
  | nil => cases h; rfl
  | cons d ds ih => cases h with
    | cons h t =>
      rw [List.all_cons, Bool.and_eq_true] at hd
      rw [List.all_cons, Bool.and_eq_true]
      exact ⟨h.flatV hd.1, ih t hd.2⟩
theorem Val.eqV {v w : V} {d e : D} (h : Val K H v d) (h' : Val K H w e) (hd : d.sc = true) (he : e.sc = true) : eqV v w = D.eqv d e := by
  cases d <;> cases e <;> first | (cases hd; done) | (cases he; done) | (cases h; cases h'; rfl) | skip
  cases h; cases h'
  show (_ == _) = (_ == _)
  rw [Bool.eq_iff_iff]
  simp only [beq_iff_eq]
  exact tl_inj
theorem Vls.inV {v : V} {d : D} (hv : Val K H v d) (hd : d.sc = true) : ∀ {vs : List V} {ds : List D}, Vls K H vs ds → ds.all D.sc = true → inV v vs = inD d ds
  | _, [], .nil, _ => rfl
  | _, e :: ds, .cons h t, hs => by
    rw [List.all_cons, Bool.and_eq_true] at hs
    have ih := Vls.inV hv hd t hs.2
    unfold L2.inV inD at ih ⊢
    rw [List.any_cons, List.any_cons, ih, h.eqV hv hs.1 hd]
end
section
variable {K : Fg}
abbrev rInS : R2 := fun x y H Q => ∃ i j, x = .str i ∧ y = .str j ∧ Q (.bl !(Builtin.Str.occurrences j i 0 j.length 1).isEmpty) H
abbrev rNiS : R2 := fun x y H Q => ∃ i j, x = .str i ∧ y = .str j ∧ Q (.bl !!(Builtin.Str.occurrences j i 0 j.length 1).isEmpty) H
/-- in, without dicts -/
def aInS : A2 := fun d e A q => match d, e with
  | .str a, .str b => q (.bl (inL a b)) A
  | d, .tup ds => d.sc = true ∧ ds.all D.sc = true ∧ q (.bl (inD d ds)) A
  | d, .ref a => onL A a fun ds => d.sc = true ∧ ds.all D.sc = true ∧ q (.bl (inD d ds)) A
  | d, .fl ds => d.sc = true ∧ ds.all D.sc = true ∧ q (.bl (inD d ds)) A
  | _, _ => False
def aNiS : A2 := fun d e A q => match d, e with
  | .str a, .str b => q (.bl (!inL a b)) A
  | d, .tup ds => d.sc = true ∧ ds.all D.sc = true ∧ q (.bl (!inD d ds)) A
  | d, .ref a => onL A a fun ds => d.sc = true ∧ ds.all D.sc = true ∧ q (.bl (!inD d ds)) A
  | d, .fl ds => d.sc = true ∧ ds.all D.sc = true ∧ q (.bl (!inD d ds)) A
  | _, _ => False
theorem sim_in : Sim2 K (r2or rInS (rIn K false)) aInS := by
  intro H A v w d e q Q R hv hw h k
  unfold aInS at h
  split at h
  · obtain ⟨x, rfl, rfl⟩ := hv.inv_str
    obtain ⟨y, rfl, rfl⟩ := hw.inv_str
    refine .inl ⟨x, y, rfl, rfl, ?_⟩
    rw [inL_eq]
    exact k H _ _ A .rfl R (.bl _) h
  · obtain ⟨p, vs, rfl, hp, hvs⟩ := hw.inv_tup
    refine .inr ⟨p, vs, rfl, .inr hp, hv.flatV h.1, hvs.flatV h.2.1, ?_⟩
    rw [if_neg Bool.false_ne_true, Vls.inV hv h.1 hvs h.2.1]
    exact k H _ _ A .rfl R (.bl _) h.2.2
  · obtain ⟨xs, ha, h⟩ := onL_of h
    obtain ⟨vs, h1, r1⟩ := R.lst ha
    cases hw
    refine .inr ⟨_, vs, rfl, .inl (SqL.of h1), hv.flatV h.1, r1.flatV h.2.1, ?_⟩
    rw [if_neg Bool.false_ne_true, Vls.inV hv h.1 r1 h.2.1]
    exact k H _ _ A .rfl R (.bl _) h.2.2
  · obtain ⟨p, vs, rfl, h1, r1, _⟩ := hw.inv_fl
    refine .inr ⟨_, vs, rfl, .inl (Rd.sq h1), hv.flatV h.1, r1.flatV h.2.1, ?_⟩
    rw [if_neg Bool.false_ne_true, Vls.inV hv h.1 r1 h.2.1]
    exact k H _ _ A .rfl R (.bl _) h.2.2
  · exact h.elim
theorem sim_ni : Sim2 K (r2or rNiS (rIn K true)) aNiS := by
  intro H A v w d e q Q R hv hw h k
  unfold aNiS at h
  split at h
  · obtain ⟨x, rfl, rfl⟩ := hv.inv_str
    obtain ⟨y, rfl, rfl⟩ := hw.inv_str
    refine .inl ⟨x, y, rfl, rfl, ?_⟩
    rw [inL_eq]
    exact k H _ _ A .rfl R (.bl _) h
  · obtain ⟨p, vs, rfl, hp, hvs⟩ := hw.inv_tup
    refine .inr ⟨p, vs, rfl, .inr hp, hv.flatV h.1, hvs.flatV h.2.1, ?_⟩
    rw [if_pos rfl, Vls.inV hv h.1 hvs h.2.1]
    exact k H _ _ A .rfl R (.bl _) h.2.2
  · obtain ⟨xs, ha, h⟩ := onL_of h
    obtain ⟨vs, h1, r1⟩ := R.lst ha
    cases hw
    refine .inr ⟨_, vs, rfl, .inl (SqL.of h1), hv.flatV h.1, r1.flatV h.2.1, ?_⟩
    rw [if_pos rfl, Vls.inV hv h.1 r1 h.2.1]
    exact k H _ _ A .rfl R (.bl _) h.2.2
  · obtain ⟨p, vs, rfl, h1, r1, _⟩ := hw.inv_fl
    refine .inr ⟨_, vs, rfl, .inl (Rd.sq h1), hv.flatV h.1, r1.flatV h.2.1, ?_⟩
    rw [if_pos rfl, Vls.inV hv h.1 r1 h.2.1]
    exact k H _ _ A .rfl R (.bl _) h.2.2
  · exact h.elim
def D.isNon : D → Bool
  | .non => true
  | _ => false
def aIs : A2 := fun d e A q => match e with
  | .non => q (.bl d.isNon) A
  | _ => False
def aIsNot : A2 := fun d e A q => match e with
  | .non => q (.bl (!d.isNon)) A
  | _ => False
theorem isNon_eq {H : Hp} {v : V} {d : D} (h : Val K H v d) : decide (v = .non) = d.isNon := by
  cases h <;> first | rfl | (rw [decide_eq_false (by intro z; cases z)]; rfl)
theorem sim_is : Sim2 K (fun x y H Q => y = .non ∧ Q (.bl (decide (x = .non))) H) aIs := by
  intro H A v w d e q Q R hv hw h k
  unfold aIs at h
  split at h
  · cases hw
    refine ⟨rfl, ?_⟩
    rw [isNon_eq hv]
    exact k H _ _ A .rfl R (.bl _) h
  · exact h.elim
theorem sim_isn : Sim2 K (fun x y H Q => y = .non ∧ Q (.bl !decide (x = .non)) H) aIsNot := by
  intro H A v w d e q Q R hv hw h k
  unfold aIsNot at h
  split at h
  · cases hw
    refine ⟨rfl, ?_⟩
    rw [isNon_eq hv]
    exact k H _ _ A .rfl R (.bl _) h
  · exact h.elim
/-! ### subscripts -/
def aIx : A2 := fun d e A q => match d, e with
  | .tup ds, .int i => ∃ f, atI ds i = some f ∧ q f A
  | .str cs, .int i => cs.length ≤ big ∧ ∃ c, atI cs i = some c ∧ q (.str [c]) A
  | .ref a, .int i => onL A a fun ds => ∃ f, atI ds i = some f ∧ q f A
  | .fl ds, .int i => ∃ f, atI ds i = some f ∧ q f A
  | _, _ => False
theorem Vls.atI {H : Hp} {vs : List V} {ds : List D} (h : Vls K H vs ds) {i : Int} {f : D} (e : L2.atI ds i = some f) : ∃ v, L2.atI vs i = some v ∧ Val K H v f := by
  unfold L2.atI at e ⊢
  rw [h.length]
  cases hx : ixN ds.length i with
  | none => rw [hx] at e; cases e
  | some j =>
    rw [hx] at e
    exact h.get e
theorem sim_ix : Sim2 K (rIx K) aIx := by
  intro H A v w d e q Q R hv hw h k
  unfold aIx at h
  split at h
  · obtain ⟨f, e, h⟩ := h
    obtain ⟨p, vs, rfl, hp, hvs⟩ := hv.inv_tup
    cases hw
    obtain ⟨z, e', hz⟩ := hvs.atI e
    exact .inr (.inl ⟨p, vs, _, z, rfl, rfl, hp, e', k H _ _ A .rfl R hz h⟩)
  · obtain ⟨hb, c, e, h⟩ := h
    obtain ⟨x, rfl, rfl⟩ := hv.inv_str
    cases hw
    exact .inr (.inr ⟨x, _, c, rfl, rfl, by rw [big_eq, len_tl]; exact hb, e, k H _ _ A .rfl R (.strOf rfl) h⟩)
  · obtain ⟨xs, ha, f, e, h⟩ := onL_of h
    obtain ⟨vs, h1, r1⟩ := R.lst ha
    cases hv; cases hw
    obtain ⟨z, e', hz⟩ := r1.atI e
    exact .inl ⟨_, vs, _, z, rfl, rfl, SqL.of h1, e', k H _ _ A .rfl R hz h⟩
  · obtain ⟨f, e, h⟩ := h
    obtain ⟨p, vs, rfl, h1, r1, _⟩ := hv.inv_fl
    cases hw
    obtain ⟨z, e', hz⟩ := r1.atI e
    exact .inl ⟨_, vs, _, z, rfl, rfl, Rd.sq h1, e', k H _ _ A .rfl R hz h⟩
  · exact h.elim
end
/-! ### the operators' rules -/
abbrev uAdd (K : Fg) : R2 := r2or (rI0 fun i j => .int (i + j)) (r2or (fun x y H Q => ∃ i j, x = .str i ∧ y = .str j ∧ i.length + j.length ≤ sizeLine ∧ Q (.str (i ++ j)) H) (r2or (rCatA K) rCatF))
abbrev uSub : R2 := rI0 fun i j => .int (i - j)
abbrev uMul (K : Fg) : R2 := r2or (rI CMulW fun i j => .int (i * j)) (r2or rRepS (r2or rRep (rRepT K)))
abbrev uDiv : R2 := rI CDivW fun i j => .int (i / j)
abbrev uMod : R2 := rI (fun _ j => j ≠ 0) fun i j => .int (i.fmod j)
abbrev uPow : R2 := rI CPow fun i j => .int (i ^ j.toNat)
abbrev uLt : R2 := r2or (rI0 fun i j => .bl (decide (i < j))) fun x y H Q => ∃ i j, x = .str i ∧ y = .str j ∧ Q (.bl (decide (i.cps.toList < j.cps.toList))) H
abbrev uLe : R2 := r2or (rI0 fun i j => .bl (decide (i ≤ j))) fun x y H Q => ∃ i j, x = .str i ∧ y = .str j ∧ Q (.bl !decide (j.cps.toList < i.cps.toList)) H
abbrev uGt : R2 := r2or (rI0 fun i j => .bl (decide (j < i))) fun x y H Q => ∃ i j, x = .str i ∧ y = .str j ∧ Q (.bl (decide (j.cps.toList < i.cps.toList))) H
abbrev uGe : R2 := r2or (rI0 fun i j => .bl (decide (j ≤ i))) fun x y H Q => ∃ i j, x = .str i ∧ y = .str j ∧ Q (.bl !decide (i.cps.toList < j.cps.toList)) H
abbrev uEq (K : Fg) : R2 := r2or rEq (rEqD K)
abbrev uNe (K : Fg) : R2 := r2or rNe (rNeD K)
abbrev uIn (K : Fg) : R2 := r2or rInS (rIn K false)
abbrev uNi (K : Fg) : R2 := r2or rNiS (rIn K true)
abbrev uIs : R2 := fun x y H Q => y = .non ∧ Q (.bl (decide (x = .non))) H
abbrev uIsn : R2 := fun x y H Q => y = .non ∧ Q (.bl !decide (x = .non)) H

section
variable {X : Cx} {W : WX} {a b c : Expr} {ta tb tc : TE} {aa ab ac : AE} {pos : Pos}
theorem ga_bin {op : Operator} {r : R2} {ar : A2} (ho : OpR X (binaryOp op) r) (hs : Sim2 X.K r ar) (ha : PEA X W a ta aa) (hb : PEA X W b tb ab) : PEA X W (.BinOp a op b pos) (tOp r ta tb) (aOp ar aa ab) :=
  ⟨pe_op ho ha.pe hb.pe, sim_op hs ha.sim hb.sim⟩
theorem ga_add (ha : PEA X W a ta aa) (hb : PEA X W b tb ab) : PEA X W (.BinOp a .Add b pos) (tOp (uAdd X.K) ta tb) (aOp aAdd aa ab) := ga_bin op_addU sim_add ha hb
theorem ga_sub (ha : PEA X W a ta aa) (hb : PEA X W b tb ab) : PEA X W (.BinOp a .Sub b pos) (tOp uSub ta tb) (aOp aSub aa ab) := ga_bin op_sub sim_sub ha hb
theorem ga_mul (ha : PEA X W a ta aa) (hb : PEA X W b tb ab) : PEA X W (.BinOp a .Mult b pos) (tOp (uMul X.K) ta tb) (aOp aMul aa ab) := ga_bin (opR_or op_mulW (opR_or op_repS (opR_or op_rep op_repT))) sim_mul ha hb
theorem ga_div (ha : PEA X W a ta aa) (hb : PEA X W b tb ab) : PEA X W (.BinOp a .FloorDiv b pos) (tOp uDiv ta tb) (aOp aDiv aa ab) := ga_bin op_fdivW sim_div ha hb
theorem ga_mod (ha : PEA X W a ta aa) (hb : PEA X W b tb ab) : PEA X W (.BinOp a .Mod b pos) (tOp uMod ta tb) (aOp aMod aa ab) := ga_bin op_modN sim_mod ha hb
theorem ga_pow (ha : PEA X W a ta aa) (hb : PEA X W b tb ab) : PEA X W (.BinOp a .Pow b pos) (tOp uPow ta tb) (aOp aPow aa ab) := ga_bin op_pow sim_pow ha hb
/-- one comparison -/
structure CmpA (X : Cx) (op : CmpOp) (r : R2) (ar : A2) : Prop where
  op : OpR X (compareOp op) r
  sim : Sim2 X.K r ar
theorem ca_lt : CmpA X .Lt uLt aLt := ⟨op_ltU, sim_lt⟩
theorem ca_le : CmpA X .LtE uLe aLe := ⟨op_leU, sim_le⟩
theorem ca_gt : CmpA X .Gt uGt aGt := ⟨op_gtU, sim_gt⟩
theorem ca_ge : CmpA X .GtE uGe aGe := ⟨op_geU, sim_ge⟩
theorem ca_eq (hu : X.A.units + 64 < cLine) : CmpA X .Eq (uEq X.K) aEq := ⟨opR_or op_eq (op_eqD hu), sim_eq⟩
theorem ca_ne (hu : X.A.units + 64 < cLine) : CmpA X .NotEq (uNe X.K) aNe := ⟨opR_or op_ne (op_neD hu), sim_ne⟩
theorem ca_in : CmpA X .In (uIn X.K) aInS := ⟨opR_or op_in_str op_in_seq, sim_in⟩
theorem ca_ni : CmpA X .NotIn (uNi X.K) aNiS := ⟨opR_or op_notin_str op_notIn_seq, sim_ni⟩
theorem ca_is : CmpA X .Is uIs aIs := ⟨op_isN, sim_is⟩
theorem ca_isn : CmpA X .IsNot uIsn aIsNot := ⟨op_notN, sim_isn⟩
theorem ga_cmp {op : CmpOp} {r : R2} {ar : A2} (c : CmpA X op r ar) (ha : PEA X W a ta aa) (hb : PEA X W b tb ab) (h1 : behindInMarks op b = false := by first | exact nobehind _ (by decide) (by decide) | rfl) :
    PEA X W (.Compare a [op] [b] pos) (tOp r ta tb) (aOp ar aa ab) := ⟨pe_cmpR c.op ha.pe hb.pe h1, sim_op c.sim ha.sim hb.sim⟩
def aChain (r r' : A2) (a b c : AE) : AE := fun Γ A q x => a Γ A (fun d A1 => b Γ A1 (fun e A2 => r d e A2 fun z A3 => match z with
  | .bl t => bsel t (c Γ A3 (fun f A4 => r' e f A4 q) x) (q (.bl false) A3)
  | _ => False) x) x
theorem ga_chain {op op' : CmpOp} {r r' : R2} {ar ar' : A2} (c1 : CmpA X op r ar) (c2 : CmpA X op' r' ar') (ha : PEA X W a ta aa) (hb : PEA X W b tb ab) (hc : PEA X W c tc ac) (h1 : lastMarks [op, op'] [b, c] = false := by rfl) :
    PEA X W (.Compare a [op, op'] [b, c] pos) (tChain r r' ta tb tc) (aChain ar ar' aa ab ac) where
  pe := pe_chain c1.op c2.op ha.pe hb.pe hc.pe h1
  sim := fun σ H Γ A q x Q R S h k kx => ha.sim σ H Γ A _ x _ R S h (fun H1 v d A1 n1 R1 v1 h1 => hb.sim σ H1 Γ A1 _ x _ R1 (S.mono n1) h1
    (fun H2 w e A2 n2 R2 v2 h2 => c1.sim H2 A2 v w d e _ _ R2 (v1.mono n2) v2 h2 fun H3 z f A3 n3 R3 v3 h3 => by
      cases f with
      | bl b =>
        cases v3
        refine ⟨b, rfl, ?_⟩
        cases b with
        | true =>
          exact hc.sim σ H3 Γ A3 _ x _ R3 (S.mono ((n1.trans n2).trans n3)) (h3.1 rfl) (fun H4 y g A4 n4 R4 v4 h4 => c2.sim H4 A4 w y e g q Q R4 ((v2.mono n3).mono n4) v4 h4
            fun H5 z f A5 n5 R5 v5 h5 => k H5 z f A5 ((((n1.trans n2).trans n3).trans n4).trans n5) R5 v5 h5) fun H4 e A4 n4 R4 h4 => kx H4 e A4 (((n1.trans n2).trans n3).trans n4) R4 h4
        | false => exact k H3 _ _ A3 ((n1.trans n2).trans n3) R3 (.bl false) (h3.2 rfl)
      | _ => exact h3.elim)
    (fun H2 e A2 n2 R2 h2 => kx H2 e A2 (n1.trans n2) R2 h2)) kx
theorem ga_ix (ha : PEA X W a ta aa) (hb : PEA X W b tb ab) (hs : PlainIx b := by exact fun _ _ => rfl) : PEA X W (.Subscript a b pos) (tOp (rIx X.K) ta tb) (aOp aIx aa ab) := ⟨pe_ix ix_seq ha.pe hb.pe hs, sim_op sim_ix ha.sim hb.sim⟩
def aNeg (a : AE) : AE := fun Γ A q x => a Γ A (fun d A1 => match d with
  | .int i => q (.int (-i)) A1
  | _ => False) x
theorem ga_neg (ha : PEA X W a ta aa) : PEA X W (.UnaryOp .USub a pos) (tUn (rU fun i => .int (-i)) ta) (aNeg aa) where
  pe := pe_un un_neg ha.pe
  sim := fun σ H Γ A q x Q R S h k kx => ha.sim σ H Γ A _ x _ R S h (fun H1 v d A1 n1 R1 v1 h1 => by
    cases d with
    | int i => cases v1; exact ⟨i, rfl, k H1 _ _ A1 n1 R1 (.int _) h1⟩
    | _ => exact h1.elim) kx
/-! ### tests -/
def aTest (a : AE) : AT := fun Γ A q x => a Γ A (fun d A1 => match d with
  | .bl b => q b A1
  | _ => False) x
theorem sim_test {K : Fg} {te : TE} {ae : AE} (h : SimE K W te ae) : SimT K W (tB te) (aTest ae) := fun σ H Γ A q x Q R S ht k kx => h σ H Γ A _ x _ R S ht (fun H1 v d A1 n1 R1 v1 h1 => by
  cases d with
  | bl b => cases v1; exact ⟨b, rfl, k H1 b A1 n1 R1 h1⟩
  | _ => exact h1.elim) kx
/-- a test that is an expression giving True or False -/
theorem gt_val {e : Expr} {te : TE} {ae : AE} (h : PEA X W e te ae) (he : ∀ whole, isTrue e X.env whole = (do let v ← whole; standAt e.pos; holding [v] (truthy v)) := by intro _; rfl) : PTA X W e (tB te) (aTest ae) :=
  ⟨pt_val h.pe he, sim_test h.sim⟩
theorem gt_cmp {op : CmpOp} {r : R2} {ar : A2} (c : CmpA X op r ar) (ha : PEA X W a ta aa) (hb : PEA X W b tb ab) (h1 : behindInMarks op b = false := by first | exact nobehind _ (by decide) (by decide) | rfl) :
    PTA X W (.Compare a [op] [b] pos) (tTest (tOp r ta tb)) (aTest (aOp ar aa ab)) := ⟨pt_cmpR c.op ha.pe hb.pe h1, sim_test (sim_op c.sim ha.sim hb.sim)⟩
theorem gt_chain {op op' : CmpOp} {r r' : R2} {ar ar' : A2} (c1 : CmpA X op r ar) (c2 : CmpA X op' r' ar') (ha : PEA X W a ta aa) (hb : PEA X W b tb ab) (hc : PEA X W c tc ac) (h1 : lastMarks [op, op'] [b, c] = false := by rfl) :
    PTA X W (.Compare a [op, op'] [b, c] pos) (tTest (tChain r r' ta tb tc)) (aTest (aChain ar ar' aa ab ac)) := ⟨pt_chain c1.op c2.op ha.pe hb.pe hc.pe h1, sim_test (ga_chain (pos := pos) c1 c2 ha hb hc h1).sim⟩
def aAndT (s t : AT) : AT := fun Γ A q x => s Γ A (fun b A1 => bsel b (t Γ A1 q x) (q false A1)) x
def aOrT (s t : AT) : AT := fun Γ A q x => s Γ A (fun b A1 => bsel b (q true A1) (t Γ A1 q x)) x
def aNotT (s : AT) : AT := fun Γ A q x => s Γ A (fun b A1 => q (!b) A1) x
variable {s t : TT} {as' at' : AT} {rest : List Expr}
theorem gw_and1 (h : PTA X W a s as') : PWA X W (.BoolOp .And [a] pos) s as' := ⟨pw_and1 h.pe, h.sim⟩
theorem gw_or1 (h : PTA X W a s as') : PWA X W (.BoolOp .Or [a] pos) s as' := ⟨pw_or1 h.pe, h.sim⟩
theorem gw_and (h : PTA X W a s as') (h2 : PWA X W (.BoolOp .And (b :: rest) pos) t at') : PWA X W (.BoolOp .And (a :: b :: rest) pos) (tAnd s t) (aAndT as' at') where
  pe := pw_and h.pe h2.pe
  sim := fun σ H Γ A q x Q R S ht k kx => h.sim σ H Γ A _ x _ R S ht (fun H1 c A1 n1 R1 h1 => by
    cases c with
    | true => exact h2.sim σ H1 Γ A1 q x Q R1 (S.mono n1) (h1.1 rfl) (fun H2 b A2 n2 R2 h2 => k H2 b A2 (n1.trans n2) R2 h2) fun H2 e A2 n2 R2 h2 => kx H2 e A2 (n1.trans n2) R2 h2
    | false => exact k H1 false A1 n1 R1 (h1.2 rfl)) kx
theorem gw_or (h : PTA X W a s as') (h2 : PWA X W (.BoolOp .Or (b :: rest) pos) t at') : PWA X W (.BoolOp .Or (a :: b :: rest) pos) (tOr s t) (aOrT as' at') where
  pe := pw_or h.pe h2.pe
  sim := fun σ H Γ A q x Q R S ht k kx => h.sim σ H Γ A _ x _ R S ht (fun H1 c A1 n1 R1 h1 => by
    cases c with
    | true => exact k H1 true A1 n1 R1 (h1.1 rfl)
    | false => exact h2.sim σ H1 Γ A1 q x Q R1 (S.mono n1) (h1.2 rfl) (fun H2 b A2 n2 R2 h2 => k H2 b A2 (n1.trans n2) R2 h2) fun H2 e A2 n2 R2 h2 => kx H2 e A2 (n1.trans n2) R2 h2) kx
theorem gt_bool {e : Expr} (h : PWA X W e s as') : PTA X W e s as' := ⟨h.pe.pt, h.sim⟩
theorem gt_not (h : PTA X W a s as') : PTA X W (.UnaryOp .Not a pos) (tNot s) (aNotT as') where
  pe := pt_not h.pe
  sim := fun σ H Γ A q x Q R S ht k kx => h.sim σ H Γ A _ x _ R S ht (fun H1 c A1 n1 R1 h1 => k H1 _ A1 n1 R1 h1) kx
/-- bool operators as values: all but the last True or False -/
def aAndV (a b : AE) : AE := fun Γ A q x => a Γ A (fun d A1 => match d with
  | .bl t => bsel t (b Γ A1 q x) (q (.bl false) A1)
  | _ => False) x
def aOrV (a b : AE) : AE := fun Γ A q x => a Γ A (fun d A1 => match d with
  | .bl t => bsel t (q (.bl true) A1) (b Γ A1 q x)
  | _ => False) x
def aNotV (a : AE) : AE := fun Γ A q x => a Γ A (fun d A1 => match d with
  | .bl b => q (.bl (!b)) A1
  | _ => False) x
theorem ga_one {op} (h : PEA X W a ta aa) : PEA X W (.BoolOp op [a] pos) ta aa := ⟨pe_one h.pe, h.sim⟩
theorem ga_and (ha : PEA X W a ta aa) (hb : PEA X W (.BoolOp .And (b :: rest) pos) tb ab) : PEA X W (.BoolOp .And (a :: b :: rest) pos) (tAndV ta tb) (aAndV aa ab) where
  pe := pe_and ha.pe hb.pe
  sim := fun σ H Γ A q x Q R S h k kx => ha.sim σ H Γ A _ x _ R S h (fun H1 v d A1 n1 R1 v1 h1 => by
    cases d with
    | bl b =>
      cases v1
      refine ⟨b, rfl, ?_⟩
      cases b with
      | true => exact hb.sim σ H1 Γ A1 q x Q R1 (S.mono n1) (h1.1 rfl) (fun H2 v d A2 n2 R2 v2 h2 => k H2 v d A2 (n1.trans n2) R2 v2 h2) fun H2 e A2 n2 R2 h2 => kx H2 e A2 (n1.trans n2) R2 h2
      | false => exact k H1 _ _ A1 n1 R1 (.bl false) (h1.2 rfl)
    | _ => exact h1.elim) kx
theorem ga_or (ha : PEA X W a ta aa) (hb : PEA X W (.BoolOp .Or (b :: rest) pos) tb ab) : PEA X W (.BoolOp .Or (a :: b :: rest) pos) (tOrV ta tb) (aOrV aa ab) where
  pe := pe_or ha.pe hb.pe
  sim := fun σ H Γ A q x Q R S h k kx => ha.sim σ H Γ A _ x _ R S h (fun H1 v d A1 n1 R1 v1 h1 => by
    cases d with
    | bl b =>
      cases v1
      refine ⟨b, rfl, ?_⟩
      cases b with
      | false => exact hb.sim σ H1 Γ A1 q x Q R1 (S.mono n1) (h1.2 rfl) (fun H2 v d A2 n2 R2 v2 h2 => k H2 v d A2 (n1.trans n2) R2 v2 h2) fun H2 e A2 n2 R2 h2 => kx H2 e A2 (n1.trans n2) R2 h2
      | true => exact k H1 _ _ A1 n1 R1 (.bl true) (h1.1 rfl)
    | _ => exact h1.elim) kx
theorem ga_not (ha : PEA X W a ta aa) : PEA X W (.UnaryOp .Not a pos) (tNotV ta) (aNotV aa) where
  pe := pe_not ha.pe
  sim := fun σ H Γ A q x Q R S h k kx => ha.sim σ H Γ A _ x _ R S h (fun H1 v d A1 n1 R1 v1 h1 => by
    cases d with
    | bl b => cases v1; exact ⟨b, rfl, k H1 _ _ A1 n1 R1 (.bl _) h1⟩
    | _ => exact h1.elim) kx
def aIfE (t : AT) (a b : AE) : AE := fun Γ A q x => t Γ A (fun c A1 => bsel c (a Γ A1 q x) (b Γ A1 q x)) x
theorem ga_if (ht : PTA X W c s as') (ha : PEA X W a ta aa) (hb : PEA X W b tb ab) : PEA X W (.IfExp c a b pos) (tIf s ta tb) (aIfE as' aa ab) where
  pe := pe_ifExp ht.pe ha.pe hb.pe
  sim := fun σ H Γ A q x Q R S h k kx => ht.sim σ H Γ A _ x _ R S h (fun H1 c A1 n1 R1 h1 => by
    cases c with
    | true => exact ha.sim σ H1 Γ A1 q x Q R1 (S.mono n1) (h1.1 rfl) (fun H2 v d A2 n2 R2 v2 h2 => k H2 v d A2 (n1.trans n2) R2 v2 h2) fun H2 e A2 n2 R2 h2 => kx H2 e A2 (n1.trans n2) R2 h2
    | false => exact hb.sim σ H1 Γ A1 q x Q R1 (S.mono n1) (h1.2 rfl) (fun H2 v d A2 n2 R2 v2 h2 => k H2 v d A2 (n1.trans n2) R2 v2 h2) fun H2 e A2 n2 R2 h2 => kx H2 e A2 (n1.trans n2) R2 h2) kx
end
end GA

namespace GA
open PySem PySem.Spec PyProof.Rows L2 GV TL
section
variable {X : Cx} {W : WX} {a b c e o : Expr} {es : List Expr} {ta tb tc te to : TE} {aa ab ac ae ao : AE} {t : TA} {at_ : AA} {pos apos cpos p : Pos}
/-! ### arguments, displays -/
def aNil : AA := fun _ A q _ => q [] A
def aCons (a : AE) (r : AA) : AA := fun Γ A q x => a Γ A (fun d A1 => r Γ A1 (fun ds A2 => q (d :: ds) A2) x) x
theorem gs_nil : PAA X W [] tNil aNil := ⟨pa_nil, fun σ H Γ A q x Q R S h k _ => k H [] [] A .rfl R .nil h⟩
theorem gs_cons (ha : PEA X W e te ae) (hr : PAA X W es t at_) (he : starEach (e :: es) X.env = (false, eval e X.env) :: starEach es X.env := by rfl) : PAA X W (e :: es) (tCons te t) (aCons ae at_) where
  pe := pa_cons ha.pe hr.pe he
  sim := fun σ H Γ A q x Q R S h k kx => ha.sim σ H Γ A _ x _ R S h (fun H1 v d A1 n1 R1 v1 h1 => hr.sim σ H1 Γ A1 _ x _ R1 (S.mono n1) h1
    (fun H2 vs ds A2 n2 R2 v2 h2 => k H2 _ _ A2 (n1.trans n2) R2 (.cons (v1.mono n2) v2) h2) fun H2 e A2 n2 R2 h2 => kx H2 e A2 (n1.trans n2) R2 h2) kx
def aTup (as : AA) : AE := fun Γ A q x => as Γ A (fun ds A1 => ds.length ≤ big ∧ q (.tup ds) A1) x
theorem ga_tup {k0 : Nat} (h : PAA X W es t at_) : PEA X W (.Tuple es k0 pos) (tTup t) (aTup at_) where
  pe := pe_tup h.pe
  sim := fun σ H Γ A q x Q R S hh k kx => h.sim σ H Γ A _ x _ R S hh (fun H1 vs ds A1 n1 R1 v1 h1 =>
    ⟨by rw [big_eq, v1.length]; exact h1.1, fun p hp => k _ _ _ A1 (n1.trans (.new hp)) (R1.ext hp) (.tup (SqT.of upd_same) (v1.mono (.new hp))) h1.2⟩) kx
def aLst (as : AA) : AE := fun Γ A q x => as Γ A (fun ds A1 => ds.length ≤ big ∧ newL A1 ds q) x
theorem ga_lst (h : PAA X W es t at_) : PEA X W (.List es pos) (tLst t) (aLst at_) where
  pe := pe_lst h.pe
  sim := fun σ H Γ A q x Q R S hh k kx => h.sim σ H Γ A _ x _ R S hh (fun H1 vs ds A1 n1 R1 v1 h1 =>
    ⟨by rw [big_eq, v1.length]; exact h1.1, fun p hp => k _ _ _ _ (n1.trans (.new hp)) (R1.new hp (.lst v1)) (.ref p) (h1.2 p (R1.none hp))⟩) kx
/-! ### calls of own defs -/
abbrev ASp := List D → Ah → (D → Ah → Prop) → AX → Prop
/-- a promise over abstract values as a promise of HandS -/
def lift (K : Fg) (sp : ASp) : Sp := fun vs H Q E => ∃ (A : Ah) (ds : List D) (q : D → Ah → Prop) (x : AX), RelA K H A ∧ Vls K H vs ds ∧ sp ds A q x ∧
  (∀ H' v d A', Nxt K H H' → RelA K H' A' → Val K H' v d → q d A' → Q v H') ∧ ∀ H' e A', Nxt K H H' → RelA K H' A' → x e A' → E (exC K e) (some e.d) H'
def aCall (sp : ASp) (as : AA) : AE := fun Γ A q x => as Γ A (fun ds A1 => sp ds A1 q x) x
theorem sim_call {K : Fg} {sp : ASp} (h : SimA K W t at_) : SimE K W (tCallS (lift K sp) (WE W) t) (aCall sp at_) := fun σ H Γ A q x Q R S hh k kx =>
  h σ H Γ A _ x _ R S hh (fun H1 vs ds A1 n1 R1 v1 h1 => ⟨A1, ds, q, x, R1, v1, h1, fun H2 v d A2 n2 R2 v2 h2 => k H2 v d A2 (n1.trans n2) R2 v2 h2, fun H2 e A2 n2 R2 h2 => kx H2 e A2 (n1.trans n2) R2 h2⟩) kx
abbrev FnA (P : Program) (w : World) (K : Fg) (mg : Str → Option Value) (base : Heap) (k : Nat) (f : Addr) (fd : FuncData) (ps : List Str) (sp : ASp) : Prop := FnOk P w K mg base (L2N.CX P w) k f fd ps (lift K sp)
/-- what the text says of a def that is called -/
structure Fn0 (P : Program) (w : World) (K : Fg) (mg : Str → Option Value) (base : Heap) (x : Str) (k : Nat) (sp : ASp) : Prop where
  ex : ∃ (f : Addr) (fd : FuncData) (ps : List Str), FnA P w K mg base k f fd ps sp ∧ mg x = some (.ref f) ∧ PySem.W.keepIn K (.ref f) = true ∧ Binds K fd ps []
abbrev Fnd (X : Cx) (x : Str) (k : Nat) (sp : ASp) : Prop := Fn0 X.prog X.w X.K X.mg X.base x k sp
theorem ga_call {k : Nat} {x : Str} {sp : ASp} (F : Fnd X x k sp) (hr : Room k X.A) (tk : L2N.Takes X W) (h : PAA X W (e :: es) t at_) (hg : Gl X x := by rfl) (hdb : (x == ("__debug__" : Str)) = false := by decide)
    (he : starEach (e :: es) X.env = (false, eval e X.env) :: starEach es X.env := by rfl) (hpl : (backTo pos (starEach es X.env)).any (·.1) = false := by rfl) :
    PEA X W (.Call (.Name x p) (e :: es) [] pos) (tCallS (lift X.K sp) (WE W) t) (aCall sp at_) := by
  obtain ⟨f, fd, ps, F, hm, hk, hb⟩ := F.ex
  exact ⟨pe_callS F hr hg hm hk hb (fun σ => L2N.passAt tk σ) h.pe hdb he hpl, sim_call h.sim⟩
theorem ga_call0 {k : Nat} {x : Str} {sp : ASp} (F : Fnd X x k sp) (hr : Room k X.A) (tk : L2N.Takes X W) (hg : Gl X x := by rfl) (hdb : (x == ("__debug__" : Str)) = false := by decide) :
    PEA X W (.Call (.Name x p) [] [] pos) (tCallS (lift X.K sp) (WE W) tNil) (aCall sp aNil) := by
  obtain ⟨f, fd, ps, F, hm, hk, hb⟩ := F.ex
  refine ⟨⟨fun pins s σ H Q I h => ?_⟩, sim_call gs_nil.sim⟩
  refine wpAny_Call_Name_kw (ld_glob I hg hm ?_ hdb)
  exact PySem.W.callWith_K0 I.kIn hk (run_fnS (us := []) (vs := []) F hr hb (L2N.passAt tk σ) I .nil h)
/-! ### calls of built-ins -/
abbrev A1c := List D → Ah → (D → Ah → Prop) → Prop
def SimC (K : Fg) (r : List V → Hp → VK → Prop) (ar : A1c) : Prop := ∀ (H : Hp) (A : Ah) (vs : List V) (ds : List D) (q : D → Ah → Prop) (Q : VK), RelA K H A → Vls K H vs ds → ar ds A q →
  (∀ H' z f A', Nxt K H H' → RelA K H' A' → Val K H' z f → q f A' → Q z H') → r vs H Q
def aBlt (r : A1c) (as : AA) : AE := fun Γ A q x => as Γ A (fun ds A1 => r ds A1 q) x
theorem sim_blt {K : Fg} {r : List V → Hp → VK → Prop} {ar : A1c} (hr : SimC K r ar) (h : SimA K W t at_) : SimE K W (tCB r t) (aBlt ar at_) := fun σ H Γ A q x Q R S hh k kx =>
  h σ H Γ A _ x _ R S hh (fun H1 vs ds A1 n1 R1 v1 h1 => hr H1 A1 vs ds q Q R1 v1 h1 fun H2 z f A2 n2 R2 v2 h2 => k H2 z f A2 (n1.trans n2) R2 v2 h2) kx
/-- a built-in function | class by its name -/
structure BltA (X : Cx) (u : Value) (r : List V → Hp → VK → Prop) (ar : A1c) : Prop where
  op : CallR X u r
  sim : SimC X.K r ar
theorem ga_blt {x : Str} {id : String} {r : List V → Hp → VK → Prop} {ar : A1c} (B : BltA X (.builtin id) r ar) (hm : X.mg x = none) (h : PAA X W (e :: es) t at_) (hv : bootBuiltins x = some (.builtin id) := by decide +kernel) (hg : Gl X x := by rfl)
    (hn : x ≠ "__name__" := by decide) (hdb : (x == ("__debug__" : Str)) = false := by decide)
    (he : starEach (e :: es) X.env = (false, eval e X.env) :: starEach es X.env := by rfl) (hpl : (backTo pos (starEach es X.env)).any (·.1) = false := by rfl) : PEA X W (.Call (.Name x p) (e :: es) [] pos) (tCB r t) (aBlt ar at_) :=
  ⟨pe_callB B.op hg hm hv h.pe hn hdb he hpl, sim_blt B.sim h.sim⟩
theorem ga_bty {x : Str} {T : String} {r : List V → Hp → VK → Prop} {ar : A1c} (B : BltA X (.type T) r ar) (hm : X.mg x = none) (h : PAA X W (e :: es) t at_) (hv : bootBuiltins x = some (.type T) := by decide +kernel) (hg : Gl X x := by rfl)
    (hn : x ≠ "__name__" := by decide) (hdb : (x == ("__debug__" : Str)) = false := by decide)
    (he : starEach (e :: es) X.env = (false, eval e X.env) :: starEach es X.env := by rfl) (hpl : (backTo pos (starEach es X.env)).any (·.1) = false := by rfl) : PEA X W (.Call (.Name x p) (e :: es) [] pos) (tCB r t) (aBlt ar at_) :=
  ⟨pe_callTy B.op hg hm hv h.pe hn hdb he hpl, sim_blt B.sim h.sim⟩
def rcor (r r' : List V → Hp → VK → Prop) : List V → Hp → VK → Prop := fun xs H Q => r xs H Q ∨ r' xs H Q
theorem callR_or {f : Value} {r r' : List V → Hp → VK → Prop} (h : CallR X f r) (h' : CallR X f r') : CallR X f (rcor r r') := by
  intro pins s σ H xs us Q I rv q
  rcases q with q | q
  · exact h pins s σ H xs us Q I rv q
  · exact h' pins s σ H xs us Q I rv q
end
section
variable {K : Fg}
def aLen : A1c := fun ds A q => match ds with
  | [.str cs] => cs.length ≤ big ∧ q (.int cs.length) A
  | [.tup xs] => q (.int xs.length) A
  | [.ref a] => onL A a fun xs => q (.int xs.length) A
  | [.fl xs] => q (.int xs.length) A
  | _ => False
theorem Vls.one {H : Hp} {vs : List V} {d : D} (h : Vls K H vs [d]) : ∃ v, vs = [v] ∧ Val K H v d := by
  cases h with
  | cons h t => cases t; exact ⟨_, rfl, h⟩
theorem Vls.two {H : Hp} {vs : List V} {d e : D} (h : Vls K H vs [d, e]) : ∃ v w, vs = [v, w] ∧ Val K H v d ∧ Val K H w e := by
  cases h with
  | cons h t => cases t with
    | cons h' t => cases t; exact ⟨_, _, rfl, h, h'⟩
theorem sim_len : SimC K (fun xs H Q => ∃ x n, xs = [x] ∧ LenV K x H n ∧ Q (.int n) H) aLen := by
  intro H A vs ds q Q R hv h k
  unfold aLen at h
  split at h
  · obtain ⟨v, rfl, h1⟩ := hv.one
    obtain ⟨x, rfl, rfl⟩ := h1.inv_str
    refine ⟨_, x.length, rfl, ⟨by rw [big_eq, len_tl]; exact h.1, rfl⟩, ?_⟩
    have := k H _ _ A .rfl R (.int _) h.2
    rw [len_tl]; exact this
  · obtain ⟨v, rfl, h1⟩ := hv.one
    obtain ⟨p, vs, rfl, hp, hvs⟩ := h1.inv_tup
    refine ⟨_, vs.length, rfl, .inr ⟨vs, hp, rfl⟩, ?_⟩
    have := k H _ _ A .rfl R (.int _) h
    rw [hvs.length]; exact this
  · obtain ⟨v, rfl, h1⟩ := hv.one
    obtain ⟨xs, ha, h⟩ := onL_of h
    obtain ⟨ws, e1, r1⟩ := R.lst ha
    cases h1
    refine ⟨_, ws.length, rfl, .inl ⟨ws, SqL.of e1, rfl⟩, ?_⟩
    have := k H _ _ A .rfl R (.int _) h
    rw [r1.length]; exact this
  · obtain ⟨v, rfl, h1⟩ := hv.one
    obtain ⟨p, vs, rfl, hp, hvs, _⟩ := h1.inv_fl
    refine ⟨_, vs.length, rfl, .inl ⟨vs, Rd.sq hp, rfl⟩, ?_⟩
    have := k H _ _ A .rfl R (.int _) h
    rw [hvs.length]; exact this
  · exact h.elim
def aInt : A1c := fun ds A q => match ds with
  | [.int i] => q (.int i) A
  | [.bl b] => q (.int (if b = true then 1 else 0)) A
  | _ => False
theorem sim_int : SimC K (fun xs H Q => (∃ i, xs = [V.int i] ∧ Q (V.int i) H) ∨ ∃ k, xs = [V.bl k] ∧ Q (V.int (if k = true then 1 else 0)) H) aInt := by
  intro H A vs ds q Q R hv h k
  unfold aInt at h
  split at h
  · obtain ⟨v, rfl, h1⟩ := hv.one
    cases h1
    exact .inl ⟨_, rfl, k H _ _ A .rfl R (.int _) h⟩
  · obtain ⟨v, rfl, h1⟩ := hv.one
    cases h1
    exact .inr ⟨_, rfl, k H _ _ A .rfl R (.int _) h⟩
  · exact h.elim
def aAbs : A1c := fun ds A q => match ds with
  | [.int i] => q (.int (if i < 0 then -i else i)) A
  | _ => False
theorem sim_abs : SimC K (fun xs H Q => ∃ i, xs = [V.int i] ∧ Q (V.int (if i < 0 then -i else i)) H) aAbs := by
  intro H A vs ds q Q R hv h k
  unfold aAbs at h
  split at h
  · obtain ⟨v, rfl, h1⟩ := hv.one
    cases h1
    exact ⟨_, rfl, k H _ _ A .rfl R (.int _) h⟩
  · exact h.elim
def decN (i : Int) : List Nat := tl (Str.ofString (toString i))
def aStr : A1c := fun ds A q => match ds with
  | [.int i] => i.natAbs.log2 < 1920 ∧ q (.str (decN i)) A
  | _ => False
theorem sim_str : SimC K (fun xs H Q => ∃ i, xs = [V.int i] ∧ i.natAbs.log2 < 1920 ∧ Q (V.str (Str.ofString (toString i))) H) aStr := by
  intro H A vs ds q Q R hv h k
  unfold aStr at h
  split at h
  · obtain ⟨v, rfl, h1⟩ := hv.one
    cases h1
    exact ⟨_, rfl, h.1, k H _ _ A .rfl R (.strOf rfl) h.2⟩
  · exact h.elim
def aMin2 : A1c := fun ds A q => match ds with
  | [.int i, .int j] => q (.int (if j < i then j else i)) A
  | _ => False
theorem sim_min2 : SimC K (fun xs H Q => ∃ i j, xs = [V.int i, V.int j] ∧ Q (V.int (if j < i then j else i)) H) aMin2 := by
  intro H A vs ds q Q R hv h k
  unfold aMin2 at h
  split at h
  · obtain ⟨v, w, rfl, h1, h2⟩ := hv.two
    cases h1; cases h2
    exact ⟨_, _, rfl, k H _ _ A .rfl R (.int _) h⟩
  · exact h.elim
def aMax2 : A1c := fun ds A q => match ds with
  | [.int i, .int j] => q (.int (if j > i then j else i)) A
  | _ => False
theorem sim_max2 : SimC K (fun xs H Q => ∃ i j, xs = [V.int i, V.int j] ∧ Q (V.int (if j > i then j else i)) H) aMax2 := by
  intro H A vs ds q Q R hv h k
  unfold aMax2 at h
  split at h
  · obtain ⟨v, w, rfl, h1, h2⟩ := hv.two
    cases h1; cases h2
    exact ⟨_, _, rfl, k H _ _ A .rfl R (.int _) h⟩
  · exact h.elim
/-- list(xs) -/
def aList : A1c := fun ds A q => match ds with
  | [.tup xs] => newL A xs q
  | [.lof xs] => newL A xs q
  | [.ref a] => onL A a fun xs => newL A xs q
  | [.fl xs] => newL A xs q
  | _ => False
theorem sim_list : SimC K (fun xs H Q => ∃ p ys, xs = [V.ref p] ∧ (SqL K H p ys ∨ SqT K H p ys) ∧ ∀ (l : Addr), H l = none → Q (V.ref l) (upd H l (HO.lst ys))) aList := by
  intro H A vs ds q Q R hv h k
  unfold aList at h
  split at h
  · obtain ⟨v, rfl, h1⟩ := hv.one
    obtain ⟨p, vs, rfl, hp, hvs⟩ := h1.inv_tup
    exact ⟨p, vs, rfl, .inr hp, fun l hl => k _ _ _ _ (.new hl) (R.new hl (.lst hvs)) (.ref l) (h l (R.none hl))⟩
  · obtain ⟨v, rfl, h1⟩ := hv.one
    obtain ⟨p, vs, rfl, hp, hvs⟩ := h1.inv_lof
    exact ⟨p, vs, rfl, .inl hp.seq, fun l hl => k _ _ _ _ (.new hl) (R.new hl (.lst hvs)) (.ref l) (h l (R.none hl))⟩
  · obtain ⟨v, rfl, h1⟩ := hv.one
    obtain ⟨xs, ha, h⟩ := onL_of h
    obtain ⟨ws, e1, r1⟩ := R.lst ha
    cases h1
    exact ⟨_, ws, rfl, .inl (SqL.of e1), fun l hl => k _ _ _ _ (.new hl) (R.new hl (.lst r1)) (.ref l) (h l (R.none hl))⟩
  · obtain ⟨v, rfl, h1⟩ := hv.one
    obtain ⟨p, vs, rfl, hp, hvs, _⟩ := h1.inv_fl
    exact ⟨p, vs, rfl, .inl (Rd.sq hp), fun l hl => k _ _ _ _ (.new hl) (R.new hl (.lst hvs)) (.ref l) (h l (R.none hl))⟩
  · exact h.elim
def aTuple : A1c := fun ds A q => match ds with
  | [.tup xs] => q (.tup xs) A
  | [.ref a] => onL A a fun xs => q (.tup xs) A
  | [.fl xs] => q (.tup xs) A
  | _ => False
theorem sim_tuple : SimC K (fun xs H Q => ∃ p ys, xs = [V.ref p] ∧ ((SqL K H p ys ∧ ∀ (l : Addr), H l = none → Q (V.ref l) (upd H l (HO.tup ys))) ∨ SqT K H p ys ∧ Q (V.ref p) H)) aTuple := by
  intro H A vs ds q Q R hv h k
  unfold aTuple at h
  split at h
  · obtain ⟨v, rfl, h1⟩ := hv.one
    obtain ⟨p, vs, rfl, hp, hvs⟩ := h1.inv_tup
    exact ⟨p, vs, rfl, .inr ⟨hp, k H _ _ A .rfl R (.tup hp hvs) h⟩⟩
  · obtain ⟨v, rfl, h1⟩ := hv.one
    obtain ⟨xs, ha, h⟩ := onL_of h
    obtain ⟨ws, e1, r1⟩ := R.lst ha
    cases h1
    exact ⟨_, ws, rfl, .inl ⟨SqL.of e1, fun l hl => k _ _ _ A (.new hl) (R.ext hl) (.tup (SqT.of upd_same) (r1.mono (.new hl))) h⟩⟩
  · obtain ⟨v, rfl, h1⟩ := hv.one
    obtain ⟨p, vs, rfl, hp, hvs, _⟩ := h1.inv_fl
    exact ⟨_, vs, rfl, .inl ⟨Rd.sq hp, fun l hl => k _ _ _ A (.new hl) (R.ext hl) (.tup (SqT.of upd_same) (hvs.mono (.new hl))) h⟩⟩
  · exact h.elim
/-- isinstance against a built-in class -/
def tyn (A : Ah) : D → Option String
  | .non => some "NoneType"
  | .bl _ => some "bool"
  | .int _ => some "int"
  | .str _ => some "str"
  | .tup _ => some "tuple"
  | .ref a => match A a with
    | some (.lst _) => some "list"
    | some (.dic _) => some "dict"
    | some (.dit _) => some "dict"
    | _ => none
  | .ty _ => none
  | .lof _ => none
  | .fl _ => some "list"
def tys : List String := ["NoneType", "bool", "int", "str", "tuple", "list", "dict"]
def isB (a b : String) : Bool := a == b || (a == "bool" && b == "int")
theorem isB_ok : ∀ a ∈ tys, ∀ b ∈ tys, kitB a b = some (isB a b) := by
  have h : (tys.all fun a => tys.all fun b => decide (kitB a b = some (isB a b))) = true := by decide +kernel
  intro a ha b hb
  exact of_decide_eq_true (List.all_eq_true.mp (List.all_eq_true.mp h a ha) b hb)
theorem tyn_mem {A : Ah} {d : D} {s : String} (h : tyn A d = some s) : s ∈ tys := by
  unfold tyn at h
  cases d with
  | ref a =>
    dsimp only at h
    split at h <;> first | (cases h; decide) | cases h
  | _ => first | (cases h; decide) | cases h
theorem tyn_ok {H : Hp} {A : Ah} {v : V} {d : D} {s : String} (R : RelA K H A) (hv : Val K H v d) (h : tyn A d = some s) : TyX K H v (.type s) := by
  unfold tyn at h
  cases d with
  | non => cases h; cases hv; exact .base .non
  | bl b => cases h; cases hv; exact .base (.bl b)
  | int i => cases h; cases hv; exact .base (.int i)
  | str cs => cases h; cases hv; exact .base (.str _)
  | ty n => cases h
  | lof ds =>
    cases h
  | fl ds =>
    cases h
    obtain ⟨a, vs, rfl, _, _, o, e⟩ := hv.inv_fl
    exact .base (.frz e)
  | tup ds =>
    cases h
    obtain ⟨a, vs, rfl, hp, _⟩ := hv.inv_tup
    rcases hp with hp | ⟨o, its, n, e, c, _⟩
    · rcases hp with hp | ⟨o, hp⟩
      · exact .base (.tup hp)
      · exact .fTuple hp
    · exact .kTuple e c
  | ref a =>
    cases hv
    dsimp only at h
    split at h
    · rename_i ds e
      cases h
      obtain ⟨vs, e1, _⟩ := R.lst e
      exact .base (.lst e1)
    · rename_i kvs e
      cases h
      obtain ⟨o, e1, e2⟩ := R _ _ e
      cases e2
      exact .base (.dK e1)
    · rename_i kvs e
      cases h
      obtain ⟨o, e1, e2⟩ := R _ _ e
      cases e2
      exact .base (.dT e1)
    · cases h
def aIsi : A1c := fun ds A q => match ds with
  | [d, .ty b] => ∃ s, tyn A d = some s ∧ b ∈ tys ∧ q (.bl (isB s b)) A
  | _ => False
theorem sim_isi : SimC K (rIsi K) aIsi := by
  intro H A vs ds q Q R hv h k
  unfold aIsi at h
  split at h
  · obtain ⟨v, w, rfl, h1, h2⟩ := hv.two
    obtain ⟨s, e, h⟩ := h
    cases h2
    exact ⟨v, _, _, _, _, rfl, .ty _, tyn_ok R h1 e, kit_ty (isB_ok s (tyn_mem e) _ h.1), k H _ _ A .rfl R (.bl _) h.2⟩
  · exact h.elim
end
section
variable {X : Cx}
theorem ba_len : BltA X (.builtin "len") (fun xs H Q => ∃ x n, xs = [x] ∧ LenV X.K x H n ∧ Q (.int n) H) aLen := ⟨call_len, sim_len⟩
theorem ba_int : BltA X (.type "int") (fun xs H Q => (∃ i, xs = [V.int i] ∧ Q (V.int i) H) ∨ ∃ k, xs = [V.bl k] ∧ Q (V.int (if k = true then 1 else 0)) H) aInt := ⟨call_int1, sim_int⟩
theorem ba_abs : BltA X (.builtin "abs") (fun xs H Q => ∃ i, xs = [V.int i] ∧ Q (V.int (if i < 0 then -i else i)) H) aAbs := ⟨call_abs, sim_abs⟩
theorem ba_str : BltA X (.type "str") (fun xs H Q => ∃ i, xs = [V.int i] ∧ i.natAbs.log2 < 1920 ∧ Q (V.str (Str.ofString (toString i))) H) aStr := ⟨call_str_int, sim_str⟩
theorem ba_min2 (hc : X.calm = true) : BltA X (.builtin "min") (fun xs H Q => ∃ i j, xs = [V.int i, V.int j] ∧ Q (V.int (if j < i then j else i)) H) aMin2 := ⟨call_min2 hc, sim_min2⟩
theorem ba_max2 (hc : X.calm = true) : BltA X (.builtin "max") (fun xs H Q => ∃ i j, xs = [V.int i, V.int j] ∧ Q (V.int (if j > i then j else i)) H) aMax2 := ⟨call_max2 hc, sim_max2⟩
theorem ba_list : BltA X (.type "list") (fun xs H Q => ∃ p ys, xs = [V.ref p] ∧ (SqL X.K H p ys ∨ SqT X.K H p ys) ∧ ∀ (l : Addr), H l = none → Q (V.ref l) (upd H l (HO.lst ys))) aList := ⟨call_list_of, sim_list⟩
theorem ba_tuple : BltA X (.type "tuple") (fun xs H Q => ∃ p ys, xs = [V.ref p] ∧ ((SqL X.K H p ys ∧ ∀ (l : Addr), H l = none → Q (V.ref l) (upd H l (HO.tup ys))) ∨ SqT X.K H p ys ∧ Q (V.ref p) H)) aTuple := ⟨call_tuple_of, sim_tuple⟩
theorem ba_isi : BltA X (.builtin "isinstance") (rIsi X.K) aIsi := ⟨call_isi, sim_isi⟩
end
end GA

namespace GA
open PySem PySem.Spec PyProof.Rows L2 GV TL
/-! ### slices -/
def cutD {α : Type} (xs : List α) (lo hi : Option Int) : List α := (xs.drop (HT.sIx xs.length 0 lo)).take (HT.sIx xs.length xs.length hi - HT.sIx xs.length 0 lo)
section
variable {X : Cx} {W : WX} {a b c e o : Expr} {es : List Expr} {ta tb tc te to : TE} {aa ab ac ae ao : AE} {t : TA} {at_ : AA} {pos apos cpos p p2 : Pos}
abbrev AO := Gt → Ah → (Option Int → Ah → Prop) → AX → Prop
structure POA (X : Cx) (W : WX) (e : Option Expr) (t : TO) (ao : AO) : Prop where
  pe : PO X e t
  sim : ∀ (σ : L2.St) (H : Hp) (Γ : Gt) (A : Ah) (q : Option Int → Ah → Prop) (x : AX) (Q : Option Int → Hp → Prop), RelA X.K H A → Slots X.K H σ Γ → ao Γ A q x →
    (∀ H' b A', Nxt X.K H H' → RelA X.K H' A' → q b A' → Q b H') → (∀ H' e A', Nxt X.K H H' → RelA X.K H' A' → x e A' → W (exC X.K e) (some e.d) σ H') → t σ H Q
def aNoP : AO := fun _ A q _ => q none A
def aPart (a : AE) : AO := fun Γ A q x => a Γ A (fun d A1 => match d with
  | .int i => q (some i) A1
  | _ => False) x
theorem go_none : POA X W none tNoPart aNoP := ⟨po_none, fun σ H Γ A q x Q R S h k _ => k H none A .rfl R h⟩
theorem go_some (ha : PEA X W a ta aa) : POA X W (some a) (tPart ta) (aPart aa) where
  pe := po_some ha.pe
  sim := fun σ H Γ A q x Q R S h k kx => ha.sim σ H Γ A _ x _ R S h (fun H1 v d A1 n1 R1 v1 h1 => by
    cases d with
    | int i => cases v1; exact ⟨i, rfl, k H1 _ A1 n1 R1 h1⟩
    | _ => exact h1.elim) kx
def aSl (a : AE) (lo hi : AO) : AE := fun Γ A q x => a Γ A (fun d A1 => lo Γ A1 (fun l A2 => hi Γ A2 (fun h A3 => match d with
  | .str cs => cs.length ≤ big ∧ q (.str (cutD cs l h)) A3
  | .tup ds => q (.tup (cutD ds l h)) A3
  | .ref a => onL A3 a fun ds => newL A3 (cutD ds l h) q
  | .fl ds => newL A3 (cutD ds l h) q
  | _ => False) x) x) x
def rSlU (K : Fg) : V → Option Int → Option Int → Hp → VK → Prop := fun x lo hi H Q => rSlS x lo hi H Q ∨ rSlA K x lo hi H Q ∨ rSlL K x lo hi H Q
theorem slU : SlR X (rSlU X.K) := by
  intro pins s σ H x v vl vu lo hi sl Q I rx hs pl pu h
  rcases h with h | h | h
  · exact sl_str pins s σ H x v vl vu lo hi sl Q I rx hs pl pu h
  · exact sl_tupA pins s σ H x v vl vu lo hi sl Q I rx hs pl pu h
  · exact sl_list pins s σ H x v vl vu lo hi sl Q I rx hs pl pu h
theorem Vls.cut {K : Fg} {H : Hp} {vs : List V} {ds : List D} (h : Vls K H vs ds) (lo hi : Option Int) : Vls K H (cutV vs lo hi) (cutD ds lo hi) := by
  unfold cutV cutD
  rw [h.length]
  exact (h.drop _).take _
theorem sIx_lt (n d : Nat) (hd : d ≤ n) (o : Option Int) : HT.sIx n d o ≤ n := HT.sIx_le n d hd o
theorem ga_sl {lo hi : Option Expr} {tl' th : TO} {al ah : AO} (ha : PEA X W a ta aa) (h1 : POA X W lo tl' al) (h2 : POA X W hi th ah) : PEA X W (.Subscript a (.Slice lo hi none p2) pos) (tSl (rSlU X.K) ta tl' th) (aSl aa al ah) where
  pe := pe_slice slU ha.pe h1.pe h2.pe
  sim := fun σ H Γ A q x Q R S h k kx => ha.sim σ H Γ A _ x _ R S h (fun H1 v d A1 n1 R1 v1 hh => h1.sim σ H1 Γ A1 _ x _ R1 (S.mono n1) hh
    (fun H2 l A2 n2 R2 hh => h2.sim σ H2 Γ A2 _ x _ R2 (S.mono (n1.trans n2)) hh (fun H3 u A3 n3 R3 hh => by
      have v3 := (v1.mono n2).mono n3
      have n := (n1.trans n2).trans n3
      cases d with
      | str cs =>
        obtain ⟨z, rfl, rfl⟩ := v3.inv_str
        refine .inl ⟨z, rfl, by rw [big_eq, len_tl]; exact hh.1, ?_⟩
        refine k H3 _ _ A3 n R3 (.strOf ?_) hh.2
        unfold cutS cutD
        rw [len_tl]
      | tup ds =>
        obtain ⟨p, vs, rfl, hp, hvs⟩ := v3.inv_tup
        refine .inr (.inl ⟨p, vs, rfl, hp, fun hw => ?_, fun hw p' hp' => ?_⟩)
        · have e : cutD ds l u = ds := by
            rw [hvs.length] at hw
            unfold cutD
            rw [hw.1, hw.2, List.drop_zero, Nat.sub_zero, List.take_length]
          have hh : q (.tup (cutD ds l u)) A3 := hh
          rw [e] at hh
          exact k H3 _ _ A3 n R3 (.tup hp hvs) hh
        · exact k _ _ _ A3 (n.trans (.new hp')) (R3.ext hp') (.tup (SqT.of upd_same) ((hvs.cut l u).mono (.new hp'))) hh
      | ref a =>
        obtain ⟨xs, ha, h⟩ := onL_of hh
        obtain ⟨ws, e1, r1⟩ := R3.lst ha
        cases v3
        exact .inr (.inr ⟨_, ws, rfl, SqL.of e1, fun p hp => k _ _ _ _ (n.trans (.new hp)) (R3.new hp (.lst (r1.cut l u))) (.ref p) (h p (R3.none hp))⟩)
      | fl ds =>
        obtain ⟨a, ws, rfl, e1, r1, _⟩ := v3.inv_fl
        exact .inr (.inr ⟨_, ws, rfl, Rd.sq e1, fun p hp => k _ _ _ _ (n.trans (.new hp)) (R3.new hp (.lst (r1.cut l u))) (.ref p) (hh p (R3.none hp))⟩)
      | _ => exact hh.elim) fun H3 e A3 n3 R3 h3 => kx H3 e A3 ((n1.trans n2).trans n3) R3 h3) fun H2 e A2 n2 R2 h2 => kx H2 e A2 (n1.trans n2) R2 h2) kx
/-! ### methods of built-in types -/
abbrev A1m := D → List D → Ah → (D → Ah → Prop) → Prop
def SimM (K : Fg) (T : String) (r : V → List V → Hp → VK → Prop) (ar : A1m) : Prop := ∀ (H : Hp) (A : Ah) (v : V) (d : D) (vs : List V) (ds : List D) (q : D → Ah → Prop) (Q : VK), RelA K H A → Val K H v d → Vls K H vs ds → ar d ds A q →
  (∀ H' z f A', Nxt K H H' → RelA K H' A' → Val K H' z f → q f A' → Q z H') → r v vs H Q
def isLst (A : Ah) : D → Prop
  | .ref a => ∃ ds, A a = some (.lst ds)
  | .fl _ => True
  | _ => False
def aMethL (r : A1m) (o : AE) (as : AA) : AE := fun Γ A q x => o Γ A (fun d A1 => isLst A1 d ∧ as Γ A1 (fun ds A2 => r d ds A2 q) x) x
theorem isLst_ty {K : Fg} {H : Hp} {A : Ah} {v : V} {d : D} (R : RelA K H A) (hv : Val K H v d) (h : isLst A d) : tyV K "list" v H := by
  cases d with
  | ref a =>
    obtain ⟨ds, e⟩ := h
    obtain ⟨vs, e1, _⟩ := R.lst e
    cases hv
    exact .inl ⟨rfl, _, SqL.of e1⟩
  | fl ds =>
    obtain ⟨a, vs, rfl, e1, _, _⟩ := hv.inv_fl
    exact .inl ⟨rfl, _, Rd.sq e1⟩
  | _ => exact h.elim
theorem sim_methL {r : V → List V → Hp → VK → Prop} {ar : A1m} (hr : SimM X.K "list" r ar) (ho : SimE X.K W to ao) (h : SimA X.K W t at_) : SimE X.K W (tBM X.K "list" r to t) (aMethL ar ao at_) := fun σ H Γ A q x Q R S hh k kx =>
  ho σ H Γ A _ x _ R S hh (fun H1 v d A1 n1 R1 v1 ⟨hl, h1⟩ => ⟨isLst_ty R1 v1 hl, h σ H1 Γ A1 _ x _ R1 (S.mono n1) h1
    (fun H2 vs ds A2 n2 R2 v2 h2 => hr H2 A2 v d vs ds q Q R2 (v1.mono n2) v2 h2 fun H3 z f A3 n3 R3 v3 h3 => k H3 z f A3 ((n1.trans n2).trans n3) R3 v3 h3) fun H2 e A2 n2 R2 h2 => kx H2 e A2 (n1.trans n2) R2 h2⟩) kx
theorem sim_methL0 {r : V → List V → Hp → VK → Prop} {ar : A1m} (hr : SimM X.K "list" r ar) (ho : SimE X.K W to ao) : SimE X.K W (tBM0 X.K "list" r to) (aMethL ar ao aNil) := fun σ H Γ A q x Q R S hh k kx =>
  ho σ H Γ A _ x _ R S hh (fun H1 v d A1 n1 R1 v1 ⟨hl, h1⟩ => ⟨isLst_ty R1 v1 hl, hr H1 A1 v d [] [] q Q R1 v1 .nil h1 fun H3 z f A3 n3 R3 v3 h3 => k H3 z f A3 (n1.trans n3) R3 v3 h3⟩) kx
/-- a list's method -/
structure MthL (X : Cx) (name : Str) (id : String) (r : V → List V → Hp → VK → Prop) (ar : A1m) : Prop where
  slot : Slot "list" name id
  ty : typeOf (Value.builtin id) = pure (Value.type "method_descriptor")
  op : MtR X id r
  sim : SimM X.K "list" r ar
theorem ga_mL {name : Str} {id : String} {r : V → List V → Hp → VK → Prop} {ar : A1m} (M : MthL X name id r ar) (ho : PEA X W o to ao) (h : PAA X W (e :: es) t at_)
    (h1 : attributeBase o name X.env (eval o X.env) = eval o X.env := by rfl)
    (h2 : ((backTo cpos (starEach (e :: es) X.env)).all (fun x => !x.1) && (backToKw cpos (keywordEach [] X.env)).all (fun x => x.1.isSome) && decide ((e :: es).length + ([] : List Keyword).length + (if ([] : List Keyword).isEmpty = true then 0 else 1) < 30)) = true := by rfl)
    (h3 : (apos.endLine == cpos.line) = true := by rfl) (h4 : starEach (e :: es) X.env = (false, eval e X.env) :: starEach es X.env := by rfl) (h5 : (backTo cpos (starEach es X.env)).any (·.1) = false := by rfl) :
    PEA X W (.Call (.Attribute o name apos) (e :: es) [] cpos) (tBM X.K "list" r to t) (aMethL ar ao at_) :=
  ⟨pe_bm PySem.F.plainAttrs_list M.slot M.ty M.op ho.pe h.pe h1 h2 h3 h4 h5, sim_methL M.sim ho.sim h.sim⟩
theorem ga_mL0 {name : Str} {id : String} {r : V → List V → Hp → VK → Prop} {ar : A1m} (M : MthL X name id r ar) (ho : PEA X W o to ao)
    (h1 : attributeBase o name X.env (eval o X.env) = eval o X.env := by rfl) (h3 : (apos.endLine == cpos.line) = true := by rfl) :
    PEA X W (.Call (.Attribute o name apos) [] [] cpos) (tBM0 X.K "list" r to) (aMethL ar ao aNil) :=
  ⟨pe_bm0 PySem.F.plainAttrs_list M.slot M.ty M.op ho.pe h1 h3, sim_methL0 M.sim ho.sim⟩
end
section
variable {K : Fg}
def aAppend : A1m := fun d ds A q => match d, ds with
  | .ref a, [e] => onL A a fun xs => xs.length < big ∧ q .non (updA A a (.lst (xs ++ [e])))
  | _, _ => False
theorem sim_append : SimM K "list" rAppend aAppend := by
  intro H A v d vs ds q Q R hv hvs h k
  unfold aAppend at h
  split at h
  · obtain ⟨w, rfl, hw⟩ := hvs.one
    obtain ⟨xs, ha, h⟩ := onL_of h
    obtain ⟨ws, e1, r1⟩ := R.lst ha
    cases hv
    exact ⟨_, ws, w, rfl, rfl, e1, by rw [big_eq, r1.length]; exact h.1, k _ _ _ _ (.set e1 noTup_lst) (R.set e1 noTup_lst (.lst (r1.append (.cons hw .nil)))) .non h.2⟩
  · exact h.elim
def aPop : A1m := fun d ds A q => match d, ds with
  | .ref a, [] => onL A a fun xs => ∃ y, xs[xs.length - 1]? = some y ∧ q y (updA A a (.lst xs.dropLast))
  | .ref a, [.int i] => onL A a fun xs => ∃ (j : Nat) (y : D), i = (j : Int) ∧ j < 1000000 ∧ xs[j]? = some y ∧ q y (updA A a (.lst (xs.eraseIdx j)))
  | _, _ => False
theorem Vls.dropLast {H : Hp} {vs : List V} {ds : List D} (h : Vls K H vs ds) : Vls K H vs.dropLast ds.dropLast := by
  rw [List.dropLast_eq_take, List.dropLast_eq_take, h.length]
  exact h.take _
theorem Vls.erase {H : Hp} {vs : List V} {ds : List D} (h : Vls K H vs ds) (n : Nat) : Vls K H (vs.eraseIdx n) (ds.eraseIdx n) := by
  rw [List.eraseIdx_eq_take_drop_succ, List.eraseIdx_eq_take_drop_succ]
  exact (h.take n).append (h.drop _)
def rPopU : V → List V → Hp → VK → Prop := fun x vs H Q => rPop x vs H Q ∨ rPopAt x vs H Q
theorem mtR_or {X : Cx} {id : String} {r r' : V → List V → Hp → VK → Prop} (h : MtR X id r) (h' : MtR X id r') : MtR X id (fun x vs H Q => r x vs H Q ∨ r' x vs H Q) := by
  intro pins s σ H x vs v us Q I rx rv q
  rcases q with q | q
  · exact h pins s σ H x vs v us Q I rx rv q
  · exact h' pins s σ H x vs v us Q I rx rv q
theorem mtM_or {X : Cx} {id : String} {r r' : V → List V → Hp → VK → Prop} (h : MtM X id r) (h' : MtM X id r') : MtM X id (fun x vs H Q => r x vs H Q ∨ r' x vs H Q) := by
  intro pins s σ H x vs v us Q I rx rv q
  rcases q with q | q
  · exact h pins s σ H x vs v us Q I rx rv q
  · exact h' pins s σ H x vs v us Q I rx rv q
theorem sim_pop : SimM K "list" rPopU aPop := by
  intro H A v d vs ds q Q R hv hvs h k
  unfold aPop at h
  split at h
  · obtain ⟨xs, ha, y, hy, h⟩ := onL_of h
    obtain ⟨ws, e1, r1⟩ := R.lst ha
    cases hv; cases hvs
    obtain ⟨z, hz, vz⟩ := r1.get hy
    refine .inl ⟨_, ws, z, rfl, rfl, e1, by rw [r1.length]; exact hz, ?_⟩
    have n : Nxt K H (upd H _ (.lst ws.dropLast)) := .set e1 noTup_lst
    exact k _ _ _ _ n (R.set e1 noTup_lst (.lst r1.dropLast)) (vz.mono n) h
  · obtain ⟨w, rfl, hw⟩ := hvs.one
    obtain ⟨xs, ha, j, y, rfl, hj, hy, h⟩ := onL_of h
    obtain ⟨ws, e1, r1⟩ := R.lst ha
    cases hv; cases hw
    obtain ⟨z, hz, vz⟩ := r1.get hy
    have hlt : j < ws.length := (List.getElem?_eq_some_iff.mp hz).1
    have hb : (2 : Int) ^ 63 = 9223372036854775808 := by decide
    have n : Nxt K H (upd H _ (.lst (ws.eraseIdx j))) := .set e1 noTup_lst
    refine .inr ⟨_, ws, _, j, z, rfl, rfl, e1, by omega, by omega, ?_, hz, k _ _ _ _ n (R.set e1 noTup_lst (.lst (r1.erase j))) (vz.mono n) h⟩
    have hn : ¬ ((j : Int) < 0) := by omega
    have hn2 : (j : Int) < (ws.length : Int) := by omega
    simp [seqIndex?, hn, hlt]
  · exact h.elim
end

section
variable {K : Fg}
def rExtendF : V → List V → Hp → VK → Prop := fun x vs H Q => ∃ l b xs zs, x = .ref l ∧ vs = [.ref b] ∧ H l = some (.lst xs) ∧ Rd H b (.lst zs) ∧ xs.length + zs.length ≤ sizeLine ∧ Q .non (upd H l (.lst (xs ++ zs)))
theorem mt_extendF {X : Cx} : MtM X "list.extend" rExtendF := by
  intro pins s σ H x vs v us Q I rx rv h
  obtain ⟨l, b, xs, zs, rfl, rfl, hH, hB, hz, q⟩ := h
  cases rx
  obtain ⟨u, rfl, ru⟩ := rv.one
  cases ru
  obtain ⟨z, its, n, r, hl, e⟩ := I.lstM hH
  obtain ⟨z2, its2, n2, r2, e2⟩ := hB.ok I.hok
  have hl2 := r2.length
  have hsz : its.toArray.size + its2.toArray.size ≤ sizeLine := by rw [List.size_toArray, List.size_toArray]; omega
  have hlong : ¬ (!its.toArray.isEmpty && Builtin.List.listTooLong (its.toArray.size + its2.toArray.size)) = true := by
    rw [notLongL hsz, Bool.and_false]
    exact Bool.false_ne_true
  refine call_meets F.slot_list_extend ⟨_, e, rfl⟩ F.entry_list_extend (F.args_list_extend_2 _ _)
    (AutoSeq1.list_extend_list_list_0 l its.toArray n b its2.toArray n2 hlong (by rw [List.size_toArray]; omega) (by omega)) ⟨e, e2, ?_⟩
  refine ⟨.non, _, I.lset (its' := its ++ its2) hH e (by simp) (r.append r2) ?_, rfl, q⟩
  rw [List.length_append]
  omega
def aExtend : A1m := fun d ds A q => match d, ds with
  | .ref a, [.ref b] => onL A a fun xs => onL A b fun ys => xs.length + ys.length ≤ big ∧ q .non (updA A a (.lst (xs ++ ys)))
  | .ref a, [.fl ys] => onL A a fun xs => xs.length + ys.length ≤ big ∧ q .non (updA A a (.lst (xs ++ ys)))
  | _, _ => False
theorem sim_extend : SimM K "list" rExtendF aExtend := by
  intro H A v d vs ds q Q R hv hvs h k
  unfold aExtend at h
  split at h
  · obtain ⟨w, rfl, hw⟩ := hvs.one
    obtain ⟨xs, ha, h⟩ := onL_of h
    obtain ⟨ys, hb, h⟩ := onL_of h
    obtain ⟨ws, e1, r1⟩ := R.lst ha
    obtain ⟨us, e2, r2⟩ := R.lst hb
    cases hv; cases hw
    exact ⟨_, _, ws, us, rfl, rfl, e1, .inl e2, by rw [big_eq, r1.length, r2.length]; exact h.1, k _ _ _ _ (.set e1 noTup_lst) (R.set e1 noTup_lst (.lst (r1.append r2))) .non h.2⟩
  · obtain ⟨w, rfl, hw⟩ := hvs.one
    obtain ⟨xs, ha, h⟩ := onL_of h
    obtain ⟨ws, e1, r1⟩ := R.lst ha
    obtain ⟨b, us, rfl, e2, r2, _⟩ := hw.inv_fl
    cases hv
    exact ⟨_, _, ws, us, rfl, rfl, e1, e2, by rw [big_eq, r1.length, r2.length]; exact h.1, k _ _ _ _ (.set e1 noTup_lst) (R.set e1 noTup_lst (.lst (r1.append r2))) .non h.2⟩
  · exact h.elim
end
section
variable {X : Cx} {W : WX} {a b c e o : Expr} {es : List Expr} {ta tb tc te to : TE} {aa ab ac ae ao : AE} {t : TA} {at_ : AA} {pos apos cpos p p2 : Pos}
theorem ml_append : MthL X "append" "list.append" rAppend aAppend := ⟨PySem.F.slot_list_append, PySem.F.type_list_append, mt_append, sim_append⟩
theorem ml_pop : MthL X "pop" "list.pop" rPopU aPop := ⟨PySem.F.slot_list_pop, PySem.F.type_list_pop, mtM_or mt_pop mt_popAt, sim_pop⟩
theorem ml_extend : MthL X "extend" "list.extend" rExtendF aExtend := ⟨PySem.F.slot_list_extend, PySem.F.type_list_extend, mt_extendF, sim_extend⟩
/-! ### s.split(sep), sep.join(xs) -/
def splitD (sep cs : List Nat) : List (List Nat) := spl sep 0 [] cs
def aSplit (o s : AE) : AE := fun Γ A q x => o Γ A (fun d A1 => match d with
  | .str cs => s Γ A1 (fun e A2 => match e with
    | .str sep => sep ≠ [] ∧ sep.all (· < 256) = true ∧ cs.length + 2 ≤ big ∧ newL A2 ((splitD sep cs).map D.str) q
    | _ => False) x
  | _ => False) x
theorem Vls.strs {K : Fg} {H : Hp} : ∀ {ys : List Str} {zs : List (List Nat)}, ys.map tl = zs → Vls K H (ys.map V.str) (zs.map D.str)
  | [], _, rfl => .nil
  | y :: ys, _, rfl => .cons (.str y) (Vls.strs rfl)
theorem ga_split (ho : PEA X W o to ao) (he : PEA X W e te ae) (hs : starEach [e] X.env = [(false, eval e X.env)] := by rfl) (hb : attributeBase o "split" X.env (eval o X.env) = eval o X.env := by rfl) (hl : (apos.endLine == pos.line) = true := by rfl) :
    PEA X W (.Call (.Attribute o "split" apos) [e] [] pos) (tM1 (fun x xs H Q => ∃ a b, x = .str a ∧ xs = [.str b] ∧ (b.length == 0) = false ∧ a.length + 2 ≤ sizeLine ∧ rNewStrs (Txt.split a b) H Q) to te) (aSplit ao ae) where
  pe := pe_split ho.pe he.pe hs hb hl
  sim := fun σ H Γ A q x Q R S h k kx => ho.sim σ H Γ A _ x _ R S h (fun H1 v d A1 n1 R1 v1 h1 => by
    cases d with
    | str cs =>
      obtain ⟨z, rfl, rfl⟩ := v1.inv_str
      refine ⟨⟨z, rfl⟩, he.sim σ H1 Γ A1 _ x _ R1 (S.mono n1) h1 (fun H2 w f A2 n2 R2 v2 h2 => ?_) fun H2 e A2 n2 R2 h2 => kx H2 e A2 (n1.trans n2) R2 h2⟩
      cases f with
      | str sep =>
        obtain ⟨y, rfl, rfl⟩ := v2.inv_str
        obtain ⟨g1, g2, g3, g4⟩ := h2
        refine ⟨z, y, rfl, rfl, ?_, by rw [big_eq, len_tl]; exact g3, fun p hp => ?_⟩
        · rw [beq_eq_false_iff_ne, len_tl]
          exact fun z => g1 (List.eq_nil_of_length_eq_zero z)
        · refine k _ _ _ _ ((n1.trans n2).trans (.new hp)) (R2.new hp (.lst (Vls.strs ?_))) (.ref p) (g4 p (R2.none hp))
          refine split_spl z y g1 (kind_ok ?_)
          rw [← Array.all_toList]
          exact g2
      | _ => exact h2.elim
    | _ => exact h1.elim) kx
def strsOf : List D → Option (List (List Nat))
  | [] => some []
  | .str cs :: r => (strsOf r).map (cs :: ·)
  | _ => none
theorem strsOf_vals {K : Fg} {H : Hp} : ∀ {ds : List D} {zs : List (List Nat)} {vs : List V}, strsOf ds = some zs → Vls K H vs ds → ∃ ys : List Str, vs = ys.map V.str ∧ ys.map tl = zs
  | [], _, _, h, .nil => by cases h; exact ⟨[], rfl, rfl⟩
  | .str cs :: r, zs, _, h, .cons hv t => by
    unfold strsOf at h
    cases e : strsOf r with
    | none => rw [e] at h; cases h
    | some z =>
      rw [e] at h
      cases h
      obtain ⟨x, rfl, rfl⟩ := hv.inv_str
      obtain ⟨ys, rfl, rfl⟩ := strsOf_vals e t
      exact ⟨x :: ys, rfl, rfl⟩
def joinD (sep : List Nat) (zs : List (List Nat)) : List Nat := joinL sep zs
def aJoin (o s : AE) : AE := fun Γ A q x => o Γ A (fun d A1 => match d with
  | .str sep => s Γ A1 (fun e A2 => match e with
    | .tup ds => ∃ zs, strsOf ds = some zs ∧ (zs.map List.length).sum + zs.length * sep.length ≤ big ∧ q (.str (joinD sep zs)) A2
    | .ref a => onL A2 a fun ds => ∃ zs, strsOf ds = some zs ∧ (zs.map List.length).sum + zs.length * sep.length ≤ big ∧ q (.str (joinD sep zs)) A2
    | .fl ds => ∃ zs, strsOf ds = some zs ∧ (zs.map List.length).sum + zs.length * sep.length ≤ big ∧ q (.str (joinD sep zs)) A2
    | _ => False) x
  | _ => False) x
theorem tl_joinD (y : Str) (ys : List Str) : tl (Txt.join y ys) = joinD (tl y) (ys.map tl) := by rw [join_eq, tl_join]; rfl
theorem lens_tl (ys : List Str) : ys.map (fun x => x.length) = (ys.map tl).map List.length := by
  rw [List.map_map]
  exact List.map_congr_left fun y _ => len_tl y
theorem ga_join (ho : PEA X W o to ao) (he : PEA X W e te ae) (hs : starEach [e] X.env = [(false, eval e X.env)] := by rfl) (hb : attributeBase o "join" X.env (eval o X.env) = eval o X.env := by rfl) (hl : (apos.endLine == pos.line) = true := by rfl) :
    PEA X W (.Call (.Attribute o "join" apos) [e] [] pos) (tM1 (fun x xs H Q => ∃ a p ys, x = .str a ∧ xs = [.ref p] ∧ (SqL X.K H p (List.map V.str ys) ∨ SqT X.K H p (List.map V.str ys)) ∧ (List.map (fun x => x.length) ys).sum + ys.length * a.length ≤ 16777216 ∧ Q (.str (Txt.join a ys)) H) to te) (aJoin ao ae) where
  pe := pe_join ho.pe he.pe hs hb hl
  sim := fun σ H Γ A q x Q R S h k kx => ho.sim σ H Γ A _ x _ R S h (fun H1 v d A1 n1 R1 v1 h1 => by
    cases d with
    | str sep =>
      obtain ⟨z, rfl, rfl⟩ := v1.inv_str
      refine ⟨⟨z, rfl⟩, he.sim σ H1 Γ A1 _ x _ R1 (S.mono n1) h1 (fun H2 w f A2 n2 R2 v2 h2 => ?_) fun H2 e A2 n2 R2 h2 => kx H2 e A2 (n1.trans n2) R2 h2⟩
      cases f with
      | tup ds =>
        obtain ⟨zs, g1, g2, g3⟩ := h2
        obtain ⟨p, vs, rfl, hp, hvs⟩ := v2.inv_tup
        obtain ⟨ys, rfl, rfl⟩ := strsOf_vals g1 hvs
        refine ⟨z, p, ys, rfl, rfl, .inr hp, ?_, k _ _ _ A2 (n1.trans n2) R2 (.strOf (tl_joinD z ys)) g3⟩
        rw [lens_tl, len_tl z]; simpa using g2
      | ref a =>
        obtain ⟨xs, ha, zs, g1, g2, g3⟩ := onL_of h2
        obtain ⟨ws, e1, r1⟩ := R2.lst ha
        cases v2
        obtain ⟨ys, rfl, rfl⟩ := strsOf_vals g1 r1
        refine ⟨z, _, ys, rfl, rfl, .inl (SqL.of e1), ?_, k _ _ _ A2 (n1.trans n2) R2 (.strOf (tl_joinD z ys)) g3⟩
        rw [lens_tl, len_tl z]; simpa using g2
      | fl ds =>
        obtain ⟨zs, g1, g2, g3⟩ := h2
        obtain ⟨p, vs, rfl, hp, hvs, _⟩ := v2.inv_fl
        obtain ⟨ys, rfl, rfl⟩ := strsOf_vals g1 hvs
        refine ⟨z, p, ys, rfl, rfl, .inl (Rd.sq hp), ?_, k _ _ _ A2 (n1.trans n2) R2 (.strOf (tl_joinD z ys)) g3⟩
        rw [lens_tl, len_tl z]; simpa using g2
      | _ => exact h2.elim
    | _ => exact h1.elim) kx
end
end GA

namespace GA
open PySem PySem.Spec PyProof.Rows L2 GV TL
section
variable {X : Cx} {W : WX} {st : Stmt} {rest body orelse : List Stmt} {e o : Expr} {te to : TE} {ae ao : AE} {ts us : TS} {as' bs' : AS} {pos pos' p : Pos}
/-! ### blocks -/
def aNext : AS := fun D Γ A => D.nx Γ A
def aSeq (s t : AS) : AS := fun D Γ A => s { D with nx := t D } Γ A
theorem gb_nil : PSsA X W [] tNext aNext := ⟨pss_nil, fun D AD σ H Γ A R S h k => k.nx σ H Γ A .rfl R S h⟩
theorem gb_cons (h1 : PSA X W st ts as') (h2 : PSsA X W rest us bs') : PSsA X W (st :: rest) (tSeq ts us) (aSeq as' bs') where
  pe := pss_cons h1.pe h2.pe
  sim := fun D AD σ H Γ A R S h k => h1.sim _ _ σ H Γ A R S h ⟨fun σ' H' Γ' A' n R' S' h' => h2.sim D AD σ' H' Γ' A' R' S' h' (k.mono n), k.rt, k.bk, k.ct, k.ex⟩
theorem gb_one (h1 : PSA X W st ts as') : PSsA X W [st] ts as' := ⟨pss_one h1.pe, h1.sim⟩
theorem gs_pass : PSA X W (.Pass pos) tNext aNext := ⟨ps_pass, fun D AD σ H Γ A R S h k => k.nx σ H Γ A .rfl R S h⟩
def aBreak : AS := fun D Γ A => D.bk Γ A
theorem gs_break : PSA X W (.Break pos) tBreak aBreak := ⟨ps_break, fun D AD σ H Γ A R S h k => k.bk σ H Γ A .rfl R S h⟩
def aCont : AS := fun D Γ A => D.ct Γ A
theorem gs_cont : PSA X W (.Continue pos) tCont aCont := ⟨ps_continue, fun D AD σ H Γ A R S h k => k.ct σ H Γ A .rfl R S h⟩
def aNever : AS := fun _ _ _ => False
theorem gs_never : PSA X W st tNever aNever := ⟨ps_never, fun _ _ _ _ _ _ _ _ h _ => h⟩
theorem gb_never : PSsA X W rest tNever aNever := ⟨pss_never, fun _ _ _ _ _ _ _ _ h _ => h⟩
def aRet (a : AE) : AS := fun D Γ A => a Γ A D.rt fun e A' => D.ex e Γ A'
theorem gs_ret (h : PEA X W e te ae) : PSA X W (.Return (some e) pos) (tRet te) (aRet ae) :=
  ⟨ps_ret h.pe, fun D AD σ H Γ A R S hh k => h.sim σ H Γ A _ _ _ R S hh (fun H' v d A' n R' V' h' => k.rt v H' d A' n R' V' h') fun H' e A' n R' h' => k.ex e σ H' Γ A' n R' (S.mono n) h'⟩
def aRetN : AS := fun D _ A => D.rt .non A
theorem gs_retN : PSA X W (.Return none pos) tRetN aRetN := ⟨ps_retN, fun D AD σ H Γ A R S h k => k.rt .non H .non A .rfl R .non h⟩
def aDrop (a : AE) : AS := fun D Γ A => a Γ A (fun _ A' => D.nx Γ A') fun e A' => D.ex e Γ A'
theorem gs_expr (h : PEA X W e te ae) (hs : swapsWith e none pos.line X.env = pure false := by rfl) : PSA X W (.Expr e pos) (tDrop te) (aDrop ae) :=
  ⟨ps_expr h.pe hs, fun D AD σ H Γ A R S hh k => h.sim σ H Γ A _ _ _ R S hh (fun H' v d A' n R' _ h' => k.nx σ H' Γ A' n R' (S.mono n) h') fun H' e A' n R' h' => k.ex e σ H' Γ A' n R' (S.mono n) h'⟩
def aIf (c : AT) (t u : AS) : AS := fun D Γ A => c Γ A (fun b A1 => bsel b (t D Γ A1) (u D Γ A1)) fun e A' => D.ex e Γ A'
theorem gs_if {c : Expr} {tc : TT} {ac : AT} (h : PTA X W c tc ac) (h1 : PSsA X W body ts as') (h2 : PSsA X W orelse us bs') : PSA X W (.If c body orelse pos) (tIfS tc ts us) (aIf ac as' bs') where
  pe := ps_if h.pe h1.pe h2.pe
  sim := fun D AD σ H Γ A R S hh k => h.sim σ H Γ A _ _ _ R S hh (fun H1 b A1 n1 R1 h' => by
    cases b with
    | true => exact h1.sim D AD σ H1 Γ A1 R1 (S.mono n1) (h'.1 rfl) (k.mono n1)
    | false => exact h2.sim D AD σ H1 Γ A1 R1 (S.mono n1) (h'.2 rfl) (k.mono n1)) fun H' e A' n R' h' => k.ex e σ H' Γ A' n R' (S.mono n) h'
/-! ### targets -/
abbrev AG := D → Gt → Ah → (Gt → Ah → Prop) → Prop
abbrev AGs := List D → Gt → Ah → (Gt → Ah → Prop) → Prop
structure PGA (X : Cx) (tg : Expr) (g : TG) (ag : AG) : Prop where
  pe : PG X tg g
  sim : ∀ (v : V) (d : D) (σ : L2.St) (H : Hp) (Γ : Gt) (A : Ah) (q : Gt → Ah → Prop) (Q : L2.St → Hp → Prop), RelA X.K H A → Slots X.K H σ Γ → Val X.K H v d → ag d Γ A q →
    (∀ σ' H' Γ' A', Nxt X.K H H' → RelA X.K H' A' → Slots X.K H' σ' Γ' → q Γ' A' → Q σ' H') → g v σ H Q
structure PGsA (X : Cx) (tg : List Expr) (g : TGs) (ag : AGs) : Prop where
  pe : PGs X tg g
  sim : ∀ (vs : List V) (ds : List D) (σ : L2.St) (H : Hp) (Γ : Gt) (A : Ah) (q : Gt → Ah → Prop) (Q : L2.St → Hp → Prop), RelA X.K H A → Slots X.K H σ Γ → Vls X.K H vs ds → ag ds Γ A q →
    (∀ σ' H' Γ' A', Nxt X.K H H' → RelA X.K H' A' → Slots X.K H' σ' Γ' → q Γ' A' → Q σ' H') → g vs σ H Q
def agName (i : Nat) : AG := fun d Γ A q => q (Γ.set i (some d)) A
theorem gg_name {i : Nat} {x : Str} (hN : X.N.Nodup) (hi : X.N[i]? = some x := by rfl) (hl : L2.Loc X.env.scope x := by first | exact Or.inl rfl | exact Or.inr rfl) (hf : X.fn x = true ∨ List.lookup x X.env.scope.names = some NameKind.local := by first | exact Or.inl rfl | exact Or.inr rfl) :
    PGA X (.Name x pos) (gName i) (agName i) :=
  ⟨pg_name hN hi hl hf, fun v d σ H Γ A q Q R S hv h k => k _ H _ A .rfl R (S.set hv) h⟩
def agNil : AGs := fun ds Γ A q => ds = [] ∧ q Γ A
def agCons (t : AG) (u : AGs) : AGs := fun ds Γ A q => match ds with
  | d :: r => t d Γ A fun Γ' A' => u r Γ' A' q
  | [] => False
theorem gg_nil (h : PGs X [] gNil := by exact pgs_nil) : PGsA X [] gNil agNil := ⟨h, fun vs ds σ H Γ A q Q R S hv h k => by
  obtain ⟨rfl, h⟩ := h
  cases hv
  exact ⟨rfl, k σ H Γ A .rfl R S h⟩⟩
theorem gg_cons {tg : Expr} {tgs : List Expr} {t : TG} {u : TGs} {at_ : AG} {au : AGs} (h1 : PGA X tg t at_) (h2 : PGsA X tgs u au)
    (he : (assignEach (tg :: tgs) X.env).map (·.2) = assign tg X.env :: (assignEach tgs X.env).map (·.2) := by rfl) : PGsA X (tg :: tgs) (gCons t u) (agCons at_ au) :=
  ⟨pgs_cons h1.pe h2.pe he, fun vs ds σ H Γ A q Q R S hv h k => by
    cases ds with
    | nil => exact h.elim
    | cons d r =>
      cases hv with
      | cons hv ht => exact ⟨_, _, rfl, h1.sim _ d σ H Γ A _ _ R S hv h fun σ1 H1 Γ1 A1 n1 R1 S1 h1' => h2.sim _ r σ1 H1 Γ1 A1 q Q R1 S1 (ht.mono n1) h1' fun σ2 H2 Γ2 A2 n2 R2 S2 h2' => k σ2 H2 Γ2 A2 (n1.trans n2) R2 S2 h2'⟩⟩
def agTup (n : Nat) (t : AGs) : AG := fun d Γ A q => match d with
  | .tup ds => ds.length = n ∧ t ds Γ A q
  | _ => False
theorem gg_tup {tgs : List Expr} {k0 n : Nat} {t : TGs} {at_ : AGs} (hc : X.calm = true) (h : PGsA X tgs t at_) (h1 : (assignEach tgs X.env).length = n := by rfl) (h2 : (assignEach tgs X.env).findIdx? (·.1) = none := by rfl) :
    PGA X (.Tuple tgs k0 pos) (gTup X.K n t) (agTup n at_) :=
  ⟨pg_tup hc h.pe h1 h2, fun v d σ H Γ A q Q R S hv hh k => by
    cases d with
    | tup ds =>
      obtain ⟨a, vs, rfl, hp, hvs⟩ := hv.inv_tup
      exact ⟨a, vs, rfl, hp, by rw [hvs.length]; exact hh.1, h.sim vs ds σ H Γ A q Q R S hvs hh.2 k⟩
    | _ => exact hh.elim⟩
def aAsg (a : AE) (g : AG) : AS := fun D Γ A => a Γ A (fun d A1 => g d Γ A1 D.nx) fun e A' => D.ex e Γ A'
theorem sim_asg {g : TG} {ag : AG} (h : SimE X.K W te ae) (hg : PGA X e g ag) : SimS X.K W (tAsg te g) (aAsg ae ag) := fun D AD σ H Γ A R S hh k =>
  h σ H Γ A _ _ _ R S hh (fun H1 v d A1 n1 R1 v1 h1 => hg.sim v d σ H1 Γ A1 _ _ R1 (S.mono n1) v1 h1 fun σ2 H2 Γ2 A2 n2 R2 S2 h2 => k.nx σ2 H2 Γ2 A2 (n1.trans n2) R2 S2 h2) fun H' e A' n R' h' => k.ex e σ H' Γ A' n R' (S.mono n) h'
theorem gs_set {i : Nat} {x : Str} (hN : X.N.Nodup) (h : PEA X W e te ae) (hi : X.N[i]? = some x := by rfl) (hl : L2.Loc X.env.scope x := by first | exact Or.inl rfl | exact Or.inr rfl)
    (hs : swapsWith e (some (.Name x pos')) pos.line X.env = pure false := by rfl) (hf : X.fn x = true ∨ List.lookup x X.env.scope.names = some NameKind.local := by first | exact Or.inl rfl | exact Or.inr rfl) :
    PSA X W (.Assign [.Name x pos'] e pos) (tAsg te (gName i)) (aAsg ae (agName i)) :=
  ⟨ps_set hN hi hl h.pe hs hf, sim_asg h.sim (gg_name (pos := pos') hN hi hl hf)⟩
theorem gs_asg {tg : Expr} {g : TG} {ag : AG} (h : PEA X W e te ae) (hg : PGA X tg g ag) (h1 : swapsWithSole [tg] e pos.line X.env = pure false := by rfl) (h2 : swappedStores [tg] e X.env = pure none := by rfl)
    (h3 : (assignEach [tg] X.env).map (·.2) = [assign tg X.env] := by rfl) : PSA X W (.Assign [tg] e pos) (tAsg te g) (aAsg ae ag) :=
  ⟨ps_asg h.pe hg.pe h1 h2 h3, sim_asg h.sim hg⟩
/-- xs[i] = e -/
def agSubL (o i : AE) : AG := fun d Γ A q => o Γ A (fun l A1 => i Γ A1 (fun k A2 => match l, k with
  | .ref a, .int k => onL A2 a fun xs => ∃ j, ixN xs.length k = some j ∧ q Γ (updA A2 a (.lst (xs.set j d)))
  | _, _ => False) fun _ _ => False) fun _ _ => False
abbrev WF : WX := fun _ _ _ _ => False
theorem gg_subL {i : Expr} {ti : TE} {ai : AE} (ho : PEA X WF o to ao) (hi : PEA X WF i ti ai)
    (h : ∀ v, assign (.Subscript o i pos) X.env v = (do let ov ← holding [v] (eval o X.env); let iv ← holding [v, ov] (eval i X.env); standAt pos; holding [v, ov, iv] (setItem ov iv v); release [v, ov, iv] []) := by intro _; rfl) :
    PGA X (.Subscript o i pos) (gSub to ti rSetL) (agSubL ao ai) :=
  ⟨pg_sub ho.pe hi.pe set_list h, fun v d σ H Γ A q Q R S hv hh k => ho.sim σ H Γ A _ _ _ R S hh (fun H1 w l A1 n1 R1 v1 h1 => hi.sim σ H1 Γ A1 _ _ _ R1 (S.mono n1) h1
    (fun H2 z kk A2 n2 R2 v2 h2 => by
      cases l with
      | ref a => cases kk with
        | int kk =>
          obtain ⟨xs, ha, j, hj, h2⟩ := onL_of h2
          obtain ⟨ws, e1, r1⟩ := R2.lst ha
          cases v1; cases v2
          have n : Nxt X.K H2 (upd H2 a (.lst (ws.set j v))) := .set e1 noTup_lst
          exact ⟨a, ws, kk, j, rfl, rfl, e1, by rw [r1.length]; exact hj, k _ _ _ _ ((n1.trans n2).trans n) (R2.set e1 noTup_lst (.lst (r1.set ((hv.mono n1).mono n2) j))) (S.mono ((n1.trans n2).trans n)) h2⟩
        | _ => exact h2.elim
      | _ => exact h2.elim) fun _ _ _ _ _ z => z.elim) fun _ _ _ _ _ z => z.elim⟩
/-- x += e, a number -/
def aAug (i : Nat) (a : AE) (f : Int → Int → Int) : AS := fun D Γ A => match Γ[i]? with
  | some (some (.int m)) => a Γ A (fun d A1 => match d with
    | .int n => D.nx (Γ.set i (some (.int (f m n)))) A1
    | _ => False) fun e A' => D.ex e Γ A'
  | _ => False
theorem gs_augI {i : Nat} {x : Str} {op : Operator} {f : Int → Int → Int} (hN : X.N.Nodup) (hop : PIp X op (ipI f)) (h : PEA X W e te ae) (hi : X.N[i]? = some x := by rfl) (hl : L2.Loc X.env.scope x := by first | exact Or.inl rfl | exact Or.inr rfl)
    (hf : X.fn x = true ∨ List.lookup x X.env.scope.names = some NameKind.local := by first | exact Or.inl rfl | exact Or.inr rfl) : PSA X W (.AugAssign (.Name x pos') op e pos) (tAug i te (ipI f)) (aAug i ae f) :=
  ⟨ps_aug hN hi hl h.pe hop hf, fun D AD σ H Γ A R S hh k => by
    unfold aAug at hh
    split at hh
    · rename_i m e1
      obtain ⟨v, e2, hv⟩ := S.get i _ e1
      cases hv
      refine ⟨_, e2, h.sim σ H Γ A _ _ _ R S hh (fun H1 w d A1 n1 R1 v1 h1 => ?_) fun H' e A' n R' h' => k.ex e σ H' Γ A' n R' (S.mono n) h'⟩
      cases d with
      | int n => cases v1; exact ⟨m, n, rfl, rfl, k.nx _ H1 _ A1 n1 R1 ((S.mono n1).set (.int _)) h1⟩
      | _ => exact h1.elim
    · exact hh.elim⟩
end
/-! ### what a for walks -/
/-- a walk of known length: the list that must stay, how many, which -/
structure ItA where
  src : Option (Addr × List D)
  n : Nat
  item : Nat → D
def ItA.still (it : ItA) (A : Ah) : Prop := match it.src with
  | some (a, ds) => A a = some (.lst ds)
  | none => True
structure LoopOk (K : Fg) (H0 : Hp) (J : It) (it : ItA) : Prop where
  go : ∀ i H A, Nxt K H0 H → RelA K H A → it.still A → i < it.n → J.go i H
  yld : ∀ i H A x H', Nxt K H0 H → RelA K H A → it.still A → i < it.n → J.yld i H x H' → Nxt K H H' ∧ RelA K H' A ∧ Val K H' x (it.item i)
  stop : ∀ i H A, Nxt K H0 H → RelA K H A → it.still A → it.n ≤ i → J.stop i H
abbrev AI := Gt → Ah → (ItA → Ah → Prop) → AX → Prop
structure PIA (X : Cx) (W : WX) (tg iter : Expr) (wi : TI) (ai : AI) : Prop where
  pe : PI X tg iter wi
  sim : ∀ (σ : L2.St) (H : Hp) (Γ : Gt) (A : Ah) (q : ItA → Ah → Prop) (x : AX) (Q : It → Hp → Prop), RelA X.K H A → Slots X.K H σ Γ → ai Γ A q x →
    (∀ H' J it A', Nxt X.K H H' → RelA X.K H' A' → LoopOk X.K H' J it → it.still A' → q it A' → Q J H') →
    (∀ H' e A', Nxt X.K H H' → RelA X.K H' A' → x e A' → W (exC X.K e) (some e.d) σ H') → wi σ H Q

section
variable {X : Cx} {W : WX} {tg iter e : Expr} {body : List Stmt} {te : TE} {ae : AE} {wi : TI} {ai : AI} {g : TG} {ag : AG} {tb : TS} {ab : AS} {pos p : Pos}
def aFor (wi : AI) (g : AG) (tb : AS) : AS := fun D Γ A => wi Γ A (fun it A1 => ∃ Inv : Nat → Gt → Ah → Prop, Inv 0 Γ A1 ∧ (∀ i Γ' A', i ≤ it.n → Inv i Γ' A' → it.still A') ∧
  (∀ i Γ' A', i < it.n → Inv i Γ' A' → g (it.item i) Γ' A' fun Γ2 A2 => tb { D with nx := Inv (i + 1), ct := Inv (i + 1), bk := D.nx } Γ2 A2) ∧ ∀ Γ' A', Inv it.n Γ' A' → D.nx Γ' A') fun e A' => D.ex e Γ A'
theorem sim_for0 (hi : ∀ (σ : L2.St) (H : Hp) (Γ : Gt) (A : Ah) (q : ItA → Ah → Prop) (x : AX) (Q : It → Hp → Prop), RelA X.K H A → Slots X.K H σ Γ → ai Γ A q x →
    (∀ H' J it A', Nxt X.K H H' → RelA X.K H' A' → LoopOk X.K H' J it → it.still A' → q it A' → Q J H') →
    (∀ H' e A', Nxt X.K H H' → RelA X.K H' A' → x e A' → W (exC X.K e) (some e.d) σ H') → wi σ H Q) (hg : PGA X tg g ag) (hb : SimS X.K W tb ab) : SimS X.K W (tFor wi g tb) (aFor ai ag ab) := fun D AD σ H Γ A R S hh k =>
  hi σ H Γ A _ _ _ R S hh (fun H1 J it A1 n1 R1 L st ⟨Iv, h0, hs, hturn, hd⟩ => by
    refine ⟨fun i m σ' H' => m = it.n - i ∧ i ≤ it.n ∧ ∃ Γ' A', Nxt X.K H1 H' ∧ RelA X.K H' A' ∧ Slots X.K H' σ' Γ' ∧ Iv i Γ' A', ⟨it.n, by omega, Nat.zero_le _, Γ, A1, .rfl, R1, S.mono n1, h0⟩, ?_⟩
    rintro i m σ' H' ⟨rfl, hle, Γ', A', n', R', S', hI⟩
    have st' := hs i Γ' A' hle hI
    by_cases hlt : i < it.n
    · refine .inr ⟨L.go i H' A' n' R' st' hlt, fun σ2 H2 => ∃ Γ2 A2, Nxt X.K H1 H2 ∧ RelA X.K H2 A2 ∧ Slots X.K H2 σ2 Γ2 ∧ Iv (i + 1) Γ2 A2, fun σ2 H2 ⟨Γ2, A2, q⟩ => ⟨it.n - (i + 1), by omega, rfl, hlt, Γ2, A2, q⟩, fun x H3 hy => ?_⟩
      obtain ⟨n3, R3, v3⟩ := L.yld i H' A' x H3 n' R' st' hlt hy
      refine hg.sim x _ σ' H3 Γ' A' _ _ R3 (S'.mono n3) v3 (hturn i Γ' A' hlt hI) fun σ4 H4 Γ4 A4 n4 R4 S4 h4 => ?_
      have n14 := (n'.trans n3).trans n4
      refine hb _ _ σ4 H4 Γ4 A4 R4 S4 h4 ⟨fun σ5 H5 Γ5 A5 n5 R5 S5 h5 => ⟨Γ5, A5, n14.trans n5, R5, S5, h5⟩, (k.mono (n1.trans n14)).rt, fun σ5 H5 Γ5 A5 n5 R5 S5 h5 => k.nx σ5 H5 Γ5 A5 ((n1.trans n14).trans n5) R5 S5 h5,
        fun σ5 H5 Γ5 A5 n5 R5 S5 h5 => ⟨Γ5, A5, n14.trans n5, R5, S5, h5⟩, (k.mono (n1.trans n14)).ex⟩
    · have e : i = it.n := by omega
      subst e
      exact .inl ⟨L.stop _ H' A' n' R' st' (Nat.le_refl _), k.nx σ' H' Γ' A' (n1.trans n') R' S' (hd Γ' A' hI)⟩) fun H' e A' n R' h' => k.ex e σ H' Γ A' n R' (S.mono n) h'
theorem gs_for (hp : PassesOwn (model X.prog X.w) X.A X.env X.xe) (hc : X.calm = true) (hi : PIA X W tg iter wi ai) (hg : PGA X tg g ag) (hb : PSsA X W body tb ab)
    (hs : ∀ x, foldedSetIterable iter X.env x = pure x := by intro _; rfl) : PSA X W (.For tg iter body [] pos) (tFor wi g tb) (aFor ai ag ab) :=
  ⟨ps_for hp hc hi.pe hg.pe hb.pe hs, sim_for0 hi.sim hg hb.sim⟩
/-! ### the walks -/
theorem getD_at {ds : List D} {i : Nat} (hi : i < ds.length) : ds.getD i .non = ds[i] := by
  rw [List.getD_eq_getElem?_getD, List.getElem?_eq_getElem hi]
  rfl
theorem loop_list {K : Fg} {H0 : Hp} {a : Addr} {ds : List D} : LoopOk K H0 (Itl K a) ⟨some (a, ds), ds.length, fun i => ds.getD i .non⟩ where
  go := fun i H A _ R st hi => by
    obtain ⟨vs, e, r⟩ := R.lst st
    obtain ⟨v, hv, _⟩ := r.get (i := i) (List.getElem?_eq_getElem hi)
    exact ⟨vs, v, SqL.of e, hv⟩
  yld := fun i H A x H' _ R st hi hy => by
    obtain ⟨rfl, y⟩ := hy
    obtain ⟨vs, e, r⟩ := R.lst st
    obtain ⟨v, hv, r1⟩ := r.get (i := i) (List.getElem?_eq_getElem hi)
    have := y vs (SqL.of e)
    rw [hv] at this
    cases this
    refine ⟨.rfl, R, ?_⟩
    show Val K _ _ (ds.getD i .non)
    rw [getD_at hi]
    exact r1
  stop := fun i H A _ R st hi => by
    obtain ⟨vs, e, r⟩ := R.lst st
    exact ⟨vs, SqL.of e, by rw [r.length]; exact hi⟩
theorem loop_tup {K : Fg} {a : Addr} {ds : List D} {vs : List V} {H0 : Hp} (h : SqT K H0 a vs) (hv : Vls K H0 vs ds) : LoopOk K H0 (Itt K a) ⟨none, ds.length, fun i => ds.getD i .non⟩ where
  go := fun i H A n R _ hi => by
    obtain ⟨v, e, _⟩ := hv.get (i := i) (List.getElem?_eq_getElem hi)
    exact ⟨vs, v, n.tp _ _ h, e⟩
  yld := fun i H A x H' n R _ hi hy => by
    obtain ⟨rfl, y⟩ := hy
    obtain ⟨v, e, r1⟩ := hv.get (i := i) (List.getElem?_eq_getElem hi)
    have := y vs (n.tp _ _ h)
    rw [e] at this
    cases this
    refine ⟨.rfl, R, ?_⟩
    show Val K _ _ (ds.getD i .non)
    rw [getD_at hi]
    exact r1.mono n
  stop := fun i H A n R _ hi => ⟨vs, n.tp _ _ h, by rw [hv.length]; exact hi⟩
theorem loop_fl {K : Fg} {a : Addr} {ds : List D} {vs : List V} {H0 : Hp} (h : ∃ o, H0 a = some (.frz o (.lst vs))) (hv : Vls K H0 vs ds) : LoopOk K H0 (Itl K a) ⟨none, ds.length, fun i => ds.getD i .non⟩ where
  go := fun i H A n R _ hi => by
    obtain ⟨v, e, _⟩ := hv.get (i := i) (List.getElem?_eq_getElem hi)
    obtain ⟨o, h⟩ := h
    exact ⟨vs, v, .inl (.inr ⟨o, n.fz _ _ _ h⟩), e⟩
  yld := fun i H A x H' n R _ hi hy => by
    obtain ⟨rfl, y⟩ := hy
    obtain ⟨v, e, r1⟩ := hv.get (i := i) (List.getElem?_eq_getElem hi)
    obtain ⟨o, h⟩ := h
    have := y vs (.inl (.inr ⟨o, n.fz _ _ _ h⟩))
    rw [e] at this
    cases this
    refine ⟨.rfl, R, ?_⟩
    show Val K _ _ (ds.getD i .non)
    rw [getD_at hi]
    exact r1.mono n
  stop := fun i H A n R _ hi => by
    obtain ⟨o, h⟩ := h
    exact ⟨vs, .inl (.inr ⟨o, n.fz _ _ _ h⟩), by rw [hv.length]; exact hi⟩
theorem loop_revF {K : Fg} {a : Addr} {ds : List D} {vs : List V} {H0 : Hp} (h : ∃ o, H0 a = some (.frz o (.lst vs))) (hv : Vls K H0 vs ds) : LoopOk K H0 (Itv K a ds.length) ⟨none, ds.length, fun i => ds.getD (ds.length - 1 - i) .non⟩ where
  go := fun i H A n R _ hi => by
    have hi : i < ds.length := hi
    obtain ⟨v, e, _⟩ := hv.get (i := ds.length - 1 - i) (List.getElem?_eq_getElem (by omega))
    obtain ⟨o, h⟩ := h
    exact ⟨hi, vs, v, .inl (.inr ⟨o, n.fz _ _ _ h⟩), e⟩
  yld := fun i H A x H' n R _ hi hy => by
    have hi : i < ds.length := hi
    obtain ⟨rfl, y⟩ := hy
    obtain ⟨v, e, r1⟩ := hv.get (i := ds.length - 1 - i) (List.getElem?_eq_getElem (by omega))
    obtain ⟨o, h⟩ := h
    have := y vs (.inl (.inr ⟨o, n.fz _ _ _ h⟩))
    rw [e] at this
    cases this
    refine ⟨.rfl, R, ?_⟩
    show Val K _ _ (ds.getD (ds.length - 1 - i) .non)
    rw [getD_at (by omega)]
    exact r1.mono n
  stop := fun i H A _ _ _ hi => hi
theorem loop_rng {K : Fg} {H0 : Hp} {lo : Int} {n : Nat} : LoopOk K H0 (Itr lo n) ⟨none, n, fun i => .int (lo + i)⟩ where
  go := fun i H A _ _ _ hi => hi
  yld := fun i H A x H' _ R _ hi hy => by
    obtain ⟨rfl, rfl⟩ := hy
    exact ⟨.rfl, R, .int _⟩
  stop := fun i H A _ _ _ hi => hi
theorem loop_str {K : Fg} {H0 : Hp} {x : Str} : LoopOk K H0 (Its x) ⟨none, (tl x).length, fun i => .str [(tl x).getD i 0]⟩ where
  go := fun i H A _ _ _ hi => by
    show i < x.cps.size
    simpa using hi
  yld := fun i H A z H' _ R _ hi hy => by
    obtain ⟨rfl, c, hc, rfl⟩ := hy
    refine ⟨.rfl, R, .strOf ?_⟩
    show [c] = [(tl x).getD i 0]
    have : (tl x)[i]? = some c := by rw [Array.getElem?_toList]; exact hc
    rw [List.getD_eq_getElem?_getD, this]
    rfl
  stop := fun i H A _ _ _ hi => by
    show x.cps.size ≤ i
    simpa using hi
theorem loop_rev {K : Fg} {H0 : Hp} {a : Addr} {ds : List D} : LoopOk K H0 (Itv K a ds.length) ⟨some (a, ds), ds.length, fun i => ds.getD (ds.length - 1 - i) .non⟩ where
  go := fun i H A _ R st hi => by
    have hi : i < ds.length := hi
    obtain ⟨vs, e, r⟩ := R.lst st
    obtain ⟨v, hv, _⟩ := r.get (i := ds.length - 1 - i) (List.getElem?_eq_getElem (by omega))
    exact ⟨hi, vs, v, SqL.of e, hv⟩
  yld := fun i H A x H' _ R st hi hy => by
    have hi : i < ds.length := hi
    obtain ⟨rfl, y⟩ := hy
    obtain ⟨vs, e, r⟩ := R.lst st
    obtain ⟨v, hv, r1⟩ := r.get (i := ds.length - 1 - i) (List.getElem?_eq_getElem (by omega))
    have := y vs (SqL.of e)
    rw [hv] at this
    cases this
    refine ⟨.rfl, R, ?_⟩
    show Val K _ _ (ds.getD (ds.length - 1 - i) .non)
    rw [getD_at (by omega)]
    exact r1
  stop := fun i H A _ _ _ hi => hi
theorem loop_revT {K : Fg} {a : Addr} {ds : List D} {vs : List V} {H0 : Hp} (h : SqT K H0 a vs) (hv : Vls K H0 vs ds) : LoopOk K H0 (RT.ItvT K a ds.length) ⟨none, ds.length, fun i => ds.getD (ds.length - 1 - i) .non⟩ where
  go := fun i H A n R _ hi => by
    have hi : i < ds.length := hi
    obtain ⟨v, e, _⟩ := hv.get (i := ds.length - 1 - i) (List.getElem?_eq_getElem (by omega))
    exact ⟨hi, vs, v, n.tp _ _ h, e⟩
  yld := fun i H A x H' n R _ hi hy => by
    have hi : i < ds.length := hi
    obtain ⟨rfl, y⟩ := hy
    obtain ⟨v, e, r1⟩ := hv.get (i := ds.length - 1 - i) (List.getElem?_eq_getElem (by omega))
    have := y vs (n.tp _ _ h)
    rw [e] at this
    cases this
    refine ⟨.rfl, R, ?_⟩
    show Val K _ _ (ds.getD (ds.length - 1 - i) .non)
    rw [getD_at (by omega)]
    exact r1.mono n
  stop := fun i H A _ _ _ hi => hi
/-- for x in a list | a tuple | a text: the three rules of the kind that stands there -/
def aIterL (a : AE) : AI := fun Γ A q x => a Γ A (fun d A1 => match d with
  | .ref a => onL A1 a fun ds => q ⟨some (a, ds), ds.length, fun i => ds.getD i .non⟩ A1
  | _ => False) x
theorem gi_list (h : PEA X W e te ae) : PIA X W tg e (iList X.K te) (aIterL ae) where
  pe := pi_list h.pe
  sim := fun σ H Γ A q x Q R S hh k kx => h.sim σ H Γ A _ x _ R S hh (fun H1 v d A1 n1 R1 v1 h1 => by
    cases d with
    | ref a =>
      obtain ⟨xs, ha, h1⟩ := onL_of h1
      obtain ⟨ws, e1, r1⟩ := R1.lst ha
      cases v1
      exact ⟨_, rfl, ⟨ws, SqL.of e1⟩, k H1 _ _ A1 n1 R1 loop_list ha h1⟩
    | _ => exact h1.elim) kx
def aIterT (a : AE) : AI := fun Γ A q x => a Γ A (fun d A1 => match d with
  | .tup ds => q ⟨none, ds.length, fun i => ds.getD i .non⟩ A1
  | _ => False) x
theorem gi_tup (h : PEA X W e te ae) : PIA X W tg e (iTup X.K te) (aIterT ae) where
  pe := pi_tup h.pe
  sim := fun σ H Γ A q x Q R S hh k kx => h.sim σ H Γ A _ x _ R S hh (fun H1 v d A1 n1 R1 v1 h1 => by
    cases d with
    | tup ds =>
      obtain ⟨p, vs, rfl, hp, hvs⟩ := v1.inv_tup
      exact ⟨_, rfl, ⟨vs, hp⟩, k H1 _ _ A1 n1 R1 (loop_tup hp hvs) trivial h1⟩
    | _ => exact h1.elim) kx
def aIterS (a : AE) : AI := fun Γ A q x => a Γ A (fun d A1 => match d with
  | .str cs => q ⟨none, cs.length, fun i => .str [cs.getD i 0]⟩ A1
  | _ => False) x
theorem gi_str (h : PEA X W e te ae) : PIA X W tg e (iStr te) (aIterS ae) where
  pe := pi_str h.pe
  sim := fun σ H Γ A q x Q R S hh k kx => h.sim σ H Γ A _ x _ R S hh (fun H1 v d A1 n1 R1 v1 h1 => by
    cases d with
    | str cs =>
      obtain ⟨z, rfl, rfl⟩ := v1.inv_str
      exact ⟨z, rfl, k H1 _ _ A1 n1 R1 loop_str trivial h1⟩
    | _ => exact h1.elim) kx
/-- either of three: a list, a tuple, a text -/
def aIter (a : AE) : AI := fun Γ A q x => a Γ A (fun d A1 => match d with
  | .ref a => onL A1 a fun ds => q ⟨some (a, ds), ds.length, fun i => ds.getD i .non⟩ A1
  | .tup ds => q ⟨none, ds.length, fun i => ds.getD i .non⟩ A1
  | .fl ds => q ⟨none, ds.length, fun i => ds.getD i .non⟩ A1
  | .str cs => q ⟨none, cs.length, fun i => .str [cs.getD i 0]⟩ A1
  | _ => False) x
def iSeq (K : Fg) (te : TE) : TI := fun σ H R => te σ H fun x H1 => (∃ a, x = .ref a ∧ (∃ xs, SqL K H1 a xs) ∧ R (Itl K a) H1) ∨ (∃ a, x = .ref a ∧ (∃ xs, SqT K H1 a xs) ∧ R (Itt K a) H1) ∨ ∃ z, x = .str z ∧ R (Its z) H1
theorem pi_seq {l : Expr} {tl' : TE} (hl : PE X l tl') : PI X tg l (iSeq X.K tl') := by
  refine ⟨fun pins s σ H R I h => thn (hl.run pins s σ H _ I h) ?_⟩
  rintro v s1 ⟨x, H1, J, r1, q⟩
  rcases q with ⟨a, rfl, ⟨xs, hq⟩, q⟩ | ⟨a, rfl, ⟨xs, hq⟩, q⟩ | ⟨z, rfl, q⟩
  · cases r1
    obtain ⟨its, rv, p, hz⟩ := J.list hq
    refine wpAny_pyIter_list p.isList ⟨s1.heap.objs.size, [s1.heap.objs.size], _, _, H1, rfl, ?_, turn_list a _, ⟨_, Heap.get?_push_size _ rfl, rfl, rfl⟩, ?_, q⟩
    · exact J.kept (t' := s1.toks) fun b o e => Heap.get?_push_of_some _ e
    · intro b hb
      obtain rfl : b = s1.heap.objs.size := by simpa using hb
      exact J.fpOk (Nat.le_refl _) (J.hok.fresh (Nat.le_refl _))
  · cases r1
    obtain ⟨its, rv, p, hz⟩ := J.tuple hq
    refine wpAny_pyIter_tuple p ⟨s1.heap.objs.size, [s1.heap.objs.size], _, _, H1, rfl, ?_, turn_tuple a _, ⟨_, Heap.get?_push_size _ rfl, rfl, rfl⟩, ?_, q⟩
    · exact J.kept (t' := s1.toks) fun b o e => Heap.get?_push_of_some _ e
    · intro b hb
      obtain rfl : b = s1.heap.objs.size := by simpa using hb
      exact J.fpOk (Nat.le_refl _) (J.hok.fresh (Nat.le_refl _))
  · obtain ⟨t, rfl⟩ := r1
    cases ha : z.cps.all (· < 128)
    · exact wpAny_pyIter_wide ha (pi_one (tk := s1.toks) J _ (turn_str _ z t "str_iterator" (.inr rfl)) ⟨_, Heap.get?_push_size _ rfl, rfl, rfl⟩ q)
    · exact wpAny_pyIter_ascii ha (pi_one (tk := s1.toks) J _ (turn_str _ z t "str_ascii_iterator" (.inl rfl)) ⟨_, Heap.get?_push_size _ rfl, rfl, rfl⟩ q)
theorem gi_seq (h : PEA X W e te ae) : PIA X W tg e (iSeq X.K te) (aIter ae) where
  pe := pi_seq h.pe
  sim := fun σ H Γ A q x Q R S hh k kx => h.sim σ H Γ A _ x _ R S hh (fun H1 v d A1 n1 R1 v1 h1 => by
    cases d with
    | ref a =>
      obtain ⟨xs, ha, h1⟩ := onL_of h1
      obtain ⟨ws, e1, r1⟩ := R1.lst ha
      cases v1
      exact .inl ⟨_, rfl, ⟨ws, SqL.of e1⟩, k H1 _ _ A1 n1 R1 loop_list ha h1⟩
    | tup ds =>
      obtain ⟨p, vs, rfl, hp, hvs⟩ := v1.inv_tup
      exact .inr (.inl ⟨_, rfl, ⟨vs, hp⟩, k H1 _ _ A1 n1 R1 (loop_tup hp hvs) trivial h1⟩)
    | fl ds =>
      obtain ⟨p, vs, rfl, hp, hvs, o⟩ := v1.inv_fl
      exact .inl ⟨_, rfl, ⟨vs, Rd.sq hp⟩, k H1 _ _ A1 n1 R1 (loop_fl o hvs) trivial h1⟩
    | str cs =>
      obtain ⟨z, rfl, rfl⟩ := v1.inv_str
      exact .inr (.inr ⟨z, rfl, k H1 _ _ A1 n1 R1 loop_str trivial h1⟩)
    | _ => exact h1.elim) kx
theorem p62 : (2 : Int) ^ 62 = 4611686018427387904 := by decide
def aRng1 (as : AA) : AI := fun Γ A q x => as Γ A (fun ds A1 => match ds with
  | [.int j] => (-4611686018427387904 ≤ j ∧ j < 4611686018427387904) ∧ q ⟨none, j.toNat, fun i => .int (0 + i)⟩ A1
  | _ => False) x
def aRng2 (as : AA) : AI := fun Γ A q x => as Γ A (fun ds A1 => match ds with
  | [.int i, .int j] => (-4611686018427387904 ≤ i ∧ i < 4611686018427387904 ∧ -4611686018427387904 ≤ j ∧ j < 4611686018427387904) ∧ q ⟨none, (j - i).toNat, fun k => .int (i + k)⟩ A1
  | _ => False) x
theorem sim_rng1 {K : Fg} {ta : TA} {aa : AA} (h : SimA K W ta aa) (σ : L2.St) (H : Hp) (Γ : Gt) (A : Ah) (q : ItA → Ah → Prop) (x : AX) (Q : It → Hp → Prop) (R : RelA K H A) (S : Slots K H σ Γ) (hh : aRng1 aa Γ A q x)
    (k : ∀ H' J it A', Nxt K H H' → RelA K H' A' → LoopOk K H' J it → it.still A' → q it A' → Q J H') (kx : ∀ H' e A', Nxt K H H' → RelA K H' A' → x e A' → W (exC K e) (some e.d) σ H') : iRng1 ta σ H Q :=
  h σ H Γ A _ x _ R S hh (fun H1 vs ds A1 n1 R1 v1 h1 => by
    split at h1
    · obtain ⟨v, rfl, hv⟩ := v1.one
      cases hv
      exact ⟨_, rfl, by rw [p62]; exact h1.1.1, by rw [p62]; exact h1.1.2, k H1 _ _ A1 n1 R1 loop_rng trivial h1.2⟩
    · exact h1.elim) kx
theorem gi_rng1 {ta : TA} {aa : AA} (h : PAA X W [e] ta aa) (hm : X.mg "range" = none) (hg : Gl X "range" := by rfl) (hs : starEach [e] X.env = [(false, eval e X.env)] := by rfl) :
    PIA X W tg (.Call (.Name "range" p) [e] [] pos) (iRng1 ta) (aRng1 aa) := ⟨pi_range1 hg hm h.pe hs, sim_rng1 h.sim⟩
theorem gi_rng2 {e' : Expr} {ta : TA} {aa : AA} (h : PAA X W [e, e'] ta aa) (hm : X.mg "range" = none) (hg : Gl X "range" := by rfl) (hs : starEach [e, e'] X.env = [(false, eval e X.env), (false, eval e' X.env)] := by rfl) (hs2 : starEach [e'] X.env = [(false, eval e' X.env)] := by rfl) :
    PIA X W tg (.Call (.Name "range" p) [e, e'] [] pos) (iRng2 ta) (aRng2 aa) where
  pe := pi_range2 hg hm h.pe hs hs2
  sim := fun σ H Γ A q x Q R S hh k kx => h.sim σ H Γ A _ x _ R S hh (fun H1 vs ds A1 n1 R1 v1 h1 => by
    split at h1
    · obtain ⟨v, w, rfl, hv, hw⟩ := v1.two
      cases hv; cases hw
      exact ⟨_, _, rfl, by rw [p62]; exact h1.1, k H1 _ _ A1 n1 R1 loop_rng trivial h1.2⟩
    · exact h1.elim) kx
def aRev (a : AE) : AI := fun Γ A q x => a Γ A (fun d A1 => match d with
  | .ref a => onL A1 a fun ds => q ⟨some (a, ds), ds.length, fun i => ds.getD (ds.length - 1 - i) .non⟩ A1
  | .tup ds => q ⟨none, ds.length, fun i => ds.getD (ds.length - 1 - i) .non⟩ A1
  | .fl ds => q ⟨none, ds.length, fun i => ds.getD (ds.length - 1 - i) .non⟩ A1
  | _ => False) x
theorem gi_rev (h : PEA X W e te ae) (hm : X.mg "reversed" = none) (hg : Gl X "reversed" := by rfl) (hs : starEach [e] X.env = (false, eval e X.env) :: starEach [] X.env := by rfl) :
    PIA X W tg (.Call (.Name "reversed" p) [e] [] pos) (RT.iRevA X.K te) (aRev ae) where
  pe := RT.pi_revA hg hm h.pe hs
  sim := fun σ H Γ A q x Q R S hh k kx => h.sim σ H Γ A _ x _ R S hh (fun H1 v d A1 n1 R1 v1 h1 => by
    cases d with
    | ref a =>
      obtain ⟨xs, ha, h1⟩ := onL_of h1
      obtain ⟨ws, e1, r1⟩ := R1.lst ha
      cases v1
      have hl := r1.length
      exact ⟨_, ws, rfl, .inl ⟨SqL.of e1, by rw [hl]; exact k H1 _ _ A1 n1 R1 loop_rev ha h1⟩⟩
    | tup ds =>
      obtain ⟨p, vs, rfl, hp, hvs⟩ := v1.inv_tup
      have hl := hvs.length
      exact ⟨_, vs, rfl, .inr ⟨hp, by rw [hl]; exact k H1 _ _ A1 n1 R1 (loop_revT hp hvs) trivial h1⟩⟩
    | fl ds =>
      obtain ⟨p, vs, rfl, hp, hvs, o⟩ := v1.inv_fl
      have hl := hvs.length
      exact ⟨_, vs, rfl, .inl ⟨Rd.sq hp, by rw [hl]; exact k H1 _ _ A1 n1 R1 (loop_revF o hvs) trivial h1⟩⟩
    | _ => exact h1.elim) kx
/-! ### while -/
def aWhile (c : AT) (tb : AS) : AS := fun D Γ A => ∃ Iv : Nat → Gt → Ah → Prop, (∃ m, Iv m Γ A) ∧ ∀ m Γ' A', Iv m Γ' A' →
  c Γ' A' (fun b A1 => bsel b (tb { D with nx := fun Γ2 A2 => ∃ m', m' < m ∧ Iv m' Γ2 A2, ct := fun Γ2 A2 => ∃ m', m' < m ∧ Iv m' Γ2 A2, bk := D.nx } Γ' A1) (D.nx Γ' A1)) fun e A1 => D.ex e Γ' A1
end
end GA

namespace GA
open PySem PySem.Spec PyProof.Rows L2 GV TL
section
variable {X : Cx} {W : WX} {c e : Expr} {es : List Expr} {body suite : List Stmt} {b₀ : Stmt} {tc : TT} {ac : AT} {tb : TS} {ab : AS} {t : TA} {at_ : AA} {pos p np pos' : Pos}
theorem gs_while (hp : PassesOwn (model X.prog X.w) X.A X.env X.xe) (hc : PTA X W c tc ac) (hb : PSsA X W body tb ab) : PSA X W (.While c body [] pos) (tWhile tc tb) (aWhile ac ab) where
  pe := ps_while hp hc.pe hb.pe
  sim := fun D AD σ H Γ A R S ⟨Iv, ⟨m0, h0⟩, turn⟩ k => by
    refine ⟨fun m σ' H' => ∃ Γ' A', Nxt X.K H H' ∧ RelA X.K H' A' ∧ Slots X.K H' σ' Γ' ∧ Iv m Γ' A', ⟨m0, Γ, A, .rfl, R, S, h0⟩, ?_⟩
    rintro m σ' H' ⟨Γ', A', n', R', S', hI⟩
    refine hc.sim σ' H' Γ' A' _ _ _ R' S' (turn m Γ' A' hI) (fun H1 b A1 n1 R1 h1 => ?_) fun H1 e A1 n1 R1 h1 => k.ex e σ' H1 Γ' A1 (n'.trans n1) R1 (S'.mono n1) h1
    have n01 := n'.trans n1
    cases b with
    | true =>
      refine ⟨fun σ2 H2 => ∃ Γ2 A2, Nxt X.K H H2 ∧ RelA X.K H2 A2 ∧ Slots X.K H2 σ2 Γ2 ∧ ∃ m', m' < m ∧ Iv m' Γ2 A2, fun σ2 H2 ⟨Γ2, A2, a1, a2, a3, m', hm, a4⟩ => ⟨m', hm, Γ2, A2, a1, a2, a3, a4⟩, ?_⟩
      exact hb.sim _ _ σ' H1 Γ' A1 R1 (S'.mono n1) (h1.1 rfl) ⟨fun σ5 H5 Γ5 A5 n5 R5 S5 h5 => ⟨Γ5, A5, n01.trans n5, R5, S5, h5⟩, (k.mono n01).rt, fun σ5 H5 Γ5 A5 n5 R5 S5 h5 => k.nx σ5 H5 Γ5 A5 (n01.trans n5) R5 S5 h5,
        fun σ5 H5 Γ5 A5 n5 R5 S5 h5 => ⟨Γ5, A5, n01.trans n5, R5, S5, h5⟩, (k.mono n01).ex⟩
    | false => exact k.nx σ' H1 Γ' A1 n01 R1 (S'.mono n1) (h1.2 rfl)
/-! ### raise -/
/-- what the text says of an own exception class: its name, its fields -/
structure ExcT0 (P : Program) (w : World) (K : Fg) (mg : Str → Option Value) (base : Heap) (x : Str) (ns : List Str) : Prop where
  n9 : ns.length ≤ 900
  gm : mg x = some (.ref (He.ga K x))
  oc : OexC K (He.ga K x)
  ex : ∃ (fI : Addr) (fd : FuncData) (ps : List Str), PySem.W.findIn K (.ref (He.ga K x)) "__init__" = some (some (.ref fI)) ∧ PySem.W.typeIn K (.ref fI) = some (.type "function") ∧
    FnOk P w K mg base (L2N.CX P w) 1 fI fd ps (spI (He.ga K x) ns) ∧ Binds K fd ps []
abbrev ExcT (X : Cx) (x : Str) (ns : List Str) : Prop := ExcT0 X.prog X.w X.K X.mg X.base x ns
def aRaise (x : Str) (ns : List Str) (as : AA) : AS := fun D Γ A => as Γ A (fun ds A1 => ds.length = ns.length ∧ ∀ d, A1 d = none → D.ex ⟨x, d⟩ Γ (updA A1 d (.xd (ns.zip ds).reverse))) fun e A' => D.ex e Γ A'
theorem zip_ok {K : Fg} {H : Hp} : ∀ {ns : List Str} {vs : List V} {ds : List D}, Vls K H vs ds → Paired (fun (p : Str × V) (q : Str × D) => p.1 = q.1 ∧ Val K H p.2 q.2) (ns.zip vs) (ns.zip ds)
  | [], _, _, _ => .nil
  | _ :: _, _, _, .nil => .nil
  | n :: ns, _, _, .cons h t => .cons ⟨rfl, h⟩ (zip_ok t)
theorem paired_app {α β : Type} {F : α → β → Prop} : ∀ {a : List α} {b : List β} {c : List α} {d : List β}, Paired F a b → Paired F c d → Paired F (a ++ c) (b ++ d)
  | _, _, _, _, .nil, h => h
  | _, _, _, _, .cons r t, h => .cons r (paired_app t h)
theorem paired_rev {α β : Type} {F : α → β → Prop} : ∀ {a : List α} {b : List β}, Paired F a b → Paired F a.reverse b.reverse
  | _, _, .nil => .nil
  | _, _, .cons r t => by
    rw [List.reverse_cons, List.reverse_cons]
    exact paired_app (paired_rev t) (.cons r .nil)
theorem far {K : Fg} {H Hf : Hp} {A : Ah} {d : Addr} {o : HO} {c : Cell} (R : RelA K H A) (hd : H d = none) (he : Hf d = some o) (keep : ∀ b o, H b = some o → Hf b = some o) (hc : CellOk K H c o) : Nxt K H Hf ∧ RelA K Hf (updA A d c) := by
  have n : Nxt K H Hf := by
    refine ⟨fun a xs hs => ?_, fun a o u hs => keep _ _ hs⟩
    rcases hs with hs | hs
    · refine .inl ?_
      rcases hs with hs | ⟨ob, hs⟩
      · exact .inl (keep _ _ hs)
      · exact .inr ⟨ob, keep _ _ hs⟩
    · exact .inr hs
  refine ⟨n, fun a c' e => ?_⟩
  by_cases had : a = d
  · subst had
    rw [updA_same] at e
    cases e
    exact ⟨o, he, hc.mono n⟩
  · rw [updA_ne had] at e
    obtain ⟨o', h1, h2⟩ := R a c' e
    exact ⟨o', keep _ _ h1, h2.mono n⟩
theorem gs_raise {x : Str} {ns : List Str} (T : ExcT X x ns) (hr : Room 2 X.A) (hc : X.calm = true) (tk : L2N.Takes X W) (ha : PAA X W (e :: es) t at_) (hg : Gl X x := by rfl) (hdb : (x == ("__debug__" : Str)) = false := by decide)
    (he : starEach (e :: es) X.env = (false, eval e X.env) :: starEach es X.env := by rfl) (hpl : (backTo pos (starEach es X.env)).any (·.1) = false := by rfl) :
    PSA X W (.Raise (some (.Call (.Name x p) (e :: es) [] pos)) none pos') (fun _ σ H => tMkO (He.ga X.K x) (spI (He.ga X.K x) ns) [] t σ H fun cls d H' => W cls d σ H') (aRaise x ns at_) := by
  obtain ⟨fI, fd, ps, iC, tI, F, hb⟩ := T.ex
  refine ⟨L2N.ps_raise hc tk (pmk_oexN T.oc iC tI F hr hb (L2N.passes_call tk fun _ _ _ _ z => z.elim) hg T.gm ha.pe hdb he hpl), ?_⟩
  intro D AD σ H Γ A R S hh k
  refine ha.sim σ H Γ A _ _ _ R S hh (fun H1 vs ds A1 n1 R1 v1 h1 => ?_) fun H' e A' n R' h' => k.ex e σ H' Γ A' n R' (S.mono n) h'
  refine mkO_pt (C := He.ga X.K x) (H1 := H1) (Q := fun cls d H' => W cls d σ H') T.n9 (by rw [v1.length]; exact h1.1) fun d Hf hd1 hf keep => ?_
  obtain ⟨nf, Rf⟩ := far R1 hd1 hf keep (.xd (paired_rev (zip_ok v1)))
  exact k.ex ⟨x, d⟩ σ Hf Γ _ (n1.trans nf) Rf (S.mono (n1.trans nf)) (h1.2 d (RelA.none R1 hd1))
/-! ### try: body / except GrantError as n: suite -/
theorem takesF {X : Cx} : L2N.Takes X WF := fun _ _ ⟨_, _, _, _, _, _, _, _, _, _, _, _, _, _, _, _, w⟩ => w.elim
/-- n: the clause's name in slot i; names: the classes that it is known to catch -/
def aTry (names : List Str) (i : Nat) (tb : AS) (su : Addr → Exn → AS) : AS := fun D Γ A => tb { D with ex := fun e Γ' A' => (e.cls ∈ names ∧ ∀ a, A' a = none → su a e ⟨fun Γ2 A2 => D.nx (Γ2.set i none) A2, D.rt, fun Γ2 A2 => D.bk (Γ2.set i none) A2, fun Γ2 A2 => D.ct (Γ2.set i none) A2, fun _ _ _ => False⟩ (Γ'.set i (some (.ref a))) A') } Γ A
/-- a plain exception object -/
def o0 (K : Fg) (e : Exn) : Obj := { cls := exC K e, dict := some e.d, data := .fields #[.none, .none, .none] }
def x0 : Value → Shared → Prop := fun _ _ => True
theorem gs_try {x n : Str} {i : Nat} {names : List Str} {tb : WX → List (Addr × Obj) → (Value → Shared → Prop) → TS} {ts : Addr → Obj → Exn → List (Addr × Obj) → TS} {su : Addr → Exn → AS} (hs : X.stack = X.env :: X.outer) (hf : X.env.frame = some X.env.locals) (hN : X.N.Nodup) (hi : X.N[i]? = some n) (hln : X.env.kindOf n = some .local)
    (hcn : Names X x (.ref (He.ga X.K x))) (hx : ∀ m ∈ names, PySem.W.exmOne X.K (.ref (He.ga X.K m)) (.ref (He.ga X.K x)) = some true) (tk : L2N.Takes X WF)
    (hb : ∀ (W : WX) (pn : List (Addr × Obj)) (xe : Value → Shared → Prop), L2N.Takes (X.tr pn xe) W → PassesOwn (model X.prog X.w) X.A X.env xe → PSsA (X.tr pn xe) W body (tb W pn xe) ab)
    
    (hsu : ∀ (a : Addr) (oe : Obj) (e : Exn) (pn : List (Addr × Obj)), e.cls ∈ names → L2N.Zn (exC X.K e) (some e.d) oe → (∃ vs, oe.data = .fields vs) → PSsA (X.suite a ((a, oe) :: pn)) WF (b₀ :: suite) (ts a oe e pn) (su a e))
    (hts : ∀ (a : Addr) (oe : Obj) (e : Exn) (pn : List (Addr × Obj)), ts a oe e pn = ts a (o0 X.K e) e [] := by intros; rfl) (htb : ∀ (W : WX) (pn : List (Addr × Obj)) (xe : Value → Shared → Prop), tb W pn xe = tb W [] x0 := by intros; rfl) :
    PSA X W (.Try body [.ExceptHandler (some (.Name x np)) (some n) (b₀ :: suite) pos'] [] [] pos)
      (fun D σ H => tb (wAs X.K (.ref (He.ga X.K x)) i (fun a cls d D σ H => ∃ e, cls = exC X.K e ∧ d = some e.d ∧ e.cls ∈ names ∧ ts a (o0 X.K e) e [] D σ H) WF D) [] x0 D σ H) (aTry names i ab su) where
  pe := L2N.ps_try_as hs hf hN hi hln hcn tk (fun W pn xe tk' ps => htb W pn xe ▸ (hb W pn xe tk' ps).pe) fun a oe cls d pn hz hf' => by
    refine ⟨fun pins s σ H D I h => ?_⟩
    obtain ⟨e, rfl, rfl, hm, h⟩ := h
    rw [← hts a oe e pn] at h
    exact (hsu a oe e pn hm hz hf').pe.run pins s σ H D I h
  sim := fun D AD σ H Γ A R S hh k => by
    have hbs : ∀ W : WX, SimS X.K W (tb W [] x0) ab := fun W => htb W [] _ ▸ (hb W [] (fun e s₁ => wpAny (model X.prog X.w) X.A (noteFrame e X.env) (fun _ s₂ => wpAny (model X.prog X.w) X.A (setFlight e none) (fun _ _ => True) X.xe s₂) X.xe s₁)
      (fun u s' ⟨a, B, sI, pins, σ, H, cls, d, eu, I, nb, up, sky, na, os, ag, w⟩ => by
        subst eu
        have hfr : X.A.frames = some (X.env :: X.outer) := by
          rw [← hs]
          exact I.ok.frames
        have sky' : Sky B (X.env :: X.outer) a (L2N.Zn cls d) X.env.locals s'.heap := by rw [← hs]; exact sky
        exact L2N.Sky.land L2N.Zn.steady hfr hf sky' fun _ _ _ => trivial) PassesOwn.looking).sim
    refine hbs _ D { AD with ex := fun e Γ' A' => (e.cls ∈ names ∧ ∀ a, A' a = none → su a e ⟨fun Γ2 A2 => AD.nx (Γ2.set i none) A2, AD.rt, fun Γ2 A2 => AD.bk (Γ2.set i none) A2, fun Γ2 A2 => AD.ct (Γ2.set i none) A2, fun _ _ _ => False⟩ (Γ'.set i (some (.ref a))) A') } σ H Γ A R S hh ⟨k.nx, k.rt, k.bk, k.ct, fun e σ' H' Γ' A' n' R' S' ⟨hm, h'⟩ => ?_⟩
    have hss : ∀ a e, e.cls ∈ names → SimS X.K WF (ts a (o0 X.K e) e []) (su a e) := fun a e hm => (hsu a (o0 X.K e) e [] hm ⟨rfl, rfl, fun vs hv => by cases hv; rfl⟩ ⟨_, rfl⟩).sim
    refine ⟨true, hx _ hm, fun _ a ha => ⟨e, rfl, rfl, hm, ?_⟩, fun z => Bool.noConfusion z⟩
    refine hss a e hm _ _ _ H' _ A' R' (S'.set (.ref a)) (h' a (RelA.none R' ha)) ⟨fun σ2 H2 Γ2 A2 n2 R2 S2 h2 => k.nx _ H2 _ A2 (n'.trans n2) R2 S2.unset h2, (k.mono n').rt, fun σ2 H2 Γ2 A2 n2 R2 S2 h2 => k.bk _ H2 _ A2 (n'.trans n2) R2 S2.unset h2,
      fun σ2 H2 Γ2 A2 n2 R2 S2 h2 => k.ct _ H2 _ A2 (n'.trans n2) R2 S2.unset h2, fun _ _ _ _ _ _ _ _ z => z.elim⟩
end
/-! ### a def's body -/
section
variable {P : Program} {w : World} {K : Fg} {mg : Str → Option Value} {base : Heap}
def startA (N : List Str) (ds : List D) : Gt := ds.map some ++ List.replicate (N.length - ds.length) none
theorem start_ok {H : Hp} {N : List Str} {vs : List V} {ds : List D} (h : Vls K H vs ds) : Slots K H (L2.start N vs) (startA N ds) := by
  refine ⟨by simp [L2.start, startA, h.length], fun i d e => ?_⟩
  unfold startA at e
  by_cases hi : i < ds.length
  · rw [List.getElem?_append_left (by simpa using hi), List.getElem?_map] at e
    cases q : ds[i]? with
    | none => rw [q] at e; cases e
    | some d' =>
      rw [q] at e
      cases e
      obtain ⟨v, hv, r⟩ := h.get q
      refine ⟨v, ?_, r⟩
      unfold L2.start
      rw [List.getElem?_append_left (by simp [h.length]; exact hi), List.getElem?_map, hv]
      rfl
  · rw [List.getElem?_append_right (by simpa using hi), List.getElem?_replicate] at e
    split at e <;> cases e
abbrev endsA (q : D → Ah → Prop) (x : AX) : AEnds := { nx := fun _ A => q .non A, rt := q, bk := fun _ _ => False, ct := fun _ _ => False, ex := fun e _ A => x e A }
/-- THE RULE for a def: its body's term, its body's abstract reading -/
theorem fnA_of {x qual : Str} {params : Arguments} {body : List Stmt} {scope : Scope} {dvs : List V} {kws : List (Str × V)} {f : Addr} {fd : FuncData} {N ps : List Str} {k : Nat} {sp : ASp} {as : AS}
    (F : FunD K x qual params body scope dvs kws f fd) (S : FnScope N ps scope) (len : ∀ ds A q e, sp ds A q e → ds.length = ps.length)
    (hbody : ∀ (cdv : Value) (A : Around) (outer : List Env) (s : Shared) (H : Hp) (E : XK), Room k (A.deeper (envOfC qual scope s.heap.objs.size f cdv)) →
      L2N.Takes (cxOf (L2N.CX P w) P w K mg base N qual scope f cdv A outer s H E) (fun cls d _ H => E cls d H) →
      PassesOwn (model P w) (A.deeper (envOfC qual scope s.heap.objs.size f cdv)) (envOfC qual scope s.heap.objs.size f cdv) (cxOf (L2N.CX P w) P w K mg base N qual scope f cdv A outer s H E).xe →
      ∃ ts, PSsA (cxOf (L2N.CX P w) P w K mg base N qual scope f cdv A outer s H E) (fun cls d _ H => E cls d H) body ts as)
    (pure : ∀ ds A q x, sp ds A q x → as (endsA q x) (startA N ds) A) : FnA P w K mg base (k + 1) f fd ps sp := by
  refine F.ok S (fun vs H Q E h => ?_) (fun cdv A outer s H vs Q E hr h => ?_)
  · obtain ⟨A, ds, q, x, _, hv, hs, _⟩ := h
    rw [hv.length]
    exact len _ _ _ _ hs
  · obtain ⟨Ab, ds, q, x, R, hv, hs, hq, hx⟩ := h
    obtain ⟨ts, T⟩ := hbody cdv A outer s H E hr (L2N.takes_of rfl rfl rfl rfl) (passes_of rfl)
    refine ⟨ts, T.pe, ?_⟩
    refine T.sim _ _ _ H _ Ab R (start_ok hv) (pure ds Ab q x hs) ⟨fun σ' H' Γ' A' n R' _ h' => hq H' .non .non A' n R' .non h', fun v H' d A' n R' v' h' => hq H' v d A' n R' v' h', fun _ _ _ _ _ _ _ h => h.elim, fun _ _ _ _ _ _ _ h => h.elim, fun e σ' H' Γ' A' n R' _ h' => hx H' e A' n R' h'⟩
/-! ### hot defs: called within an except suite, the handled exception may be handed in -/
abbrev HSp := Addr → Exn → ASp
def liftH (K : Fg) (cl : List Str) (sp : HSp) : Addr × Obj → Sp := fun p vs H Q E => ∃ e, e.cls ∈ cl ∧ L2N.Zn (exC K e) (some e.d) p.2 ∧ (∃ vs, p.2.data = .fields vs) ∧ lift K (sp p.1 e) vs H Q E
theorem fnH_of {cl : List Str} {x qual : Str} {params : Arguments} {body : List Stmt} {scope : Scope} {dvs : List V} {kws : List (Str × V)} {f : Addr} {fd : FuncData} {N ps : List Str} {k : Nat} {sp : HSp} {as : Addr → Exn → AS}
    (F : FunD K x qual params body scope dvs kws f fd) (S : FnScope N ps scope) (len : ∀ a e ds A q x, sp a e ds A q x → ds.length = ps.length)
    (hbody : ∀ (cdv : Value) (A : Around) (outer : List Env) (s : Shared) (H : Hp) (E : XK) (p : Addr × Obj) (e : Exn), e.cls ∈ cl → L2H.Hot1 A p → L2N.Zn (exC K e) (some e.d) p.2 → (∃ vs, p.2.data = .fields vs) → L2H.RoomH k (A.deeper (envOfC qual scope s.heap.objs.size f cdv)) →
      L2N.Takes (L2H.cxH (L2N.CX P w) P w K mg base N qual scope f cdv A outer s H E p) (fun cls d _ H => E cls d H) →
      PassesOwn (model P w) (A.deeper (envOfC qual scope s.heap.objs.size f cdv)) (envOfC qual scope s.heap.objs.size f cdv) (L2H.cxH (L2N.CX P w) P w K mg base N qual scope f cdv A outer s H E p).xe →
      ∃ ts, PSsA (L2H.cxH (L2N.CX P w) P w K mg base N qual scope f cdv A outer s H E p) (fun cls d _ H => E cls d H) body ts (as p.1 e))
    (pure : ∀ a e ds A q x, sp a e ds A q x → as a e (endsA q x) (startA N ds) A) : FnE P w K mg base (L2N.CX P w) (k + 1) f fd ps (liftH K cl sp) := by
  refine fnE_of F S (fun p vs H Q E h => ?_) (fun cdv A outer s H vs Q E p hot hr h => ?_)
  · obtain ⟨_, _, _, _, A, ds, q, x, _, hv, hs, _⟩ := h
    rw [hv.length]
    exact len _ _ _ _ _ _ hs
  · obtain ⟨e, hcl, hz, hf, Ab, ds, q, x, R, hv, hs, hq, hx⟩ := h
    obtain ⟨ts, T⟩ := hbody cdv A outer s H E p e hcl hot hz hf hr (L2N.takes_of rfl rfl rfl rfl) (passes_of rfl)
    refine ⟨ts, T.pe, ?_⟩
    refine T.sim _ _ _ H _ Ab R (start_ok hv) (pure p.1 e ds Ab q x hs) ⟨fun σ' H' Γ' A' n R' _ h' => hq H' .non .non A' n R' .non h', fun v H' d A' n R' v' h' => hq H' v d A' n R' v' h', fun _ _ _ _ _ _ _ h => h.elim, fun _ _ _ _ _ _ _ h => h.elim, fun e σ' H' Γ' A' n R' _ h' => hx H' e A' n R' h'⟩
end
/-- what the text says of a hot def -/
structure FnH0 (P : Program) (w : World) (K : Fg) (mg : Str → Option Value) (base : Heap) (cl : List Str) (x : Str) (k : Nat) (sp : HSp) : Prop where
  ex : ∃ (f : Addr) (fd : FuncData) (ps : List Str), FnE P w K mg base (L2N.CX P w) k f fd ps (liftH K cl sp) ∧ mg x = some (.ref f) ∧ PySem.W.keepIn K (.ref f) = true ∧ Binds K fd ps []
abbrev FndH (X : Cx) (cl : List Str) (x : Str) (k : Nat) (sp : HSp) : Prop := FnH0 X.prog X.w X.K X.mg X.base cl x k sp
section
variable {X : Cx} {W : WX} {e : Expr} {es : List Expr} {t : TA} {at_ : AA} {pos p : Pos} {a : Addr} {oe : Obj} {ε : Exn}
theorem hot_suite (hz : L2N.Zn (exC X.K ε) (some ε.d) oe) (hf : ∃ vs, oe.data = .fields vs) {pn : List (Addr × Obj)} : L2H.Hot1 (X.suite a pn).A (a, oe) := by
  obtain ⟨vs, hd⟩ := hf
  exact ⟨rfl, vs, hd, hz.2.2 vs hd⟩
theorem PE.imp {e : Expr} {t t' : TE} (h : PE X e t) (i : ∀ σ H Q, t' σ H Q → t σ H Q) : PE X e t' := ⟨fun pins s σ H Q I q => h.run pins s σ H Q I (i σ H Q q)⟩
theorem gh_call {cl : List Str} {k j : Nat} {x : Str} {sp : HSp} (F : FndH X cl x k sp) (hcl : ε.cls ∈ cl) (hr : L2H.RoomH j X.A) (hj : k ≤ j) (hot : L2H.Hot1 X.A (a, oe)) (hp : (a, oe) ∈ X.pn) (hz : L2N.Zn (exC X.K ε) (some ε.d) oe) (hf : ∃ vs, oe.data = .fields vs) (tk : L2N.Takes X W)
    (ha : PAA X W (e :: es) t at_) (hg : Gl X x := by rfl) (hdb : (x == ("__debug__" : Str)) = false := by decide)
    (he : starEach (e :: es) X.env = (false, eval e X.env) :: starEach es X.env := by rfl) (hpl : (backTo pos (starEach es X.env)).any (·.1) = false := by rfl) :
    PEA X W (.Call (.Name x p) (e :: es) [] pos) (tCallS (lift X.K (sp a ε)) (WE W) t) (aCall (sp a ε) at_) := by
  obtain ⟨f, fd, ps, F, hmg, hk, hb⟩ := F.ex
  exact ⟨pe_callE F (hr.mono hj) hot hp (fun vs H Q E h => ⟨ε, hcl, hz, hf, h⟩) hg hmg hk hb (fun σ => L2N.passAt tk σ) ha.pe hdb he hpl, sim_call ha.sim⟩
/-- isinstance(e, ..) of the handled exception -/
def aIsE (K : Fg) (a : Addr) (ε : Exn) : A1c := fun ds A q => (∃ fs, A ε.d = some (.xd fs)) ∧ match ds with
  | [.ref a', .ref D] => a' = a ∧ ∃ b, PySem.W.kitOne K (exC K ε) (.ref D) = some b ∧ q (.bl b) A
  | [.ref a', .ty T] => a' = a ∧ ∃ b, PySem.W.kitOne K (exC K ε) (.type T) = some b ∧ q (.bl b) A
  | [.ref a', .tup ds] => a' = a ∧ ∃ (Ds : List Addr) (b : Bool), ds = Ds.map D.ref ∧ PySem.W.kitAny K (exC K ε) (Ds.map Value.ref) = some b ∧ q (.bl b) A
  | _ => False
theorem vls_refs {K : Fg} {H : Hp} : ∀ {Ds : List Addr} {vs : List V}, Vls K H vs (Ds.map D.ref) → vs = Ds.map V.ref
  | [], _, .nil => rfl
  | a :: r, _, .cons h t => by
    cases h
    rw [vls_refs t]
    rfl
theorem sim_isE {K : Fg} : SimC K (GV.rIsE K (He.ga K ε.cls) a ε.d) (aIsE K a ε) := by
  intro H A vs ds q Q R hv h k
  obtain ⟨⟨fs, e1⟩, h⟩ := h
  obtain ⟨o, e2, e3⟩ := R _ _ e1
  cases e3
  refine ⟨⟨_, e2⟩, ?_⟩
  split at h
  · obtain ⟨v, w, rfl, h1, h2⟩ := hv.two
    cases h1; cases h2
    obtain ⟨rfl, b, g1, g2⟩ := h
    exact .inl ⟨_, b, rfl, g1, k H _ _ A .rfl R (.bl _) g2⟩
  · obtain ⟨v, w, rfl, h1, h2⟩ := hv.two
    cases h1; cases h2
    obtain ⟨rfl, b, g1, g2⟩ := h
    exact .inr (.inl ⟨_, b, rfl, g1, k H _ _ A .rfl R (.bl _) g2⟩)
  · obtain ⟨v, w, rfl, h1, h2⟩ := hv.two
    cases h1
    obtain ⟨rfl, Ds, b, rfl, g1, g2⟩ := h
    obtain ⟨t, us, rfl, ht, hus⟩ := h2.inv_tup
    have := vls_refs hus
    subst this
    exact .inr (.inr ⟨t, Ds, b, rfl, ht, g1, k H _ _ A .rfl R (.bl _) g2⟩)
  · exact h.elim
theorem ba_isE (T : EC X.K (He.ga X.K ε.cls)) (hz : L2N.Zn (exC X.K ε) (some ε.d) oe) (hf : ∃ vs, oe.data = .fields vs) (hp : (a, oe) ∈ X.pn) : BltA X (.builtin "isinstance") (GV.rIsE X.K (He.ga X.K ε.cls) a ε.d) (aIsE X.K a ε) := ⟨call_isE T hz hf hp, sim_isE⟩
/-- e.n -/
def aXf (a : Addr) (ε : Exn) (n : Str) (o : AE) : AE := fun Γ A q x => o Γ A (fun d A1 => match d with
  | .ref a' => a' = a ∧ ∃ fs, A1 ε.d = some (.xd fs) ∧ ∃ f, fs.lookup n = some f ∧ q f A1
  | _ => False) x
theorem lookup_ok {K : Fg} {H : Hp} {n : Str} : ∀ {ws : List (Str × V)} {fs : List (Str × D)} {f : D}, Paired (fun (p : Str × V) (q : Str × D) => p.1 = q.1 ∧ Val K H p.2 q.2) ws fs → fs.lookup n = some f → ∃ v, ws.lookup n = some v ∧ Val K H v f
  | _, _, _, .nil, e => by cases e
  | (m, v) :: ws, (m', d) :: fs, f, .cons ⟨h1, h2⟩ t, e => by
    dsimp only at h1
    subst h1
    rw [List.lookup_cons] at e ⊢
    cases hm : n == m with
    | true => rw [hm] at e; cases e; exact ⟨v, rfl, h2⟩
    | false => rw [hm] at e; exact lookup_ok t e
theorem gh_fld {o : Expr} {to : TE} {ao : AE} {n : Str} (T : XfC X.K (He.ga X.K ε.cls)) (hno : PySem.W.findIn X.K (.ref (He.ga X.K ε.cls)) n = some none) (hz : L2N.Zn (exC X.K ε) (some ε.d) oe) (hf : ∃ vs, oe.data = .fields vs) (hp : (a, oe) ∈ X.pn)
    (ho : PEA X W o to ao) (hb : attributeBase o n X.env (eval o X.env) = eval o X.env := by rfl) : PEA X W (.Attribute o n pos) (tXf a (exC X.K ε) (some ε.d) (He.ga X.K ε.cls) n to) (aXf a ε n ao) where
  pe := pe_xfP T hno hz hf hp ho.pe hb
  sim := fun σ H Γ A q x Q R S hh k kx => ho.sim σ H Γ A _ x _ R S hh (fun H1 v d A1 n1 R1 v1 h1 => by
    split at h1
    · obtain ⟨rfl, fs, e1, f, hl, h1⟩ := h1
      obtain ⟨o, e2, e3⟩ := R1 _ _ e1
      cases e3 with
      | xd hp' =>
        obtain ⟨w, hw, vw⟩ := lookup_ok hp' hl
        cases v1
        exact ⟨rfl, rfl, ε.d, _, w, rfl, e2, hw, k H1 w f A1 n1 R1 vw h1⟩
    · exact h1.elim) kx
/-- for in range while an exception is handled -/
structure PIHA (X : Cx) (W : WX) (tg iter : Expr) (wi : TI) (ai : AI) : Prop where
  pe : L2H.PIH X tg iter wi
  sim : ∀ (σ : L2.St) (H : Hp) (Γ : Gt) (A : Ah) (q : ItA → Ah → Prop) (x : AX) (Q : It → Hp → Prop), RelA X.K H A → Slots X.K H σ Γ → ai Γ A q x →
    (∀ H' J it A', Nxt X.K H H' → RelA X.K H' A' → LoopOk X.K H' J it → it.still A' → q it A' → Q J H') →
    (∀ H' e A', Nxt X.K H H' → RelA X.K H' A' → x e A' → W (exC X.K e) (some e.d) σ H') → wi σ H Q
theorem gh_rng1 {tg : Expr} {ta : TA} {aa : AA} (h : PAA X W [e] ta aa) (hm : X.mg "range" = none) (hg : Gl X "range" := by rfl) (hs : starEach [e] X.env = [(false, eval e X.env)] := by rfl) :
    PIHA X W tg (.Call (.Name "range" p) [e] [] pos) (iRng1 ta) (aRng1 aa) := ⟨L2H.pi_range1H hg hm h.pe hs, sim_rng1 h.sim⟩
theorem gh_for {tg iter : Expr} {body : List Stmt} {wi : TI} {ai : AI} {g : TG} {ag : AG} {tb : TS} {ab : AS} (hp : PassesOwn (model X.prog X.w) X.A X.env X.xe) (hc : L2H.HotC X) (hi : PIHA X W tg iter wi ai) (hg : PGA X tg g ag) (hb : PSsA X W body tb ab)
    (hs : ∀ x, foldedSetIterable iter X.env x = pure x := by intro _; rfl) : PSA X W (.For tg iter body [] pos) (tFor wi g tb) (aFor ai ag ab) :=
  ⟨L2H.ps_forH hp hc hi.pe hg.pe hb.pe hs, sim_for0 hi.sim hg hb.sim⟩
end
end GA

namespace GA
open PySem PySem.Spec PyProof.Rows L2 GV TL
/-! ### the head's facts -/
inductive Fx where
  | glo (x : Str)
  | free (x : Str)
  | int (x : Str) (i : Int)
  | str (x z : Str)
  | tup (x : Str) (vs : List He.Dv)
  | exc (x : Str)
  | noat (x f : Str)
  | ini (x : Str)
  | exm (x y : Str)
  | kit (x y : Str) (b : Bool)
  | kitT (x : Str) (T : String) (b : Bool)
def oexB (K : Fg) (C : Addr) : Bool := match K.lookup C with
  | some ⟨.type "type", _, .cls cd, sl⟩ => (match cd.mro, sl.toList with
    | .ref C' :: bm, [_, _, _, _, some (.builtin n), _] => C' == C && n == "ValueError.__new__" && !cd.hasDel && cd.hasDict && PySem.HandSPX.refsVE bm
    | _, _ => false)
  | _ => false
def excB (K : Fg) (C : Addr) : Bool := oexB K C && decide (PySem.W.findIn K (.ref C) "__setattr__" = some (some (.builtin "object.__setattr__"))) && decide (PySem.W.subIn K (.ref C) (.type "BaseException") = some true) &&
  decide (PySem.W.typeIn K (.ref C) = some (.type "type")) && PySem.W.keepIn K (.ref C) && xfB K C && (PySem.W.clsIn K C).isSome && decide (PySem.W.findIn K (.ref C) "__class__" = some (some (.builtin "object.__class__"))) &&
  decide (PySem.W.specialIn K (.builtin "object.__class__") "__get__" = some (some (.builtin "getset_descriptor.__get__"))) && decide (PySem.W.takesIn K (.builtin "object.__class__") = some true) && decide (PySem.W.mroIn K C (.type "object") = some true)
def Fx.ok (K : Fg) : Fx → Bool
  | .glo x => (He.Fa.glo x).ok K
  | .free x => (He.Fa.free x).ok K
  | .int x i => (He.Fa.int x i).ok K
  | .str x z => (He.Fa.str x z).ok K
  | .tup x vs => He.tupB K x vs && (He.Fa.glo x).ok K
  | .exc x => excB K (He.ga K x) && (He.Fa.glo x).ok K
  | .noat x f => decide (PySem.W.findIn K (.ref (He.ga K x)) f = some none)
  | .ini x => decide (PySem.W.findIn K (.ref (He.ga K x)) "__init__" = some (some (.ref (He.fAd K (x, some "__init__"))))) && decide (PySem.W.typeIn K (.ref (He.fAd K (x, some "__init__"))) = some (.type "function"))
  | .exm x y => decide (PySem.W.exmOne K (.ref (He.ga K x)) (.ref (He.ga K y)) = some true)
  | .kit x y b => decide (PySem.W.kitOne K (.ref (He.ga K x)) (.ref (He.ga K y)) = some b)
  | .kitT x T b => decide (PySem.W.kitOne K (.ref (He.ga K x)) (.type T) = some b)
theorem oexB_ok {K : Fg} {C : Addr} (h : oexB K C = true) : ∃ nm q N bs bm sn sub ab col dd k0 k1 k2 k3 k5, K.lookup C = some (excClassObj nm q C N bs bm true sn sub ab col dd k0 k1 k2 k3 k5 "ValueError.__new__") ∧ PySem.HandSPX.refsVE bm = true := by
  unfold oexB at h
  split at h
  · rename_i dd cd sl ho
    split at h
    · rename_i C' bm k0 k1 k2 k3 n k5 hm hs
      simp only [Bool.and_eq_true, beq_iff_eq, Bool.not_eq_true'] at h
      obtain ⟨⟨⟨⟨rfl, rfl⟩, hdel⟩, hdct⟩, hr⟩ := h
      obtain ⟨nm, bs, mro, ns, qn, hd, sn, sub, ab, col, del⟩ := cd
      dsimp only at hm hdel hdct
      subst hm hdel hdct
      have hsl : sl = #[k0, k1, k2, k3, some (.builtin "ValueError.__new__"), k5] := by
        obtain ⟨l⟩ := sl
        simp only at hs
        rw [hs]
      subst hsl
      exact ⟨nm, qn, ns, bs, bm, sn, sub, ab, col, dd, k0, k1, k2, k3, k5, ho, hr⟩
    · cases h
  · cases h
structure ExcK (K : Fg) (C : Addr) : Prop where
  oc : OexC K C
  ec : EC K C
theorem excB_ok {K : Fg} {C : Addr} (h : excB K C = true) : ExcK K C := by
  unfold excB at h
  simp only [Bool.and_eq_true, decide_eq_true_eq] at h
  obtain ⟨⟨⟨⟨⟨⟨⟨⟨⟨⟨h1, h2⟩, h3⟩, h4⟩, h5⟩, h6⟩, h7⟩, h8⟩, h9⟩, h10⟩, h11⟩ := h
  exact ⟨⟨oexB_ok h1, h2, h3, h4, h5⟩, ⟨h7, xfB_ok h6, h8, h9, h10, h11⟩⟩
abbrev AlX : Type := Bool × List He.FnW
def obsX (fx : List Fx) (fn : List He.DefD) (K : Fg) : AlX := ((fx.all fun f => f.ok K) && fn.all fun d => d.ok K, fn.map fun d => He.fnW K d.at_)
def SaysX (fx : List Fx) (fn : List He.DefD) (K : Fg) : Prop := obsX fx fn K = (true, fn.map He.DefD.val)
def obsXG (n : Nat) (fx : List Fx) (fn : List He.DefD) (g : Addr → Option Obj) : AlX := obsX fx fn (He.frG g (He.asD g n))
def hookX (n : Nat) (fx : List Fx) (fn : List He.DefD) : PySem.W.Hook where
  α := AlX
  obs := fun s => obsXG n fx fn s.heap.get?
  val := fun _ => (true, fn.map He.DefD.val)
  says := fun _ h => ∃ K : Fg, K.In h ∧ SaysX fx fn K
  of := fun _ _ e => ⟨_, He.frG_in, e⟩
  keeps := fun _ _ _ ⟨K, hK, c⟩ k => ⟨K, PySem.W.Frag.In.keeps hK k, c⟩
theorem obsXG_eq {n : Nat} {fx : List Fx} {fn : List He.DefD} {g : Addr → Option Obj} {s : Shared} (h : ∀ a, g a = s.heap.get? a) : obsXG n fx fn g = (hookX n fx fn).obs s := by
  have e : g = s.heap.get? := funext h
  rw [e] <;> rfl
section
variable {fx : List Fx} {fn : List He.DefD} {K : Fg}
theorem SaysX.fact (c : SaysX fx fn K) (i : Nat) {f : Fx} (h : fx[i]? = some f := by rfl) : f.ok K = true := by
  have c0 : ((fx.all fun f => f.ok K) && fn.all fun d => d.ok K) = true := congrArg (fun z : AlX => z.1) c
  exact List.all_eq_true.mp (Bool.and_eq_true_iff.mp c0).1 f (List.mem_of_getElem? h)
theorem SaysX.def_ (c : SaysX fx fn K) (i : Nat) {d : He.DefD} (h : fn[i]? = some d := by rfl) : ∃ fd, FunD K d.name d.qual d.params d.body d.scope (d.dvs K) (d.kws K) (He.fAd K d.at_) fd := by
  have c0 : ((fx.all fun f => f.ok K) && fn.all fun d => d.ok K) = true := congrArg (fun z : AlX => z.1) c
  have e : fn.map (fun d => He.fnW K d.at_) = fn.map He.DefD.val := congrArg (fun z : AlX => z.2) c
  have e2 : (fn.map fun d => He.fnW K d.at_)[i]? = (fn.map He.DefD.val)[i]? := by rw [e]
  rw [List.getElem?_map, List.getElem?_map, h] at e2
  exact He.DefD.funD (Option.some.inj e2) (List.all_eq_true.mp (Bool.and_eq_true_iff.mp c0).2 d (List.mem_of_getElem? h))
end
/-! ### what is found in the facts -/
section
variable {K : Fg} {h : Heap} {mg : Str → Option Value}
theorem glo_mg (X : K.In h) (G : h.Ns mainGlobals mg) {x : Str} (c : (Fx.glo x).ok K = true) : mg x = some (.ref (He.ga K x)) := He.glo_ok X G c
theorem free_mg (X : K.In h) (G : h.Ns mainGlobals mg) {x : Str} (c : (Fx.free x).ok K = true) : mg x = none := He.free_ok X G c
theorem int_mg (X : K.In h) (G : h.Ns mainGlobals mg) {x : Str} {i : Int} (c : (Fx.int x i).ok K = true) : ∃ t, mg x = some (.int i t) := He.int_ok X G c
theorem str_mg (X : K.In h) (G : h.Ns mainGlobals mg) {x z : Str} (c : (Fx.str x z).ok K = true) : ∃ t, mg x = some (.str z t) := He.str_ok X G c
theorem tup_mg (X : K.In h) (G : h.Ns mainGlobals mg) {x : Str} {vs : List He.Dv} (c : (Fx.tup x vs).ok K = true) : mg x = some (.ref (He.ga K x)) ∧ ∀ H, SqT K H (He.ga K x) (vs.map (He.Dv.v K)) := by
  have c' : (He.tupB K x vs && (He.Fa.glo x).ok K) = true := c
  obtain ⟨h1, h2⟩ := Bool.and_eq_true_iff.mp c'
  exact ⟨He.glo_ok X G h2, fun H => He.tupB_ok h1 H⟩
theorem exc_mg (X : K.In h) (G : h.Ns mainGlobals mg) {x : Str} (c : (Fx.exc x).ok K = true) : mg x = some (.ref (He.ga K x)) ∧ ExcK K (He.ga K x) := by
  have c' : (excB K (He.ga K x) && (He.Fa.glo x).ok K) = true := c
  obtain ⟨h1, h2⟩ := Bool.and_eq_true_iff.mp c'
  exact ⟨He.glo_ok X G h2, excB_ok h1⟩
theorem noat_ok {x f : Str} (c : (Fx.noat x f).ok K = true) : PySem.W.findIn K (.ref (He.ga K x)) f = some none := of_decide_eq_true c
theorem ini_ok {x : Str} (c : (Fx.ini x).ok K = true) : PySem.W.findIn K (.ref (He.ga K x)) "__init__" = some (some (.ref (He.fAd K (x, some "__init__")))) ∧ PySem.W.typeIn K (.ref (He.fAd K (x, some "__init__"))) = some (.type "function") := by
  have c' : (decide (PySem.W.findIn K (.ref (He.ga K x)) "__init__" = some (some (.ref (He.fAd K (x, some "__init__"))))) && decide (PySem.W.typeIn K (.ref (He.fAd K (x, some "__init__"))) = some (.type "function"))) = true := c
  obtain ⟨h1, h2⟩ := Bool.and_eq_true_iff.mp c'
  exact ⟨of_decide_eq_true h1, of_decide_eq_true h2⟩
theorem exm_ok {x y : Str} (c : (Fx.exm x y).ok K = true) : PySem.W.exmOne K (.ref (He.ga K x)) (.ref (He.ga K y)) = some true := of_decide_eq_true c
theorem kit_ok {x y : Str} {b : Bool} (c : (Fx.kit x y b).ok K = true) : PySem.W.kitOne K (.ref (He.ga K x)) (.ref (He.ga K y)) = some b := of_decide_eq_true c
theorem kitT_ok {x : Str} {T : String} {b : Bool} (c : (Fx.kitT x T b).ok K = true) : PySem.W.kitOne K (.ref (He.ga K x)) (.type T) = some b := of_decide_eq_true c
end
end GA

namespace GA
open PySem PySem.Spec PyProof.Rows L2 GV TL
/-! ### the module's constants -/
section
variable {X : Cx} {W : WX} {pos : Pos}
theorem ga_globS {x z : Str} (hm : ∃ t, X.mg x = some (.str z t)) (hg : Gl X x := by rfl) (hd : (x == ("__debug__" : Str)) = false := by decide) : PEA X W (.Name x pos) (tC (.str z)) (aC (.str (tl z))) := by
  obtain ⟨t, hm⟩ := hm
  exact ga_glob hm ⟨t, rfl⟩ (fun _ => .str z) hg hd
theorem ga_globI {x : Str} {i : Int} (hm : ∃ t, X.mg x = some (.int i t)) (hg : Gl X x := by rfl) (hd : (x == ("__debug__" : Str)) = false := by decide) : PEA X W (.Name x pos) (tC (.int i)) (aC (.int i)) := by
  obtain ⟨t, hm⟩ := hm
  exact ga_glob hm ⟨t, rfl⟩ (fun _ => .int i) hg hd
theorem ga_globC {x : Str} {a : Addr} (hm : X.mg x = some (.ref a)) (hg : Gl X x := by rfl) (hd : (x == ("__debug__" : Str)) = false := by decide) : PEA X W (.Name x pos) (tC (.ref a)) (aC (.ref a)) :=
  ga_glob hm rfl (fun _ => .ref a) hg hd
structure GlobT (K : Fg) (mg : Str → Option Value) (x : Str) (vs : List V) (ds : List D) : Prop where
  mg : mg x = some (.ref (He.ga K x))
  at_ : ∀ H, SqT K H (He.ga K x) vs
  rel : ∀ H, Vls K H vs ds
theorem ga_globT {x : Str} {vs : List V} {ds : List D} (h : GlobT X.K X.mg x vs ds) (hg : Gl X x := by rfl) (hd : (x == ("__debug__" : Str)) = false := by decide) : PEA X W (.Name x pos) (tC (.ref (He.ga X.K x))) (aC (.tup ds)) :=
  ga_glob h.mg rfl (fun H => .tup (h.at_ H) (h.rel H)) hg hd
end
/-! ### the end -/
abbrev CXA (P : Program) : CXT := fun o H s E u s' => ∃ w : World, L2N.CX P w o H s E u s'
theorem fnOk_any {P : Program} {w : World} {K : Fg} {mg : Str → Option Value} {base : Heap} {k : Nat} {f : Addr} {fd : FuncData} {ps : List Str} {sp : Sp} (F : FnOk P w K mg base (L2N.CX P w) k f fd ps sp) : FnOk P w K mg base (CXA P) k f fd ps sp :=
  ⟨F.len, fun A outer s H args us vs Q E a b c d e => codeAny_mono (F.run A outer s H args us vs Q E a b c d e) fun r s' h => by
    cases r with
    | ok y => cases y <;> exact h
    | error e => exact ⟨w, h⟩⟩
theorem cxa_no {P : Program} (H : Hp) (s : Shared) (e : Value) (s' : Shared) (h : CXA P [] H s (fun _ _ _ => False) e s') : False := by
  obtain ⟨w, a, B, H', cls, d, _, _, _, _, _, _, _, h⟩ := h
  exact h
theorem lift_law {K : Fg} {H : Hp} {a : Addr} {ns : List Int} {sp : ASp} {Q : VK} {E : XK} (o : Only H) (h : SqL K H a (ns.map V.int)) (hs : ∀ A, sp [.lof (ns.map D.int)] A (fun d _ => d = .bl true) fun _ _ => False) (hq : ∀ H', Q (.bl true) H') : lift K sp [.ref a] H Q E := by
  have hv : Vls K H (ns.map V.int) (ns.map D.int) := by
    clear h hs
    induction ns with
    | nil => exact .nil
    | cons i r ih => exact .cons (.int i) ih
  refine ⟨fun _ => none, [.lof (ns.map D.int)], _, _, fun a c e => (by cases e), .cons (.lof (SqF.of o h) hv) .nil, hs _, fun H' v d A' _ _ hv hd => ?_, fun _ _ _ _ _ z => z.elim⟩
  subst hd
  cases hv
  exact hq H'
end GA

namespace GA
open PySem PySem.Spec PyProof.Rows L2 GV TL
/-! ### list comprehensions -/
def wipeG (Γ : Gt) : List Nat → Gt
  | [] => Γ
  | v :: vs => (wipeG Γ vs).set v none
theorem Slots.wipe {K : Fg} {H : Hp} {σ : L2.St} {Γ : Gt} (s : Slots K H σ Γ) : ∀ vs : List Nat, Slots K H (L2.wipe σ vs) (wipeG Γ vs)
  | [] => s
  | _ :: vs => (Slots.wipe s vs).unset
theorem wipe_set {σ : L2.St} {i : Nat} {x : Option V} : ∀ {vs : List Nat}, (i ∈ vs → L2.wipe (σ.set i x) vs = L2.wipe σ vs) ∧ (i ∉ vs → L2.wipe (σ.set i x) vs = (L2.wipe σ vs).set i x)
  | [] => ⟨nofun, fun _ => rfl⟩
  | v :: vs => by
    obtain ⟨h1, h2⟩ := wipe_set (σ := σ) (i := i) (x := x) (vs := vs)
    constructor
    · intro h
      show (L2.wipe (σ.set i x) vs).set v none = (L2.wipe σ vs).set v none
      by_cases hi : i ∈ vs
      · rw [h1 hi]
      · rw [h2 hi]
        rcases List.mem_cons.mp h with rfl | h
        · rw [List.set_set]
        · exact (hi h).elim
    · intro h
      show (L2.wipe (σ.set i x) vs).set v none = ((L2.wipe σ vs).set v none).set i x
      rw [h2 fun z => h (List.mem_cons_of_mem _ z)]
      exact List.set_comm _ _ fun e => h (e ▸ List.mem_cons_self)
/-- a target that writes to the block's own slots alone -/
def TgW (vs : List Nat) (g : TG) : Prop := ∀ v σ H Q, g v σ H Q → g v σ H fun σ2 H2 => L2.wipe σ2 vs = L2.wipe σ vs ∧ Q σ2 H2
def TgWs (vs : List Nat) (g : TGs) : Prop := ∀ v σ H Q, g v σ H Q → g v σ H fun σ2 H2 => L2.wipe σ2 vs = L2.wipe σ vs ∧ Q σ2 H2
theorem tw_name {vs : List Nat} {i : Nat} (h : i ∈ vs) : TgW vs (gName i) := fun _ _ _ _ q => ⟨wipe_set.1 h, q⟩
theorem tw_nil {vs : List Nat} : TgWs vs gNil := fun _ _ _ _ ⟨e, q⟩ => ⟨e, rfl, q⟩
theorem tw_cons {vs : List Nat} {t : TG} {u : TGs} (mono : ∀ v σ H (Q Q' : L2.St → Hp → Prop), t v σ H Q → (∀ σ' H', Q σ' H' → Q' σ' H') → t v σ H Q') (h : TgW vs t) (hu : TgWs vs u) : TgWs vs (gCons t u) := fun _ σ H Q ⟨v, r, e, q⟩ => by
  refine ⟨v, r, e, ?_⟩
  refine mono _ _ _ _ _ (h v σ H _ q) fun σ' H' ⟨e1, q1⟩ => ?_
  have := hu r σ' H' Q q1
  rw [e1] at this
  exact this
theorem tw_consN {vs : List Nat} {i : Nat} {u : TGs} (h : i ∈ vs) (hu : TgWs vs u) : TgWs vs (gCons (gName i) u) := tw_cons (fun _ _ _ _ _ q k => k _ _ q) (tw_name h) hu
theorem tw_tup {vs : List Nat} {K : Fg} {n : Nat} {t : TGs} (h : TgWs vs t) : TgW vs (gTup K n t) := fun _ σ H Q ⟨a, xs, e, hq, hl, q⟩ => ⟨a, xs, e, hq, hl, h xs σ H Q q⟩
section
variable {X : Cx} {W : WX} {elt tg iter : Expr} {ifs : List Expr} {scope : Scope} {own : List (Str × Nat)} {pos p : Pos} {wi : TI} {ai : AI} {ag : AG} {at_ : AT} {ae : AE}
structure PTsA (X : Cx) (W : WX) (ifs : List Expr) (tt : TT) (at_ : AT) : Prop where
  pe : PTs X ifs tt
  sim : SimT X.K W tt at_
def aYes : AT := fun _ A q _ => q true A
theorem gts_nil : PTsA X W [] tYes aYes := ⟨pts_nil, fun σ H Γ A q x Q R S h k _ => k H true A .rfl R h⟩
theorem gts_one {c : Expr} {t : TT} (h : PTA X W c t at_) : PTsA X W [c] t at_ := ⟨pts_one h.pe, h.sim⟩
/-- how a comprehension's walk is read -/
@[irreducible] def lcR (it : ItA) (A1 : Ah) (g : AG) (c : AT) (e : AE) (vs : List Nat) (Γ : Gt) (q : D → Ah → Prop) : Prop := ∀ p, A1 p = none → ∃ Inv : Nat → List D → Ah → Prop, Inv 0 [] (updA A1 p (.lst [])) ∧
  (∀ i acc A', i ≤ it.n → Inv i acc A' → it.still A' ∧ A' p = some (.lst acc)) ∧
  (∀ i acc A', i < it.n → Inv i acc A' → g (it.item i) (wipeG Γ vs) A' fun Γ2 A2 => c Γ2 A2 (fun b A3 => bsel b (e Γ2 A3 (fun y A4 => ∃ ac, A4 p = some (.lst ac) ∧ ac.length < big ∧ Inv (i + 1) (ac ++ [y]) (updA A4 p (.lst (ac ++ [y])))) fun _ _ => False) (∃ ac, A3 p = some (.lst ac) ∧ Inv (i + 1) ac A3)) fun _ _ => False) ∧
  ∀ acc A', Inv it.n acc A' → q (.ref p) A'
def aLc (wi : AI) (g : AG) (c : AT) (e : AE) (vs : List Nat) : AE := fun Γ A q x => wi Γ A (fun it A1 => lcR it A1 g c e vs Γ q) x
theorem sim_lc {K : Fg} {g : TG} {tt : TT} {te : TE} {vs : List Nat} (hi : ∀ (σ : L2.St) (H : Hp) (Γ : Gt) (A : Ah) (q : ItA → Ah → Prop) (x : AX) (Q : It → Hp → Prop), RelA K H A → Slots K H σ Γ → ai Γ A q x →
    (∀ H' J it A', Nxt K H H' → RelA K H' A' → LoopOk K H' J it → it.still A' → q it A' → Q J H') → (∀ H' e A', Nxt K H H' → RelA K H' A' → x e A' → W (exC K e) (some e.d) σ H') → wi σ H Q)
    (hg : ∀ (v : V) (d : D) (σ : L2.St) (H : Hp) (Γ : Gt) (A : Ah) (q : Gt → Ah → Prop) (Q : L2.St → Hp → Prop), RelA K H A → Slots K H σ Γ → Val K H v d → ag d Γ A q → (∀ σ' H' Γ' A', Nxt K H H' → RelA K H' A' → Slots K H' σ' Γ' → q Γ' A' → Q σ' H') → g v σ H Q)
    (tw : TgW vs g) (ht : SimT K WF tt at_) (he : SimE K WF te ae) : SimE K W (tLc wi g tt te vs) (aLc ai ag at_ ae vs) := fun σ H Γ A q x Q R S hh k kx =>
  hi σ H Γ A _ x _ R S hh (fun H1 J it A1 n1 R1 L st h1 => by
    intro D hD
    unfold lcR at h1
    obtain ⟨Iv, h0, hs, hturn, hd⟩ := h1 D (R1.none hD)
    have n2 : Nxt K H1 (upd H1 D (.lst [])) := .new hD
    refine ⟨fun i m H' => m = it.n - i ∧ i ≤ it.n ∧ ∃ acc A', Nxt K H1 H' ∧ RelA K H' A' ∧ Iv i acc A', ⟨it.n, by omega, Nat.zero_le _, [], _, n2, R1.new hD (.lst .nil), h0⟩, ?_⟩
    rintro i m H' ⟨rfl, hle, acc, A', n', R', hI⟩
    obtain ⟨st', hacc⟩ := hs i acc A' hle hI
    by_cases hlt : i < it.n
    · refine .inr ⟨L.go i H' A' n' R' st' hlt, fun H2 => ∃ acc2 A2, Nxt K H1 H2 ∧ RelA K H2 A2 ∧ Iv (i + 1) acc2 A2, fun H2 ⟨acc2, A2, q⟩ => ⟨it.n - (i + 1), by omega, rfl, hlt, acc2, A2, q⟩, fun y H2 hy => ?_⟩
      obtain ⟨n3, R3, V3⟩ := L.yld i H' A' y H2 n' R' st' hlt hy
      have hw : L2.wipe (L2.wipe σ vs) vs = L2.wipe σ vs := by
        apply List.ext_getElem?
        intro j
        by_cases hj : j ∈ vs
        · have a1 : ∀ τ : L2.St, (L2.wipe τ vs)[j]? = if j < τ.length then some none else none := by
            intro τ
            cases e : (L2.wipe τ vs)[j]? with
            | none => rw [if_neg]; rw [List.getElem?_eq_none_iff, L2.wipe_length] at e; omega
            | some o =>
              cases o with
              | none =>
                rw [if_pos]
                have := (List.getElem?_eq_some_iff.mp e).1
                rw [L2.wipe_length] at this
                exact this
              | some v => exact ((L2.wipe_some e).2 hj).elim
          rw [a1, a1, L2.wipe_length]
        · rw [L2.wipe_out hj]
      have hg1 := hg y (it.item i) (L2.wipe σ vs) H2 (wipeG Γ vs) A' _ (fun σ2 H3 => tt σ2 H3 fun b H4 => if b = true then te σ2 H4 fun y H5 => ∃ acc, H5 D = some (.lst acc) ∧ acc.length < sizeLine ∧ (fun H2 => ∃ acc2 A2, Nxt K H1 H2 ∧ RelA K H2 A2 ∧ Iv (i + 1) acc2 A2) (upd H5 D (.lst (acc ++ [y]))) else (fun H2 => ∃ acc2 A2, Nxt K H1 H2 ∧ RelA K H2 A2 ∧ Iv (i + 1) acc2 A2) H4) R3 ((S.wipe vs).mono ((n1.trans n').trans n3)) V3 (hturn i acc A' hlt hI) (fun σ2 H3 Γ2 A2 n4 R4 S4 h4 => by
        refine ht σ2 H3 Γ2 A2 _ _ _ R4 S4 h4 (fun H4 b A3 n5 R5 h5 => ?_) (fun _ _ _ _ _ z => z.elim)
        have n05 := ((n'.trans n3).trans n4).trans n5
        cases b with
        | false =>
          obtain ⟨ac, e, h5⟩ := h5.2 rfl
          exact ⟨ac, A3, n05, R5, h5⟩
        | true =>
          refine he σ2 H4 Γ2 A3 _ _ _ R5 (S4.mono n5) (h5.1 rfl) (fun H5 z f A4 n6 R6 V6 h6 => ?_) (fun _ _ _ _ _ z => z.elim)
          obtain ⟨ac, e, hb, h6⟩ := h6
          obtain ⟨ws, e2, r2⟩ := R6.lst e
          have n7 : Nxt K H5 (upd H5 D (.lst (ws ++ [z]))) := .set e2 noTup_lst
          refine ⟨ws, e2, by rw [r2.length]; exact hb, ac ++ [f], _, (n05.trans n6).trans n7, R6.set e2 noTup_lst (.lst (r2.append (.cons V6 .nil))), h6⟩)
      have := tw y (L2.wipe σ vs) H2 _ hg1
      rw [hw] at this
      exact this
    · have he : i = it.n := by omega
      subst he
      exact .inl ⟨L.stop _ H' A' n' R' st' (Nat.le_refl _), k H' _ _ A' (n1.trans n') R' (.ref D) (hd acc A' hI)⟩) kx
theorem ga_lc {g : Shared → Hp → Addr → List (Str × Addr) → List Addr → TG} {tt : Shared → Hp → Addr → List (Str × Addr) → List Addr → TT} {te : Shared → Hp → Addr → List (Str × Addr) → List Addr → TE} (hc : X.calm = true) (hN : X.N.Nodup) (hi : PIA X W tg iter wi ai) (ok : BlkOk X.N X.env.scope scope own)
    (hg : ∀ (s : Shared) (H : Hp) (C : Addr) (cl : List (Str × Addr)) (fp : List Addr), PGA (X.blk s H scope (compEnvC scope cl C X.env) fp) tg (g s H C cl fp) ag)
    (ht : ∀ (s : Shared) (H : Hp) (C : Addr) (cl : List (Str × Addr)) (fp : List Addr), PTsA (X.blk s H scope (compEnvC scope cl C X.env) fp) WF ifs (tt s H C cl fp) at_)
    (he : ∀ (s : Shared) (H : Hp) (C : Addr) (cl : List (Str × Addr)) (fp : List Addr), PEA (X.blk s H scope (compEnvC scope cl C X.env) fp) WF elt (te s H C cl fp) ae)
    (tw : TgW (own.map (·.2)) (g X.s_0 X.H_0 0 [] []))
    (eg : ∀ (s : Shared) (H : Hp) (C : Addr) (cl : List (Str × Addr)) (fp : List Addr), g s H C cl fp = g X.s_0 X.H_0 0 [] [] := by intros; rfl)
    (et : ∀ (s : Shared) (H : Hp) (C : Addr) (cl : List (Str × Addr)) (fp : List Addr), tt s H C cl fp = tt X.s_0 X.H_0 0 [] [] := by intros; rfl)
    (ee : ∀ (s : Shared) (H : Hp) (C : Addr) (cl : List (Str × Addr)) (fp : List Addr), te s H C cl fp = te X.s_0 X.H_0 0 [] [] := by intros; rfl) (hs : ∀ x, foldedSetIterable iter X.env x = pure x := by intro _; rfl) :
    PEA X W (.ListComp elt [⟨tg, iter, ifs, 0⟩] scope pos) (tLc wi (g X.s_0 X.H_0 0 [] []) (tt X.s_0 X.H_0 0 [] []) (te X.s_0 X.H_0 0 [] []) (own.map (·.2))) (aLc ai ag at_ ae (own.map (·.2))) where
  pe := pe_lc hc hN hi.pe ok (fun s H C cl fp => eg s H C cl fp ▸ (hg s H C cl fp).pe) (fun s H C cl fp => et s H C cl fp ▸ (ht s H C cl fp).pe) (fun s H C cl fp => ee s H C cl fp ▸ (he s H C cl fp).pe) hs
  sim := sim_lc hi.sim (hg X.s_0 X.H_0 0 [] []).sim tw (ht X.s_0 X.H_0 0 [] []).sim (he X.s_0 X.H_0 0 [] []).sim
theorem gs_setLc {i : Nat} {y : Str} {py spos : Pos} {g : Shared → Hp → Addr → List (Str × Addr) → List Addr → TG} {tt : Shared → Hp → Addr → List (Str × Addr) → List Addr → TT} {te : Shared → Hp → Addr → List (Str × Addr) → List Addr → TE} (hc : X.calm = true) (hN : X.N.Nodup) (hi : PIA X W tg iter wi ai) (ok : BlkOk X.N X.env.scope scope own)
    (hg : ∀ (s : Shared) (H : Hp) (C : Addr) (cl : List (Str × Addr)) (fp : List Addr), PGA (X.blk s H scope (compEnvC scope cl C X.env) fp) tg (g s H C cl fp) ag)
    (ht : ∀ (s : Shared) (H : Hp) (C : Addr) (cl : List (Str × Addr)) (fp : List Addr), PTsA (X.blk s H scope (compEnvC scope cl C X.env) fp) WF ifs (tt s H C cl fp) at_)
    (he : ∀ (s : Shared) (H : Hp) (C : Addr) (cl : List (Str × Addr)) (fp : List Addr), PEA (X.blk s H scope (compEnvC scope cl C X.env) fp) WF elt (te s H C cl fp) ae)
    (tw : TgW (own.map (·.2)) (g X.s_0 X.H_0 0 [] [])) (hy : X.N[i]? = some y := by rfl) (hyl : X.env.scope.names.lookup y = some .local := by rfl)
    (eg : ∀ (s : Shared) (H : Hp) (C : Addr) (cl : List (Str × Addr)) (fp : List Addr), g s H C cl fp = g X.s_0 X.H_0 0 [] [] := by intros; rfl)
    (et : ∀ (s : Shared) (H : Hp) (C : Addr) (cl : List (Str × Addr)) (fp : List Addr), tt s H C cl fp = tt X.s_0 X.H_0 0 [] [] := by intros; rfl)
    (ee : ∀ (s : Shared) (H : Hp) (C : Addr) (cl : List (Str × Addr)) (fp : List Addr), te s H C cl fp = te X.s_0 X.H_0 0 [] [] := by intros; rfl) (hs : ∀ x, foldedSetIterable iter X.env x = pure x := by intro _; rfl)
    (hsw : swapsWith (.ListComp elt [⟨tg, iter, ifs, 0⟩] scope pos) (some (.Name y py)) spos.line X.env = pure true := by rfl) :
    PSA X W (.Assign [.Name y py] (.ListComp elt [⟨tg, iter, ifs, 0⟩] scope pos) spos) (tAsg (tLc wi (g X.s_0 X.H_0 0 [] []) (tt X.s_0 X.H_0 0 [] []) (te X.s_0 X.H_0 0 [] []) (own.map (·.2))) (gName i)) (aAsg (aLc ai ag at_ ae (own.map (·.2))) (agName i)) where
  pe := ps_setLc hc hN hy hyl hsw hi.pe ok (fun s H C cl fp => eg s H C cl fp ▸ (hg s H C cl fp).pe) (fun s H C cl fp => et s H C cl fp ▸ (ht s H C cl fp).pe) (fun s H C cl fp => ee s H C cl fp ▸ (he s H C cl fp).pe) hs
  sim := sim_asg (sim_lc hi.sim (hg X.s_0 X.H_0 0 [] []).sim tw (ht X.s_0 X.H_0 0 [] []).sim (he X.s_0 X.H_0 0 [] []).sim) (gg_name (pos := py) hN hy (.inl hyl) (.inr hyl))
end
end GA

namespace GA
open PySem PySem.Spec PyProof.Rows L2 GV TL
section
variable {X : Cx} {W : WX} {a b c e o : Expr} {es : List Expr} {ta tb tc te to : TE} {aa ab ac ae ao : AE} {t : TA} {at_ : AA} {pos apos cpos p p2 tpos : Pos} {elts : List Expr} {kk : Nat} {tg : Expr}
/-! ### enumerate of a list -/
theorem loop_enum {K : Fg} {a : Addr} {ds : List D} {H0 : Hp} : LoopOk K H0 (Ite K a) ⟨some (a, ds), ds.length, fun i => .tup [.int (i : Nat), ds.getD i .non]⟩ where
  go := fun i H A n R st hi => by
    have st : A a = some (.lst ds) := st
    have hi : i < ds.length := hi
    obtain ⟨ws, e1, r1⟩ := R.lst st
    obtain ⟨v, e, _⟩ := r1.get (i := i) (List.getElem?_eq_getElem hi)
    exact ⟨ws, v, SqL.of e1, e⟩
  yld := fun i H A x H' n R st hi hy => by
    have st : A a = some (.lst ds) := st
    have hi : i < ds.length := hi
    obtain ⟨ws, e1, r1⟩ := R.lst st
    obtain ⟨v, e, rv⟩ := r1.get (i := i) (List.getElem?_eq_getElem hi)
    obtain ⟨T, y, rfl, hT, rfl, hx⟩ := hy
    have := hx ws (SqL.of e1)
    rw [e] at this
    cases this
    have n2 : Nxt K H (upd H T (.tup [.int (i : Nat), v])) := .new hT
    refine ⟨n2, R.ext hT, ?_⟩
    show Val K _ _ (D.tup [.int (i : Nat), ds.getD i .non])
    rw [getD_at hi]
    exact .tup (.inl (.inl (upd_same ..))) (.cons (.int _) (.cons (rv.mono n2) .nil))
  stop := fun i H A n R st hi => by
    have st : A a = some (.lst ds) := st
    obtain ⟨ws, e1, r1⟩ := R.lst st
    exact ⟨ws, SqL.of e1, by rw [r1.length]; exact hi⟩
theorem loop_enumF {K : Fg} {a : Addr} {ds : List D} {vs : List V} {H0 : Hp} (h : ∃ o, H0 a = some (.frz o (.lst vs))) (hv : Vls K H0 vs ds) : LoopOk K H0 (Ite K a) ⟨none, ds.length, fun i => .tup [.int (i : Nat), ds.getD i .non]⟩ where
  go := fun i H A n R st hi => by
    have e1 : SqL K H a vs := (let ⟨o, h⟩ := h; .inl (.inr ⟨o, n.fz _ _ _ h⟩))
    have r1 := hv.mono n
    have hi : i < ds.length := hi
    obtain ⟨v, e, _⟩ := r1.get (i := i) (List.getElem?_eq_getElem hi)
    exact ⟨vs, v, e1, e⟩
  yld := fun i H A x H' n R st hi hy => by
    have e1 : SqL K H a vs := (let ⟨o, h⟩ := h; .inl (.inr ⟨o, n.fz _ _ _ h⟩))
    have r1 := hv.mono n
    have hi : i < ds.length := hi
    obtain ⟨v, e, rv⟩ := r1.get (i := i) (List.getElem?_eq_getElem hi)
    obtain ⟨T, y, rfl, hT, rfl, hx⟩ := hy
    have := hx vs (e1)
    rw [e] at this
    cases this
    have n2 : Nxt K H (upd H T (.tup [.int (i : Nat), v])) := .new hT
    refine ⟨n2, R.ext hT, ?_⟩
    show Val K _ _ (D.tup [.int (i : Nat), ds.getD i .non])
    rw [getD_at hi]
    exact .tup (.inl (.inl (upd_same ..))) (.cons (.int _) (.cons (rv.mono n2) .nil))
  stop := fun i H A n R st hi => by
    have e1 : SqL K H a vs := (let ⟨o, h⟩ := h; .inl (.inr ⟨o, n.fz _ _ _ h⟩))
    have r1 := hv.mono n
    exact ⟨vs, e1, by rw [r1.length]; exact hi⟩
def aEnum (as : AA) : AI := fun Γ A q x => as Γ A (fun ds A1 => match ds with
  | [.ref a] => onL A1 a fun ds => q ⟨some (a, ds), ds.length, fun i => .tup [.int (i : Nat), ds.getD i .non]⟩ A1
  | [.fl ds] => q ⟨none, ds.length, fun i => .tup [.int (i : Nat), ds.getD i .non]⟩ A1
  | _ => False) x
theorem gi_enum (h : PAA X W [e] t at_) (hm : X.mg "enumerate" = none) (hg : Gl X "enumerate" := by rfl) (hs : starEach [e] X.env = [(false, eval e X.env)] := by rfl) :
    PIA X W (.Tuple elts kk tpos) (.Call (.Name "enumerate" p) [e] [] pos) (iEnum X.K t) (aEnum at_) where
  pe := pi_enum hg hm h.pe hs
  sim := fun σ H Γ A q x Q R S hh k kx => h.sim σ H Γ A _ x _ R S hh (fun H1 vs ds A1 n1 R1 v1 h1 => by
    split at h1
    · obtain ⟨v, rfl, hv⟩ := v1.one
      cases hv
      obtain ⟨xs, ha, h1⟩ := onL_of h1
      obtain ⟨ws, e1, r1⟩ := R1.lst ha
      exact ⟨_, ws, rfl, SqL.of e1, k H1 _ _ A1 n1 R1 loop_enum ha h1⟩
    · obtain ⟨v, rfl, hv⟩ := v1.one
      obtain ⟨p, vs, rfl, hp, hvs, o⟩ := hv.inv_fl
      exact ⟨_, vs, rfl, Rd.sq hp, k H1 _ _ A1 n1 R1 (loop_enumF o hvs) trivial h1⟩
    · exact h1.elim) kx
/-! ### lstrip of signs -/
theorem drop_while (p : Nat → Bool) : ∀ l : List Nat, l.drop (l.takeWhile p).length = l.dropWhile p
  | [] => rfl
  | c :: l => by
    cases h : p c with
    | true => simp only [List.takeWhile_cons, List.dropWhile_cons, h, if_true, List.length_cons, List.drop_succ_cons]; exact drop_while p l
    | false => simp [List.takeWhile_cons, List.dropWhile_cons, h]
theorem tl_lstrip (x y : Str) : tl (Txt.lstripChars x y) = (tl x).dropWhile fun c => decide (c ∈ tl y) := by
  unfold Txt.lstripChars
  rw [stripBy_eq]
  unfold stripHi stripLo
  rw [if_pos rfl, if_neg (by decide), tl_strSub_end]
  have : y.cps.contains = fun c => decide (c ∈ tl y) := by
    funext c
    rw [Bool.eq_iff_iff]
    simp [tl]
  rw [this]
  exact drop_while _ _
def aLstrip (o s : AE) : AE := fun Γ A q x => o Γ A (fun d A1 => match d with
  | .str cs => s Γ A1 (fun e A2 => match e with
    | .str ch => cs.length ≤ big ∧ q (.str (cs.dropWhile fun c => decide (c ∈ ch))) A2
    | _ => False) x
  | _ => False) x
theorem ga_lstrip (ho : PEA X W o to ao) (he : PEA X W e te ae) (hs : starEach [e] X.env = [(false, eval e X.env)] := by rfl) (hb : attributeBase o "lstrip" X.env (eval o X.env) = eval o X.env := by rfl) (hl : (apos.endLine == pos.line) = true := by rfl) :
    PEA X W (.Call (.Attribute o "lstrip" apos) [e] [] pos) (tM1 (fun x xs H Q => ∃ a b, x = .str a ∧ xs = [.str b] ∧ a.length ≤ sizeLine ∧ Q (.str (Txt.lstripChars a b)) H) to te) (aLstrip ao ae) where
  pe := pe_m1 PySem.F.slot_str_lstrip PySem.F.type_str_lstrip mt_lstripChars ho.pe he.pe hs hb hl
  sim := fun σ H Γ A q x Q R S h k kx => ho.sim σ H Γ A _ x _ R S h (fun H1 v d A1 n1 R1 v1 h1 => by
    cases d with
    | str cs =>
      obtain ⟨z, rfl, rfl⟩ := v1.inv_str
      refine ⟨⟨z, rfl⟩, he.sim σ H1 Γ A1 _ x _ R1 (S.mono n1) h1 (fun H2 w f A2 n2 R2 v2 h2 => ?_) fun H2 e A2 n2 R2 h2 => kx H2 e A2 (n1.trans n2) R2 h2⟩
      cases f with
      | str sep =>
        obtain ⟨y, rfl, rfl⟩ := v2.inv_str
        refine ⟨z, y, rfl, rfl, by have := h2.1; rw [big_eq, len_tl]; exact this, ?_⟩
        exact k _ _ _ A2 (n1.trans n2) R2 (.strOf (tl_lstrip z y)) h2.2
      | _ => exact h2.elim
    | _ => exact h1.elim) kx
end
end GA

namespace GA
open PySem PySem.Spec PyProof.Rows L2 GV TL
/-! ### dicts with numbers and texts for keys -/
section
variable {κ : Type} [DecidableEq κ]
def getD' (kvs : List (κ × D)) (k : κ) : Option D := (kvs.find? fun kv => decide (kv.1 = k)).map (·.2)
def putD (kvs : List (κ × D)) (k : κ) (v : D) : List (κ × D) :=
  if (kvs.any fun kv => decide (kv.1 = k)) = true then kvs.map (fun kv => if kv.1 = k then (kv.1, v) else kv) else kvs ++ [(k, v)]
abbrev RelKV (K : Fg) (H : Hp) (ws : List (κ × V)) (kvs : List (κ × D)) : Prop := Paired (fun (p : κ × V) (q : κ × D) => p.1 = q.1 ∧ Val K H p.2 q.2) ws kvs
theorem relkv_get {K : Fg} {H : Hp} {k : κ} : ∀ {ws : List (κ × V)} {kvs : List (κ × D)}, RelKV K H ws kvs → (∀ d, getD' kvs k = some d → ∃ v, valV ws k = some v ∧ Val K H v d) ∧ (getD' kvs k = none → valV ws k = none) ∧ (ws.any fun kv => decide (kv.1 = k)) = kvs.any fun kv => decide (kv.1 = k)
  | _, _, .nil => ⟨fun _ e => (by cases e), fun _ => rfl, rfl⟩
  | (a, v) :: ws, (b, d) :: kvs, .cons ⟨h1, h2⟩ t => by
    dsimp only at h1
    subst h1
    obtain ⟨g1, g2, g3⟩ := relkv_get (k := k) t
    by_cases hk : a = k
    · refine ⟨fun d' e => ?_, fun e => ?_, ?_⟩
      · simp only [getD', List.find?_cons, hk, decide_true, Option.map_some, Option.some.injEq] at e
        subst e
        exact ⟨v, valV_pos hk, h2⟩
      · simp [getD', List.find?_cons, hk] at e
      · simp [hk]
    · refine ⟨fun d' e => ?_, fun e => ?_, ?_⟩
      · rw [valV_neg hk]
        refine g1 d' ?_
        simpa [getD', List.find?_cons, hk] using e
      · rw [valV_neg hk]
        refine g2 ?_
        simpa [getD', List.find?_cons, hk] using e
      · simp only [List.any_cons, hk, decide_false, Bool.false_or]
        exact g3
theorem relkv_map {K : Fg} {H : Hp} {k : κ} {v : V} {d : D} (hv : Val K H v d) : ∀ {ws : List (κ × V)} {kvs : List (κ × D)}, RelKV K H ws kvs → RelKV K H (ws.map fun kv => if kv.1 = k then (kv.1, v) else kv) (kvs.map fun kv => if kv.1 = k then (kv.1, d) else kv)
  | _, _, .nil => .nil
  | (a, v') :: ws, (b, d') :: kvs, .cons ⟨h1, h2⟩ t => by
    dsimp only at h1
    subst h1
    rw [List.map_cons, List.map_cons]
    refine .cons ?_ (relkv_map hv t)
    by_cases e : a = k
    · rw [if_pos e, if_pos e]; exact ⟨rfl, hv⟩
    · rw [if_neg e, if_neg e]; exact ⟨rfl, h2⟩
theorem relkv_put {K : Fg} {H : Hp} {k : κ} {v : V} {d : D} {ws : List (κ × V)} {kvs : List (κ × D)} (h : RelKV K H ws kvs) (hv : Val K H v d) : RelKV K H (putK ws k v) (putD kvs k d) := by
  unfold putK putD
  rw [(relkv_get (k := k) h).2.2]
  split
  · exact relkv_map hv h
  · exact paired_app h (.cons ⟨rfl, hv⟩ .nil)
theorem relkv_len {K : Fg} {H : Hp} {ws : List (κ × V)} {kvs : List (κ × D)} (h : RelKV K H ws kvs) : ws.length = kvs.length := Paired.length h
end
/-- a key of a number or a text -/
def keyOf : D → Option Key
  | .int i => some (.inl i)
  | .str cs => some (.inr ⟨cs.toArray⟩)
  | _ => none
theorem keyOf_ok {K : Fg} {H : Hp} {v : V} {d : D} {k : Key} (hv : Val K H v d) (h : keyOf d = some k) : v = kV k := by
  cases d with
  | int i => cases h; cases hv; rfl
  | str cs =>
    obtain ⟨x, rfl, rfl⟩ := hv.inv_str
    cases h
    rfl
  | _ => cases h
theorem RelA.dic {K : Fg} {H : Hp} {A : Ah} {a : Addr} {kvs : List (Key × D)} (R : RelA K H A) (h : A a = some (.dic kvs)) : ∃ ws, H a = some (.dK ws) ∧ RelKV K H ws kvs := by
  obtain ⟨o, h1, h2⟩ := R a _ h
  cases h2 with
  | dic hv => exact ⟨_, h1, hv⟩
def onD (A : Ah) (a : Addr) (k : List (Key × D) → Prop) : Prop := ∃ kvs, A a = some (.dic kvs) ∧ k kvs
section
variable {X : Cx} {W : WX} {o i e value : Expr} {pos pos' : Pos} {td ty tv : TE} {ao ai av : AE}
def aDNew : AE := fun _ A q _ => ∀ p, A p = none → q (.ref p) (updA A p (.dic []))
theorem ga_dnew : PEA X W (.Dict [] [] pos) tDNewK aDNew := ⟨pe_dnewK, fun σ H Γ A q x Q R S h k _ p hp => k _ _ _ _ (.new hp) (R.new hp (.dic .nil)) (.ref p) (h p (R.none hp))⟩
def aDGet (o i : AE) : AE := fun Γ A q x => o Γ A (fun d A1 => i Γ A1 (fun k A2 => match d with
  | .ref a => onD A2 a fun kvs => ∃ ky v, keyOf k = some ky ∧ getD' kvs ky = some v ∧ q v A2
  | _ => False) x) x
theorem ga_dget (hu : X.A.units + 64 < cLine) (ho : PEA X W o td ao) (hi : PEA X W i ty ai) (hs : NoSl i := by exact fun _ _ => rfl) : PEA X W (.Subscript o i pos) (tDGet td ty) (aDGet ao ai) where
  pe := pe_dget (by omega) ho.pe hi.pe hs
  sim := fun σ H Γ A q x Q R S h k kx => ho.sim σ H Γ A _ x _ R S h (fun H1 v d A1 n1 R1 v1 h1 => hi.sim σ H1 Γ A1 _ x _ R1 (S.mono n1) h1 (fun H2 w f A2 n2 R2 v2 h2 => by
    cases d with
    | ref a =>
      obtain ⟨kvs, e, ky, u, hk, hg, h2⟩ := h2
      obtain ⟨ws, e1, r1⟩ := R2.dic e
      cases v1
      obtain ⟨z, hz, rz⟩ := (relkv_get (k := ky) r1).1 u hg
      have := keyOf_ok v2 hk
      subst this
      exact ⟨a, z, rfl, hz ▸ DGet.k e1, k H2 z u A2 (n1.trans n2) R2 rz h2⟩
    | _ => exact h2.elim) fun H2 e A2 n2 R2 h2 => kx H2 e A2 (n1.trans n2) R2 h2) kx
def aDIn (i o : AE) : AE := fun Γ A q x => i Γ A (fun k A1 => o Γ A1 (fun d A2 => match d with
  | .ref a => onD A2 a fun kvs => ∃ ky, keyOf k = some ky ∧ q (.bl (getD' kvs ky).isSome) A2
  | _ => False) x) x
def aDNi (i o : AE) : AE := fun Γ A q x => i Γ A (fun k A1 => o Γ A1 (fun d A2 => match d with
  | .ref a => onD A2 a fun kvs => ∃ ky, keyOf k = some ky ∧ q (.bl (!(getD' kvs ky).isSome)) A2
  | _ => False) x) x
theorem dget_any {K : Fg} {H : Hp} {a : Addr} {ws : List (Key × V)} {kvs : List (Key × D)} {ky : Key} (e1 : H a = some (.dK ws)) (r1 : RelKV K H ws kvs) : ∃ o : Option V, DGet H a (kV ky) o ∧ o.isSome = (getD' kvs ky).isSome := by
  obtain ⟨g1, g2, _⟩ := relkv_get (k := ky) r1
  refine ⟨valV ws ky, .k e1, ?_⟩
  cases h : getD' kvs ky with
  | none => rw [g2 h]; rfl
  | some d => obtain ⟨v, e, _⟩ := g1 d h; rw [e]; rfl
theorem sim_din {K : Fg} (hi : SimE K W ty ai) (ho : SimE K W td ao) : SimE K W (tDIn ty td) (aDIn ai ao) := fun σ H Γ A q x Q R S h k kx =>
  hi σ H Γ A _ x _ R S h (fun H1 v d A1 n1 R1 v1 h1 => ho σ H1 Γ A1 _ x _ R1 (S.mono n1) h1 (fun H2 w f A2 n2 R2 v2 h2 => by
    cases f with
    | ref a =>
      obtain ⟨kvs, e, ky, hk, h2⟩ := h2
      obtain ⟨ws, e1, r1⟩ := R2.dic e
      cases v2
      have := keyOf_ok v1 hk
      subst this
      obtain ⟨ov, g, ei⟩ := dget_any (ky := ky) e1 r1
      exact ⟨a, ov, rfl, g, by rw [ei]; exact k H2 _ _ A2 (n1.trans n2) R2 (.bl _) h2⟩
    | _ => exact h2.elim) fun H2 e A2 n2 R2 h2 => kx H2 e A2 (n1.trans n2) R2 h2) kx
theorem sim_dni {K : Fg} (hi : SimE K W ty ai) (ho : SimE K W td ao) : SimE K W (tDNotIn ty td) (aDNi ai ao) := fun σ H Γ A q x Q R S h k kx =>
  hi σ H Γ A _ x _ R S h (fun H1 v d A1 n1 R1 v1 h1 => ho σ H1 Γ A1 _ x _ R1 (S.mono n1) h1 (fun H2 w f A2 n2 R2 v2 h2 => by
    cases f with
    | ref a =>
      obtain ⟨kvs, e, ky, hk, h2⟩ := h2
      obtain ⟨ws, e1, r1⟩ := R2.dic e
      cases v2
      have := keyOf_ok v1 hk
      subst this
      obtain ⟨ov, g, ei⟩ := dget_any (ky := ky) e1 r1
      exact ⟨a, ov, rfl, g, by rw [ei]; exact k H2 _ _ A2 (n1.trans n2) R2 (.bl _) h2⟩
    | _ => exact h2.elim) fun H2 e A2 n2 R2 h2 => kx H2 e A2 (n1.trans n2) R2 h2) kx
theorem ga_din (hu : X.A.units + 64 < cLine) (hi : PEA X W i ty ai) (ho : PEA X W o td ao) (h1 : behindInMarks .In o = false := by rfl) : PEA X W (.Compare i [.In] [o] pos) (tDIn ty td) (aDIn ai ao) := ⟨pe_cmp (pc_din (by omega) hi.pe ho.pe) h1, sim_din hi.sim ho.sim⟩
theorem ga_dni (hu : X.A.units + 64 < cLine) (hi : PEA X W i ty ai) (ho : PEA X W o td ao) (h1 : behindInMarks .NotIn o = false := by rfl) : PEA X W (.Compare i [.NotIn] [o] pos) (tDNotIn ty td) (aDNi ai ao) := ⟨pe_cmp (pc_dnotin (by omega) hi.pe ho.pe) h1, sim_dni hi.sim ho.sim⟩
theorem gt_din (hu : X.A.units + 64 < cLine) (hi : PEA X W i ty ai) (ho : PEA X W o td ao) (h1 : behindInMarks .In o = false := by rfl) : PTA X W (.Compare i [.In] [o] pos) (tB (tDIn ty td)) (aTest (aDIn ai ao)) := ⟨pt_cmp (pc_din (by omega) hi.pe ho.pe) h1, sim_test (sim_din hi.sim ho.sim)⟩
theorem gt_dni (hu : X.A.units + 64 < cLine) (hi : PEA X W i ty ai) (ho : PEA X W o td ao) (h1 : behindInMarks .NotIn o = false := by rfl) : PTA X W (.Compare i [.NotIn] [o] pos) (tB (tDNotIn ty td)) (aTest (aDNi ai ao)) := ⟨pt_cmp (pc_dnotin (by omega) hi.pe ho.pe) h1, sim_test (sim_dni hi.sim ho.sim)⟩
def aDPut (o i v : AE) : AS := fun D Γ A => v Γ A (fun d A1 => o Γ A1 (fun l A2 => i Γ A2 (fun k A3 => match l with
  | .ref a => onD A3 a fun kvs => ∃ ky, keyOf k = some ky ∧ kvs.length < big ∧ D.nx Γ (updA A3 a (.dic (putD kvs ky d)))
  | _ => False) fun e A' => D.ex e Γ A') fun e A' => D.ex e Γ A') fun e A' => D.ex e Γ A'
theorem gs_dput (hu : X.A.units + 64 < cLine) (ho : PEA X W o td ao) (hi : PEA X W i ty ai) (hv : PEA X W value tv av) (hs : swapsWith value (some (.Subscript o i pos')) pos.line X.env = pure false := by rfl) :
    PSA X W (.Assign [.Subscript o i pos'] value pos) (sDPut td ty tv) (aDPut ao ai av) where
  pe := ps_dput (by omega) ho.pe hi.pe hv.pe hs
  sim := fun D AD σ H Γ A R S hh k => hv.sim σ H Γ A _ _ _ R S hh (fun H1 v d A1 n1 R1 v1 h1 => ho.sim σ H1 Γ A1 _ _ _ R1 (S.mono n1) h1 (fun H2 w f A2 n2 R2 v2 h2 => hi.sim σ H2 Γ A2 _ _ _ R2 (S.mono (n1.trans n2)) h2 (fun H3 z g A3 n3 R3 v3 h3 => by
    cases f with
    | ref a =>
      obtain ⟨kvs, e, ky, hk, hb, h3⟩ := h3
      obtain ⟨ws, e1, r1⟩ := R3.dic e
      cases v2
      have := keyOf_ok v3 hk
      subst this
      have n4 : Nxt X.K H3 (upd H3 a (.dK (putK ws ky v))) := .set e1 noTup_dK
      have n13 := n1.trans (n2.trans n3)
      exact ⟨a, _, rfl, .k e1 (by rw [relkv_len r1]; exact hb), k.nx σ _ Γ _ (n13.trans n4) (R3.set e1 noTup_dK (.dic (relkv_put r1 (v1.mono (n2.trans n3))))) (S.mono (n13.trans n4)) h3⟩
    | _ => exact h3.elim) fun H' e A' n R' h' => k.ex e σ H' Γ A' ((n1.trans n2).trans n) R' (S.mono ((n1.trans n2).trans n)) h') fun H' e A' n R' h' => k.ex e σ H' Γ A' (n1.trans n) R' (S.mono (n1.trans n)) h') fun H' e A' n R' h' => k.ex e σ H' Γ A' n R' (S.mono n) h'
end
end GA

namespace GA
open PySem PySem.Spec PyProof.Rows L2 GV TL
/-! ### own defs with keyword-only parameters -/
structure FnK0 (P : Program) (w : World) (K : Fg) (mg : Str → Option Value) (base : Heap) (x : Str) (k : Nat) (sp : ASp) (n : Nat) (ks : List Str) (dvs : List V) (dds : List D) : Prop where
  ex : ∃ (f : Addr) (fd : FuncData) (ps : List Str), FnA P w K mg base k f fd ps sp ∧ mg x = some (.ref f) ∧ PySem.W.keepIn K (.ref f) = true ∧ (∃ ds, Vals dvs ds ∧ Binds K fd ps ds) ∧ KBn K fd ps n ks (fun us ws => us ++ ws) (fun vs zs => vs ++ zs)
  dd : ∀ H, Vls K H dvs dds
abbrev FndK (X : Cx) (x : Str) (k : Nat) (sp : ASp) (n : Nat) (ks : List Str) (dvs : List V) (dds : List D) : Prop := FnK0 X.prog X.w X.K X.mg X.base x k sp n ks dvs dds
section
variable {X : Cx} {W : WX} {k n : Nat} {x : Str} {sp : ASp} {ks : List Str} {dvs : List V} {dds : List D} {e : Expr} {es : List Expr} {kws : List Keyword} {p pos kpos : Pos} {t tk' : TA} {at_ ak : AA} {te : TE} {ae : AE} {nm : Option Str}
/-- the keywords lack: the defaults -/
def aCallD (sp : ASp) (dds : List D) (as : AA) : AE := fun Γ A q x => as Γ A (fun ds A1 => sp (ds ++ dds) A1 q x) x
theorem ga_callD (F : FndK X x k sp n ks dvs dds) (hr : Room k X.A) (tk : L2N.Takes X W) (h : PAA X W (e :: es) t at_) (hg : Gl X x := by rfl) (hdb : (x == ("__debug__" : Str)) = false := by decide)
    (he : starEach (e :: es) X.env = (false, eval e X.env) :: starEach es X.env := by rfl) (hpl : (backTo pos (starEach es X.env)).any (·.1) = false := by rfl) :
    PEA X W (.Call (.Name x p) (e :: es) [] pos) (tCallSD (lift X.K sp) dvs (WE W) t) (aCallD sp dds at_) := by
  obtain ⟨⟨f, fd, ps, G, hm, hk, ⟨ds, hd, hb⟩, _⟩, dd⟩ := F
  exact ⟨pe_callSD G hr hg hm hk hb hd (fun σ => L2N.passAt tk σ) h.pe hdb he hpl, fun σ H Γ A q x Q R S hh k kx => h.sim σ H Γ A _ x _ R S hh (fun H1 vs ds A1 n1 R1 v1 h1 =>
    ⟨A1, ds ++ dds, q, x, R1, v1.append (dd H1), h1, fun H2 v d A2 n2 R2 v2 h2 => k H2 v d A2 (n1.trans n2) R2 v2 h2, fun H2 e A2 n2 R2 h2 => kx H2 e A2 (n1.trans n2) R2 h2⟩) kx⟩
/-! the call with all keywords -/
structure PKA (X : Cx) (W : WX) (kws : List Keyword) (ta : TA) (aa : AA) : Prop where
  pe : PK X kws ta
  sim : SimA X.K W ta aa
theorem gk_nil : PKA X W [] tNil aNil := ⟨pk_nil, gs_nil.sim⟩
theorem gk_cons (ha : PEA X W e te ae) (hr : PKA X W kws t at_) : PKA X W (⟨nm, e, kpos⟩ :: kws) (tCons te t) (aCons ae at_) :=
  ⟨pk_cons ha.pe hr.pe, fun σ H Γ A q x Q R S h k kx => ha.sim σ H Γ A _ x _ R S h (fun H1 v d A1 n1 R1 v1 h1 => hr.sim σ H1 Γ A1 _ x _ R1 (S.mono n1) h1
    (fun H2 vs ds A2 n2 R2 v2 h2 => k H2 _ _ A2 (n1.trans n2) R2 (.cons (v1.mono n2) v2) h2) fun H2 e A2 n2 R2 h2 => kx H2 e A2 (n1.trans n2) R2 h2) kx⟩
def tCallK (sp : Sp) (n m : Nat) (E : L2.St → XK) (t tk' : TA) : TE := fun σ H Q => t σ H fun vs H1 => tk' σ H1 fun zs H2 => vs.length = n ∧ zs.length = m ∧ sp (vs ++ zs) H2 Q (E σ)
def aCallK (sp : ASp) (n m : Nat) (as ak : AA) : AE := fun Γ A q x => as Γ A (fun ds A1 => ak Γ A1 (fun es A2 => ds.length = n ∧ es.length = m ∧ sp (ds ++ es) A2 q x) x) x
theorem ga_callK (F : FndK X x k sp n ks dvs dds) (hr : Room k X.A) (tk : L2N.Takes X W) (h : PAA X W (e :: es) t at_) (hkw : PKA X W kws tk' ak) (hg : Gl X x := by rfl)
    (hall : (backToKw pos (keywordEach kws X.env)).all (·.1.isSome) = true := by rfl) (hks : (backToKw pos (keywordEach kws X.env)).filterMap (·.1) = ks := by rfl)
    (hdb : (x == ("__debug__" : Str)) = false := by decide) (he : starEach (e :: es) X.env = (false, eval e X.env) :: starEach es X.env := by rfl)
    (hpl : ((backTo pos (starEach (e :: es) X.env)).any (·.1) || (backToKw pos (keywordEach kws X.env)).any (·.1.isNone)) = false := by rfl) :
    PEA X W (.Call (.Name x p) (e :: es) kws pos) (tCallK (lift X.K sp) n ks.length (WE W) t tk') (aCallK sp n ks.length at_ ak) := by
  obtain ⟨⟨f, fd, ps, G, hm, hk, _, hb⟩, _⟩ := F
  refine ⟨⟨fun pins s σ H Q I hq => ?_⟩, fun σ H Γ A q x Q R S hh k kx => h.sim σ H Γ A _ x _ R S hh (fun H1 vs ds A1 n1 R1 v1 h1 => hkw.sim σ H1 Γ A1 _ x _ R1 (S.mono n1) h1 (fun H2 zs es A2 n2 R2 v2 h2 =>
    ⟨by rw [v1.length]; exact h2.1, by rw [v2.length]; exact h2.2.1, A2, ds ++ es, q, x, R2, (v1.mono n2).append v2, h2.2.2, fun H3 v d A3 n3 R3 v3 h3 => k H3 v d A3 ((n1.trans n2).trans n3) R3 v3 h3, fun H3 e A3 n3 R3 h3 => kx H3 e A3 ((n1.trans n2).trans n3) R3 h3⟩)
    fun H2 e A2 n2 R2 h2 => kx H2 e A2 (n1.trans n2) R2 h2) kx⟩
  refine wpAny_Call_Name_kw (ld_glob I hg hm ?_ hdb)
  refine PySem.W.callWith_KW (h₀ := X.base) I.ok.mod.kin hk hall (thn (h.pe.run pos pins s σ H _ I hq) fun us s1 ⟨vs, H1, I1, r, q⟩ => ?_) hpl he
  refine thn (hkw.pe.run pos pins s1 σ H1 _ I1 q) fun ws s2 ⟨zs, H2, I2, rz, l1, l2, q2⟩ => ⟨I2.kIn, ?_⟩
  rw [hks]
  have r2 := hb.rel r rz
  have hx := L2N.passAt tk σ
  refine wpAny_call (codeAny_mono (G.run X.A X.stack s2 H2 ⟨us, ks.zip ws⟩ (us ++ ws) (vs ++ zs) Q (WE W σ) hr I2.env0 (hb.to s2 us ws I2.kIn (r.length.symm.trans l1) (rz.length.symm.trans l2)) r2 q2) fun r s' hq => ?_)
  cases r with
  | error e => exact hx pins H2 s2 e s' I2 hq
  | ok fl =>
    cases fl with
    | ret u => exact I2.after hq
    | next => exact False.elim hq
    | brk => exact False.elim hq
    | cont => exact False.elim hq
end
end GA

namespace GA
open PySem PySem.Spec PyProof.Rows L2 GV TL
/-! ### sorted of a list: numbers, or less than 64 texts -/
theorem ltCps_lex : ∀ a b : List Nat, ltCps a b = lexL a b
  | _, [] => by cases ‹List Nat› <;> rfl
  | [], _ :: _ => rfl
  | a :: x, b :: y => by
    have := ltCps_lex x y
    unfold ltCps lexL
    rw [this]
    rfl
def srtL : List (List Nat) → Bool
  | x :: y :: r => !lexL y x && srtL (y :: r)
  | _ => true
theorem srt_ok : ∀ ys : List Str, sortedS ys = true → srtL (ys.map tl) = true
  | [], _ => rfl
  | [_], _ => rfl
  | x :: y :: r, h => by
    have h : risingS x (y :: r) = true := h
    unfold risingS at h
    obtain ⟨h1, h2⟩ := Bool.and_eq_true_iff.mp h
    have ih := srt_ok (y :: r) h2
    show (!lexL (tl y) (tl x) && srtL ((y :: r).map tl)) = true
    rw [ih, Bool.and_true, ← ltCps_lex]
    exact h1
theorem intsV {K : Fg} {H : Hp} : ∀ {ns : List Int} {vs : List V}, Vls K H vs (ns.map D.int) → vs = ns.map V.int
  | [], _, .nil => rfl
  | _ :: _, _, .cons h t => by cases h; rw [intsV t]; rfl
theorem intsD {K : Fg} {H : Hp} : ∀ ns : List Int, Vls K H (ns.map V.int) (ns.map D.int)
  | [] => .nil
  | i :: r => .cons (.int i) (intsD r)
theorem strsV {K : Fg} {H : Hp} : ∀ {ss : List (List Nat)} {vs : List V}, Vls K H vs (ss.map D.str) → ∃ ys : List Str, vs = ys.map V.str ∧ ys.map tl = ss
  | [], _, .nil => ⟨[], rfl, rfl⟩
  | _ :: _, _, .cons h t => by
    obtain ⟨x, rfl, e⟩ := h.inv_str
    obtain ⟨ys, rfl, e2⟩ := strsV t
    exact ⟨x :: ys, rfl, by rw [List.map_cons, e, e2]⟩
def aSorted : A1c := fun ds A q => match ds with
  | [d] => onS A d fun xs => (∃ ns : List Int, xs = ns.map D.int ∧ ∀ ns' : List Int, ns'.Perm ns → ns'.Pairwise (· ≤ ·) → newL A (ns'.map D.int) q) ∨
    ∃ ss : List (List Nat), xs = ss.map D.str ∧ ss.length < 64 ∧ ∀ ys : List (List Nat), ys.Perm ss → srtL ys = true → newL A (ys.map D.str) q
  | _ => False
def rSrtU (K : Fg) : List V → Hp → VK → Prop := fun vs H Q => rSortedI K vs H Q ∨ rSortedS K vs H Q
theorem sim_sorted {K : Fg} : SimC K (rSrtU K) aSorted := by
  intro H A vs ds q Q R hv h k
  unfold aSorted at h
  split at h
  · obtain ⟨v, rfl, h1⟩ := hv.one
    obtain ⟨xs, a, ws, h, rfl, e1, r1⟩ := onS_of R h1 h
    rcases h with ⟨ns, rfl, h⟩ | ⟨ss, rfl, h64, h⟩
    · have := intsV r1
      subst this
      exact .inl ⟨_, ns, rfl, Rd.sq e1, fun ns' p hp ho hn => k _ _ _ _ (.new hn) (R.new hn (.lst (intsD ns'))) (.ref p) (h ns' hp ho p (R.none hn))⟩
    · obtain ⟨ys, rfl, rfl⟩ := strsV r1
      refine .inr ⟨_, ys, rfl, Rd.sq e1, by rw [List.length_map] at h64; exact h64, fun zs p hp ho hn => ?_⟩
      exact k _ _ _ _ (.new hn) (R.new hn (.lst (Vls.strs rfl))) (.ref p) (h (zs.map tl) (hp.map tl) (srt_ok zs ho) p (R.none hn))
  · exact h.elim
section
variable {X : Cx}
theorem cr_srtU : CallR X (.builtin "sorted") (rSrtU X.K) := by
  intro pins s σ H xs us Q I r h
  rcases h with h | h
  · exact cr_sortedI pins s σ H xs us Q I r h
  · exact cr_sortedS pins s σ H xs us Q I r h
theorem ba_sorted : BltA X (.builtin "sorted") (rSrtU X.K) aSorted := ⟨cr_srtU, sim_sorted⟩
end
end GA

namespace GA
open PySem PySem.Spec PyProof.Rows L2 GV TL
/-! ### len and list of a dict -/
def keyD' : Key → D
  | .inl i => .int i
  | .inr x => .str (tl x)
theorem keyD_val {K : Fg} {H : Hp} (k : Key) : Val K H (kV k) (keyD' k) := by
  cases k with
  | inl i => exact .int i
  | inr x => exact .str x
theorem keys_rel {K : Fg} {H : Hp} : ∀ {ws : List (Key × V)} {kvs : List (Key × D)}, RelKV K H ws kvs → Vls K H (ws.map fun kv => kV kv.1) (kvs.map fun kv => keyD' kv.1)
  | _, _, .nil => .nil
  | (a, v) :: ws, (b, d) :: kvs, .cons ⟨h1, _⟩ t => by
    dsimp only at h1
    subst h1
    exact .cons (keyD_val a) (keys_rel t)
def aLenD : A1c := fun ds A q => match ds with
  | [.ref a] => onD A a fun kvs => q (.int kvs.length) A
  | _ => False
def aListD : A1c := fun ds A q => match ds with
  | [.ref a] => onD A a fun kvs => newL A (kvs.map fun kv => keyD' kv.1) q
  | _ => False
theorem sim_lenD {K : Fg} : SimC K (fun xs H Q => ∃ a kvs, xs = [V.ref a] ∧ H a = some (.dK kvs) ∧ Q (.int kvs.length) H) aLenD := by
  intro H A vs ds q Q R hv h k
  unfold aLenD at h
  split at h
  · obtain ⟨v, rfl, h1⟩ := hv.one
    cases h1
    obtain ⟨kvs, e, h⟩ := h
    obtain ⟨ws, e1, r1⟩ := R.dic e
    exact ⟨_, ws, rfl, e1, by rw [relkv_len r1]; exact k H _ _ A .rfl R (.int _) h⟩
  · exact h.elim
theorem sim_listD {K : Fg} : SimC K (fun xs H Q => ∃ (a : Addr) (kvs : List (Key × V)), xs = [V.ref a] ∧ Rd H a (.dK kvs) ∧ ∀ p, H p = none → Q (.ref p) (upd H p (.lst (kvs.map fun kv => kV kv.1)))) aListD := by
  intro H A vs ds q Q R hv h k
  unfold aListD at h
  split at h
  · obtain ⟨v, rfl, h1⟩ := hv.one
    cases h1
    obtain ⟨kvs, e, h⟩ := h
    obtain ⟨ws, e1, r1⟩ := R.dic e
    exact ⟨_, ws, rfl, .inl e1, fun p hp => k _ _ _ _ (.new hp) (R.new hp (.lst (keys_rel r1))) (.ref p) (h p (R.none hp))⟩
  · exact h.elim
section
variable {X : Cx}
theorem ba_lenD : BltA X (.builtin "len") (fun xs H Q => ∃ a kvs, xs = [V.ref a] ∧ H a = some (.dK kvs) ∧ Q (.int kvs.length) H) aLenD := ⟨call_lenD, sim_lenD⟩
theorem ba_listD (hc : X.calm = true) : BltA X (.type "list") (fun xs H Q => ∃ (a : Addr) (kvs : List (Key × V)), xs = [V.ref a] ∧ Rd H a (.dK kvs) ∧ ∀ p, H p = none → Q (.ref p) (upd H p (.lst (kvs.map fun kv => kV kv.1)))) aListD := ⟨call_listD hc, sim_listD⟩
end
end GA

namespace GA
open PySem PySem.Spec PyProof.Rows L2 GV TL
/-! ### the plain side: heaps -/
def Ext (A A' : Ah) : Prop := ∀ b c, A b = some c → A' b = some c
/-- all but l is kept -/
def Kp (l : Addr) (A A' : Ah) : Prop := ∀ b c, b ≠ l → A b = some c → A' b = some c
theorem Ext.rfl {A : Ah} : Ext A A := fun _ _ h => h
theorem Ext.trans {A B C : Ah} (h : Ext A B) (g : Ext B C) : Ext A C := fun b c e => g b c (h b c e)
theorem Ext.new {A : Ah} {p : Addr} {c : Cell} (h : A p = none) : Ext A (updA A p c) := fun b d e => by
  rw [updA_ne (fun z => by rw [z, h] at e; cases e)]; exact e
theorem Ext.newer {A B : Ah} {p : Addr} {c : Cell} (g : Ext A B) (h : B p = none) : Ext A (updA B p c) := g.trans (.new h)
/-- a cell that was not there when the watch began may change -/
theorem Ext.upd {A B : Ah} {p : Addr} {c : Cell} (g : Ext A B) (h : A p = none) : Ext A (updA B p c) := fun b d e => by
  rw [updA_ne (fun z => by rw [z, h] at e; cases e)]; exact g b d e
theorem Ext.kp {A B : Ah} (h : Ext A B) {l : Addr} : Kp l A B := fun b c _ e => h b c e
theorem Kp.rfl {l : Addr} {A : Ah} : Kp l A A := fun _ _ _ h => h
theorem Kp.trans {l : Addr} {A B C : Ah} (h : Kp l A B) (g : Kp l B C) : Kp l A C := fun b c n e => g b c n (h b c n e)
theorem Kp.set {l : Addr} {A : Ah} {c : Cell} : Kp l A (updA A l c) := fun b d n e => by rw [updA_ne n]; exact e
theorem Kp.new {l p : Addr} {A B : Ah} {c : Cell} (g : Kp l A B) (h : B p = none) : Kp l A (updA B p c) := g.trans (Ext.new h).kp
theorem Kp.upd {l : Addr} {A B : Ah} {p : Addr} {c : Cell} (g : Kp l A B) (h : A p = none) : Kp l A (updA B p c) := fun b d n e => by
  rw [updA_ne (fun z => by rw [z, h] at e; cases e)]; exact g b d n e
/-- what was new since A stays apart -/
theorem Kp.at {l b : Addr} {A B : Ah} {c : Cell} (g : Kp l A B) (h : A b = some c) (n : b ≠ l) : B b = some c := g b c n h
/-! ### numbers -/
@[irreducible] def Wd : Int := 10 ^ 256
theorem Wd_lim : Wd.natAbs < lim := by decide +kernel
theorem Wd_big : (10 : Int) ^ 100 ≤ Wd := by decide +kernel

theorem smallW {i : Int} (h : 0 ≤ i) (g : i ≤ Wd) : SmallI i := Nat.lt_of_le_of_lt (by have := Wd_lim; omega) Wd_lim
theorem lim64 : 340282366920938463463374607431768211456 < lim := by decide +kernel
theorem small128 {i : Int} (h : -340282366920938463463374607431768211456 ≤ i) (g : i ≤ 340282366920938463463374607431768211456) : SmallI i := Nat.lt_of_le_of_lt (by omega) lim64
theorem lim60 : 1000000000000000000000000000000000000000000000000000000000000 < lim := by decide +kernel
theorem small60 {i : Int} (h : -1000000000000000000000000000000000000000000000000000000000000 ≤ i) (g : i ≤ 1000000000000000000000000000000000000000000000000000000000000) : SmallI i := Nat.lt_of_le_of_lt (by omega) lim60
theorem small_mod {a : Int} : SmallI (a % 18446744073709551557) := small128 (by omega) (by omega)
theorem small_mdiv {a : Int} : SmallI (a % 18446744073709551557 / 4294967296) := small128 (by omega) (by omega)
theorem small_mdiv2 {a : Int} : SmallI (a % 18446744073709551557 / 65536) := small128 (by omega) (by omega)
theorem mod_lo {a : Int} : 0 ≤ a % 18446744073709551557 := by omega
theorem mod_hi {a : Int} : a % 18446744073709551557 < 18446744073709551557 := by omega
/-! ### the store of a law -/
def stL (c0 c1 c2 c3 c4 c5 : Int) (r : List Int) : List D := .int c0 :: .int c1 :: .int c2 :: .int c3 :: .int c4 :: .int c5 :: r.map D.int
theorem stL_len {c0 c1 c2 c3 c4 c5 : Int} {r : List Int} : (stL c0 c1 c2 c3 c4 c5 r).length = r.length + 6 := by simp [stL]
theorem ixN_st {c0 c1 c2 c3 c4 c5 : Int} {r : List Int} {k : Nat} (h : k < 6) : L2.ixN (stL c0 c1 c2 c3 c4 c5 r).length (k : Int) = some k := by
  rw [stL_len]
  unfold L2.ixN
  rw [if_pos (by omega), if_pos (by omega)]
  rfl
theorem atI_st {c0 c1 c2 c3 c4 c5 : Int} {r : List Int} {k : Nat} {d : D} (h : k < 6) (e : (stL c0 c1 c2 c3 c4 c5 r)[k]? = some d) : L2.atI (stL c0 c1 c2 c3 c4 c5 r) (k : Int) = some d := by
  unfold L2.atI
  rw [ixN_st h]
  exact e
theorem atI_c0 {c0 c1 c2 c3 c4 c5 : Int} {r : List Int} : L2.atI (stL c0 c1 c2 c3 c4 c5 r) 0 = some (.int c0) := atI_st (k := 0) (by decide) rfl
theorem ixN_c0 {c0 c1 c2 c3 c4 c5 : Int} {r : List Int} : L2.ixN (stL c0 c1 c2 c3 c4 c5 r).length 0 = some 0 := ixN_st (k := 0) (by decide)
theorem atI_c1 {c0 c1 c2 c3 c4 c5 : Int} {r : List Int} : L2.atI (stL c0 c1 c2 c3 c4 c5 r) 1 = some (.int c1) := atI_st (k := 1) (by decide) rfl
theorem ixN_c1 {c0 c1 c2 c3 c4 c5 : Int} {r : List Int} : L2.ixN (stL c0 c1 c2 c3 c4 c5 r).length 1 = some 1 := ixN_st (k := 1) (by decide)
theorem atI_c2 {c0 c1 c2 c3 c4 c5 : Int} {r : List Int} : L2.atI (stL c0 c1 c2 c3 c4 c5 r) 2 = some (.int c2) := atI_st (k := 2) (by decide) rfl
theorem ixN_c2 {c0 c1 c2 c3 c4 c5 : Int} {r : List Int} : L2.ixN (stL c0 c1 c2 c3 c4 c5 r).length 2 = some 2 := ixN_st (k := 2) (by decide)
theorem atI_c3 {c0 c1 c2 c3 c4 c5 : Int} {r : List Int} : L2.atI (stL c0 c1 c2 c3 c4 c5 r) 3 = some (.int c3) := atI_st (k := 3) (by decide) rfl
theorem ixN_c3 {c0 c1 c2 c3 c4 c5 : Int} {r : List Int} : L2.ixN (stL c0 c1 c2 c3 c4 c5 r).length 3 = some 3 := ixN_st (k := 3) (by decide)
theorem atI_c4 {c0 c1 c2 c3 c4 c5 : Int} {r : List Int} : L2.atI (stL c0 c1 c2 c3 c4 c5 r) 4 = some (.int c4) := atI_st (k := 4) (by decide) rfl
theorem ixN_c4 {c0 c1 c2 c3 c4 c5 : Int} {r : List Int} : L2.ixN (stL c0 c1 c2 c3 c4 c5 r).length 4 = some 4 := ixN_st (k := 4) (by decide)
theorem atI_c5 {c0 c1 c2 c3 c4 c5 : Int} {r : List Int} : L2.atI (stL c0 c1 c2 c3 c4 c5 r) 5 = some (.int c5) := atI_st (k := 5) (by decide) rfl
theorem ixN_c5 {c0 c1 c2 c3 c4 c5 : Int} {r : List Int} : L2.ixN (stL c0 c1 c2 c3 c4 c5 r).length 5 = some 5 := ixN_st (k := 5) (by decide)
theorem atI_cr {c0 c1 c2 c3 c4 c5 : Int} {r : List Int} (h : 6 ≤ c0) (g : c0 < ((stL c0 c1 c2 c3 c4 c5 r).length : Int)) : ∃ z, z ∈ r ∧ L2.atI (stL c0 c1 c2 c3 c4 c5 r) c0 = some (.int z) := by
  have hl : c0.toNat - 6 < r.length := by
    rw [stL_len] at g
    omega
  refine ⟨r[c0.toNat - 6]'hl, List.getElem_mem _, ?_⟩
  unfold L2.atI L2.ixN
  rw [if_pos (by omega), if_pos g]
  show (stL c0 c1 c2 c3 c4 c5 r)[c0.toNat]? = _
  have hk : ∀ m, m < r.length → (stL c0 c1 c2 c3 c4 c5 r)[m + 6]? = (r[m]?).map D.int := fun m _ => by simp [stL]
  have h6 : (c0.toNat - 6) + 6 = c0.toNat := by omega
  have h7 := hk _ hl
  rw [h6, List.getElem?_eq_getElem hl] at h7
  exact h7
structure StI (c0 c1 c2 c3 c4 c5 : Int) (r : List Int) (n : Nat) : Prop where
  len : r.length ≤ 64
  h0 : 6 ≤ c0
  h1 : 0 ≤ c1 ∧ c1 ≤ Wd
  h2 : 0 ≤ c2 ∧ c2 ≤ 60
  h3 : 0 ≤ c3 ∧ c3 ≤ 1
  h4 : 0 ≤ c4 ∧ c4 ≤ n
  h5 : 0 ≤ c5 ∧ c5 ≤ Wd
  hr : ∀ i ∈ r, 0 ≤ i ∧ i ≤ Wd
def St (A : Ah) (l : Addr) (n : Nat) : Prop := ∃ c0 c1 c2 c3 c4 c5 r, A l = some (.lst (stL c0 c1 c2 c3 c4 c5 r)) ∧ StI c0 c1 c2 c3 c4 c5 r n
theorem St.mono {A : Ah} {l : Addr} {n m : Nat} (h : St A l n) (g : n ≤ m) : St A l m := by
  obtain ⟨c0, c1, c2, c3, c4, c5, r, e, i⟩ := h
  exact ⟨c0, c1, c2, c3, c4, c5, r, e, ⟨i.len, i.h0, i.h1, i.h2, i.h3, by have := i.h4; omega, i.h5, i.hr⟩⟩
theorem St.ext {A B : Ah} {l : Addr} {n : Nat} (h : St A l n) (g : Ext A B) : St B l n := by
  obtain ⟨c0, c1, c2, c3, c4, c5, r, e, i⟩ := h
  exact ⟨c0, c1, c2, c3, c4, c5, r, g _ _ e, i⟩
theorem St.some {A : Ah} {l : Addr} {n : Nat} (h : St A l n) : ∃ xs, A l = some (.lst xs) := let ⟨_, _, _, _, _, _, _, e, _⟩ := h; ⟨_, e⟩
theorem St.ne {A : Ah} {l p : Addr} {n : Nat} (h : St A l n) (g : A p = none) : p ≠ l := by
  obtain ⟨xs, e⟩ := h.some
  intro z; rw [z, e] at g; cases g
theorem Kp.none {l p : Addr} {A B : Ah} (K : Kp l A B) (h : B p = Option.none) (n : p ≠ l) : A p = Option.none := by
  cases e : A p with
  | none => rfl
  | some c => rw [K _ _ n e] at h; cases h
theorem Ext.none {p : Addr} {A B : Ah} (K : Ext A B) (h : B p = Option.none) : A p = Option.none := by
  cases e : A p with
  | none => rfl
  | some c => rw [K _ _ e] at h; cases h
theorem St.upd {A : Ah} {l p : Addr} {n : Nat} {c : Cell} (h : St A l n) (g : p ≠ l) : St (updA A p c) l n := by
  obtain ⟨c0, c1, c2, c3, c4, c5, r, e, i⟩ := h
  exact ⟨c0, c1, c2, c3, c4, c5, r, by rw [updA_ne (Ne.symm g)]; exact e, i⟩
/-- what can be picked from -/
def Items (A : Ah) (d : D) (xs : List D) : Prop := (∃ cs, d = .str cs ∧ xs = cs.map fun c => .str [c]) ∨ (∃ p, d = .ref p ∧ A p = some (.lst xs)) ∨ d = .tup xs ∨ d = .fl xs
/-- a comprehension whose body takes every item and leaves the heap as it is -/
theorem lc_of {it : ItA} {A1 : Ah} {g : AG} {c : AT} {e : AE} {vs : List Nat} {Γ : Gt} {q : D → Ah → Prop} (f : Nat → D) (hsrc : it.src = none) (hn : it.n ≤ big)
    (body : ∀ (i : Nat) (A' : Ah) (k : D → Ah → Prop) (sk : Ah → Prop), i < it.n → Ext A1 A' → k (f i) A' → g (it.item i) (wipeG Γ vs) A' fun Γ2 A2 => c Γ2 A2 (fun b A3 => bsel b (e Γ2 A3 k fun _ _ => False) (sk A3)) fun _ _ => False)
    (done : ∀ p, A1 p = none → q (.ref p) (updA A1 p (.lst ((List.range it.n).map f)))) :
    lcR it A1 g c e vs Γ q := by
  unfold lcR
  intro p hp
  refine ⟨fun i acc A' => acc = (List.range i).map f ∧ A' = updA A1 p (.lst acc), ⟨rfl, rfl⟩, ?_, ?_, ?_⟩
  · rintro i acc A' _ ⟨rfl, rfl⟩
    refine ⟨?_, updA_same⟩
    unfold ItA.still
    rw [hsrc]
    trivial
  · rintro i acc A' hi ⟨rfl, rfl⟩
    refine body i _ _ (fun A3 => ∃ ac, A3 p = some (.lst ac) ∧ ac = (List.range (i + 1)).map f ∧ A3 = updA A1 p (.lst ac)) hi (fun b d h => ?_) ⟨_, updA_same, by rw [List.length_map, List.length_range]; omega, ?_, updA_updA⟩
    · rw [updA_ne (fun z => by rw [z, hp] at h; cases h)]; exact h
    · rw [List.range_succ, List.map_append]; rfl
  · rintro acc A' ⟨rfl, rfl⟩
    exact done p hp
end GA

namespace GA
open PySem PySem.Spec PyProof.Rows L2 GV TL
theorem atI_zero' {α : Type} {c : α} {r : List α} : L2.atI (c :: r) 0 = some c := by
  unfold L2.atI L2.ixN
  rw [if_pos (by omega), if_pos (by rw [List.length_cons]; omega)]
  rfl
theorem atI_one' {α : Type} {c d : α} {r : List α} : L2.atI (c :: d :: r) 1 = some d := by
  unfold L2.atI L2.ixN
  rw [if_pos (by omega), if_pos (by rw [List.length_cons, List.length_cons]; omega)]
  rfl
/-- the same for one without a heap hypothesis -/
theorem map_range_getD {α : Type} {L : List α} {d : D} (f : α → D) (g : D → D) : (List.range (L.map f).length).map (fun i => g ((L.map f).getD i d)) = L.map fun a => g (f a) := by
  apply List.ext_getElem
  · simp
  · intro i h1 h2
    simp only [List.length_map, List.length_range] at h1
    simp [List.getD_eq_getElem?_getD, List.getElem?_eq_getElem h1]
theorem map_getD {α : Type} {L : List α} {d : D} (f : α → D) {i : Nat} (h : i < L.length) : (L.map f).getD i d = f L[i] := by
  rw [List.getD_eq_getElem?_getD, List.getElem?_map, List.getElem?_eq_getElem h]; rfl
theorem atI_map {α : Type} {L : List α} (f : α → D) {i : Nat} (h : i < L.length) : L2.atI (L.map f) (i : Int) = some (f L[i]) := by
  unfold L2.atI L2.ixN
  rw [if_pos (by omega), if_pos (by rw [List.length_map]; omega)]
  show (L.map f)[((i : Int)).toNat]? = _
  rw [Int.toNat_natCast, List.getElem?_map, List.getElem?_eq_getElem h]; rfl
/-- a comprehension with a condition -/
theorem lc_fil {it : ItA} {A1 : Ah} {g : AG} {c : AT} {e : AE} {vs : List Nat} {Γ : Gt} {q : D → Ah → Prop} (f : Nat → D) (pr : Nat → Bool) (hsrc : it.src = none) (hn : it.n ≤ big)
    (body : ∀ (i : Nat) (A' : Ah) (k : D → Ah → Prop) (sk : Ah → Prop), i < it.n → Ext A1 A' → (pr i = true → k (f i) A') → (pr i = false → sk A') → g (it.item i) (wipeG Γ vs) A' fun Γ2 A2 => c Γ2 A2 (fun b A3 => bsel b (e Γ2 A3 k fun _ _ => False) (sk A3)) fun _ _ => False)
    (done : ∀ p, A1 p = none → q (.ref p) (updA A1 p (.lst (((List.range it.n).filter pr).map f)))) :
    lcR it A1 g c e vs Γ q := by
  unfold lcR
  intro p hp
  refine ⟨fun i acc A' => acc = ((List.range i).filter pr).map f ∧ A' = updA A1 p (.lst acc), ⟨rfl, rfl⟩, ?_, ?_, ?_⟩
  · rintro i acc A' _ ⟨rfl, rfl⟩
    refine ⟨?_, updA_same⟩
    unfold ItA.still
    rw [hsrc]
    trivial
  · rintro i acc A' hi ⟨rfl, rfl⟩
    have hr : (List.range (i + 1)).filter pr = (List.range i).filter pr ++ if pr i = true then [i] else [] := by
      rw [List.range_succ, List.filter_append]
      congr 1
      cases h : pr i <;> simp [h]
    refine body i _ _ (fun A3 => ∃ ac, A3 p = some (.lst ac) ∧ ac = ((List.range (i + 1)).filter pr).map f ∧ A3 = updA A1 p (.lst ac)) hi (fun b d h => ?_) (fun hpr => ⟨_, updA_same, ?_, ?_, updA_updA⟩) (fun hpr => ⟨_, updA_same, ?_, rfl⟩)
    · rw [updA_ne (fun z => by rw [z, hp] at h; cases h)]; exact h
    · have := List.length_filter_le pr (List.range i)
      rw [List.length_range] at this
      rw [List.length_map]; omega
    · rw [hr, if_pos hpr, List.map_append]; rfl
    · rw [hr, if_neg (by rw [hpr]; decide), List.append_nil]
  · rintro acc A' ⟨rfl, rfl⟩
    exact done p hp
def optP {α : Type} (p : α → Bool) : Option α → Bool
  | some b => p b
  | none => false
theorem flt_len {α : Type} (p : α → Bool) : ∀ L : List α, ((List.range L.length).filter fun i => optP p L[i]?).length = L.countP p
  | [] => rfl
  | a :: r => by
    have ih := flt_len p r
    rw [List.length_cons, List.range_succ_eq_map, List.filter_cons, List.filter_map, List.countP_cons]
    have e : ((fun i => optP p (a :: r)[i]?) ∘ Nat.succ) = fun i => optP p r[i]? := rfl
    rw [e]
    have h0 : optP p (a :: r)[0]? = p a := rfl
    rw [h0]
    cases h : p a with
    | true => simp only [if_true, List.length_cons, List.length_map]; rw [ih]
    | false => simp only [Bool.false_eq_true, if_false, List.length_map]; rw [ih]; rfl
/-! ### cuts -/
theorem cut_to {α : Type} {xs : List α} {k : Nat} : cutD xs none (some (k : Int)) = xs.take k := by
  unfold cutD
  rw [HT.sIx_nat, HT.sIx_none, List.drop_zero, Nat.sub_zero, ← List.take_take, List.take_length]
theorem cut_from {α : Type} {xs : List α} {k : Nat} : cutD xs (some (k : Int)) none = xs.drop k := by
  unfold cutD
  rw [HT.sIx_nat, HT.sIx_none, List.take_of_length_le (by rw [List.length_drop]; omega)]
  by_cases h : k ≤ xs.length
  · rw [Nat.min_eq_left h]
  · rw [Nat.min_eq_right (by omega), List.drop_length, List.drop_eq_nil_of_le (by omega)]
theorem cut_mid {α : Type} {xs : List α} {k m : Nat} : cutD xs (some (k : Int)) (some (m : Int)) = (xs.drop k).take (m - k) := by
  unfold cutD
  rw [HT.sIx_nat, HT.sIx_nat]
  by_cases h : k ≤ xs.length
  · rw [Nat.min_eq_left h]
    by_cases g : m ≤ xs.length
    · rw [Nat.min_eq_left g]
    · rw [Nat.min_eq_right (by omega), List.take_of_length_le (by rw [List.length_drop]; omega), List.take_of_length_le (by rw [List.length_drop]; omega)]
  · rw [Nat.min_eq_right (a := k) (by omega), List.drop_length, List.take_nil, List.drop_eq_nil_of_le (by omega), List.take_nil]
theorem cut_map {α β : Type} {xs : List α} {f : α → β} {lo hi : Option Int} : cutD (xs.map f) lo hi = (cutD xs lo hi).map f := by
  unfold cutD
  rw [List.length_map, List.map_take, List.map_drop]
theorem toN {i : Int} (h : 0 ≤ i) : ∃ k : Nat, i = k := Int.eq_ofNat_of_zero_le h
/-! ### lists without doubles -/
theorem nodup_len {α : Type} [DecidableEq α] : ∀ {l m : List α}, l.Nodup → (∀ a ∈ l, a ∈ m) → l.length ≤ m.length
  | [], _, _, _ => Nat.zero_le _
  | a :: r, m, h, s => by
    have hm : a ∈ m := s a List.mem_cons_self
    obtain ⟨h1, h2⟩ := List.nodup_cons.mp h
    have := nodup_len (m := m.erase a) h2 fun b hb => (List.mem_erase_of_ne (fun z => h1 (by rw [← z]; exact hb))).mpr (s b (List.mem_cons_of_mem _ hb))
    rw [List.length_erase_of_mem hm] at this
    have := List.length_pos_of_mem hm
    rw [List.length_cons]
    omega
/-! ### dicts of texts to numbers -/
abbrev kS (c : List Nat) : Key := .inr ⟨c.toArray⟩
theorem kS_inj {c d : List Nat} (h : kS c = kS d) : c = d := by
  have h : (⟨c.toArray⟩ : Str) = ⟨d.toArray⟩ := Sum.inr.inj h
  have h : c.toArray = d.toArray := congrArg (fun s : Str => s.cps) h
  simpa using h
structure Mp (kvs : List (Key × D)) (f : List Nat → Option Int) : Prop where
  nd : (kvs.map (·.1)).Nodup
  ks : ∀ k ∈ kvs.map (·.1), ∃ c, k = kS c
  get : ∀ c, getD' kvs (kS c) = (f c).map D.int
theorem getD'_none {kvs : List (Key × D)} {k : Key} : getD' kvs k = none ↔ k ∉ kvs.map (·.1) := by
  unfold getD'
  rw [Option.map_eq_none_iff, List.find?_eq_none]
  constructor
  · intro h m
    obtain ⟨p, hp, e⟩ := List.mem_map.mp m
    exact h p hp (by simpa using e)
  · intro h p hp z
    exact h (List.mem_map.mpr ⟨p, hp, by simpa using z⟩)
theorem any_key {kvs : List (Key × D)} {k : Key} : (kvs.any fun kv => decide (kv.1 = k)) = true ↔ k ∈ kvs.map (·.1) := by
  rw [List.any_eq_true, List.mem_map]
  constructor
  · rintro ⟨p, h, e⟩; exact ⟨p, h, by simpa using e⟩
  · rintro ⟨p, h, e⟩; exact ⟨p, h, by simpa using e⟩
theorem putD_keys {kvs : List (Key × D)} {k : Key} {v : D} : (k ∈ kvs.map (·.1) ∧ (putD kvs k v).map (·.1) = kvs.map (·.1)) ∨ (k ∉ kvs.map (·.1) ∧ (putD kvs k v).map (·.1) = kvs.map (·.1) ++ [k]) := by
  unfold putD
  by_cases h : k ∈ kvs.map (·.1)
  · refine .inl ⟨h, ?_⟩
    rw [if_pos (any_key.mpr h), List.map_map]
    apply List.map_congr_left
    intro p _
    show (if p.1 = k then (p.1, v) else p).1 = p.1
    split <;> rfl
  · refine .inr ⟨h, ?_⟩
    rw [if_neg (fun z => h (any_key.mp z)), List.map_append]; rfl
theorem putD_get {kvs : List (Key × D)} {k k' : Key} {v : D} : getD' (putD kvs k v) k' = if k' = k then some v else getD' kvs k' := by
  unfold putD
  by_cases h : k ∈ kvs.map (·.1)
  · rw [if_pos (any_key.mpr h)]
    induction kvs with
    | nil => cases h
    | cons p r ih =>
      unfold getD' at ih ⊢
      rw [List.map_cons, List.find?_cons, List.find?_cons]
      by_cases e : p.1 = k
      · by_cases e' : k' = k
        · simp [e, e']
        · have : ¬ p.1 = k' := fun z => e' (by rw [← z, e])
          have h2 : ¬ k = k' := fun z => e' z.symm
          simp only [e, if_true, h2, e', if_false, decide_false]
          by_cases hr : k ∈ r.map (·.1)
          · have := ih hr
            rw [if_neg e'] at this
            exact this
          · have : r.map (fun kv => if kv.1 = k then (kv.1, v) else kv) = r := by
              rw [List.map_congr_left (g := id) (fun q hq => if_neg fun (z : q.1 = k) => hr (z ▸ List.mem_map_of_mem hq)), List.map_id]
            rw [this]
      · have hr : k ∈ r.map (·.1) := by
          rcases List.mem_cons.mp h with z | z
          · exact (e z.symm).elim
          · exact z
        simp only [e, if_false]
        by_cases e2 : p.1 = k'
        · have : ¬ k' = k := fun z => e (e2.trans z)
          simp [e2, this]
        · simp only [e2, decide_false]
          exact ih hr
  · rw [if_neg (fun z => h (any_key.mp z))]
    unfold getD'
    rw [List.find?_append]
    by_cases e : k' = k
    · subst e
      have : getD' kvs k' = none := getD'_none.mpr h
      unfold getD' at this
      rw [Option.map_eq_none_iff] at this
      simp [this]
    · have : ¬ k = k' := fun z => e z.symm
      simp [e, this]
theorem putD_len {kvs : List (Key × D)} {k : Key} {v : D} : (putD kvs k v).length ≤ kvs.length + 1 := by
  unfold putD
  split <;> simp
theorem putD_len' {kvs : List (Key × D)} {k : Key} {v : D} (h : getD' kvs k ≠ none) : (putD kvs k v).length = kvs.length := by
  have hm : k ∈ kvs.map (·.1) := by
    by_cases m : k ∈ kvs.map (·.1)
    · exact m
    · exact (h (getD'_none.mpr m)).elim
  unfold putD
  rw [if_pos (any_key.mpr hm), List.length_map]
theorem Mp.nil : Mp [] fun _ => none := ⟨List.nodup_nil, nofun, fun _ => rfl⟩
theorem Mp.put {kvs : List (Key × D)} {f : List Nat → Option Int} (h : Mp kvs f) (c : List Nat) (i : Int) : Mp (putD kvs (kS c) (.int i)) fun d => if d = c then some i else f d where
  nd := by
    rcases putD_keys (kvs := kvs) (k := kS c) (v := .int i) with ⟨hm, e⟩ | ⟨hm, e⟩
    · rw [e]; exact h.nd
    · rw [e]; exact List.nodup_append.mpr ⟨h.nd, by simp, fun a ha b hb => by rw [List.mem_singleton.mp hb]; exact fun z => hm (by rw [← z]; exact ha)⟩
  ks := fun k hk => by
    rcases putD_keys (kvs := kvs) (k := kS c) (v := .int i) with ⟨hm, e⟩ | ⟨hm, e⟩
    · rw [e] at hk; exact h.ks k hk
    · rw [e] at hk
      rcases List.mem_append.mp hk with m | m
      · exact h.ks k m
      · exact ⟨c, List.mem_singleton.mp m⟩
  get := fun d => by
    rw [putD_get]
    by_cases e : d = c
    · subst e; rw [if_pos rfl, if_pos rfl]; rfl
    · rw [if_neg (fun z => e (kS_inj z)), if_neg e]; exact h.get d
theorem Mp.mem {kvs : List (Key × D)} {f : List Nat → Option Int} (h : Mp kvs f) {c : List Nat} : kS c ∈ kvs.map (·.1) ↔ f c ≠ none := by
  have := getD'_none (kvs := kvs) (k := kS c)
  rw [h.get, Option.map_eq_none_iff] at this
  constructor
  · intro m e; exact this.mp e m
  · intro e
    by_cases m : kS c ∈ kvs.map (·.1)
    · exact m
    · exact (e (this.mpr m)).elim
theorem Mp.le {kvs es : List (Key × D)} {f : List Nat → Option Int} (h : Mp kvs f) (g : Mp es f) : kvs.length ≤ es.length := by
  have := nodup_len (l := kvs.map (·.1)) (m := es.map (·.1)) h.nd fun k hk => by
    obtain ⟨c, rfl⟩ := h.ks k hk
    exact g.mem.mpr (h.mem.mp hk)
  simpa using this
theorem Mp.len {kvs es : List (Key × D)} {f : List Nat → Option Int} (h : Mp kvs f) (g : Mp es f) : kvs.length = es.length := Nat.le_antisymm (h.le g) (g.le h)
theorem Mp.congr {kvs : List (Key × D)} {f g : List Nat → Option Int} (h : Mp kvs f) (e : ∀ c, f c = g c) : Mp kvs g := ⟨h.nd, h.ks, fun c => by rw [← e]; exact h.get c⟩
theorem keyOf_str {c : List Nat} : keyOf (.str c) = some (kS c) := rfl
end GA

namespace GA
open PySem PySem.Spec PyProof.Rows L2 GV TL
/-! ### how many truth values of a list are this one -/
def cntR (K : Fg) : V → List V → Hp → VK → Prop := fun x xs H Q => ∃ (a : Addr) (bs : List Bool) (k : Bool), x = .ref a ∧ xs = [.bl k] ∧ SqL K H a (bs.map V.bl) ∧ Q (.int (bs.count k : Nat)) H
theorem blsV : ∀ {bs : List Bool} {us : List Value}, Vals (bs.map V.bl) us → us = bs.map Value.bool
  | [], _, h => by cases h; rfl
  | b :: r, _, h => by
    cases h with
    | cons h1 h2 =>
      cases h1
      rw [blsV h2]
      rfl
theorem blsCount (k : Bool) : ∀ bs : List Bool, (bs.map Value.bool).countP (PyProof.Rows.isBoolOf k) = bs.count k
  | [] => rfl
  | b :: r => by
    have e : PyProof.Rows.isBoolOf k (.bool b) = (b == k) := rfl
    rw [List.map_cons, List.countP_cons, List.count_cons, blsCount k r, e]
section
variable {X : Cx}
theorem mt_cntB : MtR X "list.count" (cntR X.K) := by
  intro pins s σ H x xs v us Q I hx hxs h
  obtain ⟨a, bs, k, rfl, rfl, hs, hq⟩ := h
  cases hx
  obtain ⟨u, rfl, hu⟩ := hxs.one
  cases hu
  obtain ⟨its, hv, hp, hn⟩ := I.list hs
  have hb := blsV hv
  subst hb
  obtain ⟨⟨cl, dd, dt, sl⟩, n, g1, g2, g3, g4⟩ := hp
  dsimp only at g2 g4
  subst g2
  subst g4
  refine call_meets PySem.F.slot_list_count ⟨_, g1, rfl⟩ PySem.F.entry_list_count (PySem.F.args_list_count_2 _ _) (PySem.SeqAt.list_countAt a (bs.map Value.bool).toArray n dd sl (.bool k) (PyProof.Rows.isBoolOf k)) ⟨g1, fun y hy => ?_, ?_⟩
  · have hy : y ∈ bs.map Value.bool := by simpa using hy
    obtain ⟨b, _, rfl⟩ := List.mem_map.mp hy
    exact PySem.SeqAt.EqAt.bool_bool b k
  · refine ⟨.int (bs.count k : Nat), H, I.tok _, ⟨s.toks, ?_⟩, hq⟩
    show Value.int (((bs.map Value.bool).countP (PyProof.Rows.isBoolOf k) : Nat) : Int) s.toks = _
    rw [blsCount]
end
def aCount : A1m := fun d ds A q => match d, ds with
  | d, [.bl k] => onS A d fun xs => ∃ bs : List Bool, xs = bs.map D.bl ∧ q (.int (bs.count k : Nat)) A
  | _, _ => False
theorem blsD {K : Fg} {H : Hp} : ∀ {bs : List Bool} {vs : List V}, Vls K H vs (bs.map D.bl) → vs = bs.map V.bl
  | [], _, .nil => rfl
  | _ :: _, _, .cons h t => by cases h; rw [blsD t]; rfl
theorem sim_count {K : Fg} : SimM K "list" (cntR K) aCount := by
  intro H A v d vs ds q Q R hv hvs h k
  unfold aCount at h
  split at h
  · obtain ⟨w, rfl, hw⟩ := hvs.one
    obtain ⟨xs, a, ws, ⟨bs, rfl, h⟩, rfl, e1, r1⟩ := onS_of R hv h
    have := blsD r1
    subst this
    cases hw
    exact ⟨_, bs, _, rfl, rfl, Rd.sq e1, k _ _ _ A .rfl R (.int _) h⟩
  · exact h.elim
/-! ### sum of a list of numbers -/
def aSum : A1c := fun ds A q => match ds with
  | [d] => onS A d fun xs => ∃ ns : List Int, xs = ns.map D.int ∧ q (.int ns.sum) A
  | _ => False
theorem sim_sum {K : Fg} : SimC K (rSum K) aSum := by
  intro H A vs ds q Q R hv h k
  unfold aSum at h
  split at h
  · obtain ⟨v, rfl, h1⟩ := hv.one
    obtain ⟨xs, a, ws, ⟨ns, rfl, h⟩, rfl, e1, r1⟩ := onS_of R h1 h
    have := intsV r1
    subst this
    exact ⟨_, ns, rfl, Rd.sq e1, k _ _ _ A .rfl R (.int _) h⟩
  · exact h.elim
section
variable {X : Cx} {W : WX}
theorem ba_sum (hc : X.calm = true) : BltA X (.builtin "sum") (rSum X.K) aSum := ⟨cr_sum hc, sim_sum⟩
theorem ml_count : MthL X "count" "list.count" (cntR X.K) aCount := ⟨PySem.F.slot_list_count, PySem.F.type_list_count, mt_cntB, sim_count⟩
end
/-! ### list(range(i, j)) -/
theorem rgD {K : Fg} {H : Hp} (i j : Int) : Vls K H (rgV i j) ((List.range (j - i).toNat).map fun k => D.int (i + (k : Nat))) := by
  unfold rgV
  generalize List.range (j - i).toNat = l
  induction l with
  | nil => exact .nil
  | cons k r ih => exact .cons (.int _) ih
def aLRng2 (a b : AE) : AE := fun Γ A q x => a Γ A (fun d A1 => b Γ A1 (fun e A2 => match d, e with
  | .int i, .int j => (0 ≤ i ∧ i ≤ 16777216 ∧ 0 ≤ j ∧ j ≤ 16777216) ∧ newL A2 ((List.range (j - i).toNat).map fun k => D.int (i + (k : Nat))) q
  | _, _ => False) x) x
section
variable {X : Cx} {W : WX} {a b : Expr} {ta tb : TE} {aa ab : AE} {p p2 pos pos2 : Pos}
theorem ga_lrng2 (hc : X.calm = true) (ha : PEA X W a ta aa) (hb : PEA X W b tb ab) (hm : X.mg "range" = none) (hm2 : X.mg "list" = none) (hg : Gl X "range" := by rfl) (hg2 : Gl X "list" := by rfl)
    (na : starEach [a, b] X.env = (false, eval a X.env) :: starEach [b] X.env := by rfl) (nb : starEach [b] X.env = (false, eval b X.env) :: starEach [] X.env := by rfl) (hpl : (backTo pos (starEach [b] X.env)).any (·.1) = false := by rfl)
    (ne : starEach [(.Call (.Name "range" p) [a, b] [] pos : Expr)] X.env = (false, eval (.Call (.Name "range" p) [a, b] [] pos) X.env) :: starEach [] X.env := by rfl) :
    PEA X W (.Call (.Name "list" p2) [.Call (.Name "range" p) [a, b] [] pos] [] pos2) (tLstRg (tRg2 ta tb)) (aLRng2 aa ab) where
  pe := pe_listRg hc hg2 hm2 (prg_2 hg hm ha.pe hb.pe na nb hpl) ne
  sim := fun σ H Γ A q x Q R S h k kx => ha.sim σ H Γ A _ x _ R S h (fun H1 v d A1 n1 R1 v1 h1 => hb.sim σ H1 Γ A1 _ x _ R1 (S.mono n1) h1 (fun H2 w e A2 n2 R2 v2 h2 => by
    split at h2
    · rename_i i j
      cases v1
      cases v2
      obtain ⟨⟨b1, b2, b3, b4⟩, h2⟩ := h2
      exact ⟨_, _, rfl, rfl, RgOk.of_le b1 b4 b2 b3, fun r hr => k _ _ _ _ ((n1.trans n2).trans (.new hr)) (R2.new hr (.lst (rgD i j))) (.ref r) (h2 r (R2.none hr))⟩
    · exact h2.elim) fun H2 e A2 n2 R2 h2 => kx H2 e A2 (n1.trans n2) R2 h2) kx
end
/-! ### {"k": v, ..} -/
def dispK (ks : List (List Nat)) (ds : List D) : List (Key × D) := (ks.zip ds).foldl (fun acc kv => putD acc (kS kv.1) kv.2) []
def aDisp (ks : List (List Nat)) (as : AA) : AE := fun Γ A q x => ∀ p, A p = none → as Γ (updA A p (.dic [])) (fun ds A2 => A2 p = some (.dic []) ∧ q (.ref p) (updA A2 p (.dic (dispK ks ds)))) x
structure PDA (X : Cx) (W : WX) (pos : Pos) (keys : List (Option Expr)) (values : List Expr) (trs : List (TE × TE)) (ks : List (List Nat)) (aa : AA) : Prop where
  pps : PPs X pos keys values trs
  sim : ∀ (σ : L2.St) (H : Hp) (Γ : Gt) (A : Ah) (q : List D → Ah → Prop) (x : AX) (Q : List (V × V) → Hp → Prop), RelA X.K H A → Slots X.K H σ Γ → aa Γ A q x →
    (∀ H' (us : List Str) vs ds A', Nxt X.K H H' → RelA X.K H' A' → us.map tl = ks → us.length = vs.length → Vls X.K H' vs ds → q ds A' → Q ((us.zip vs).map fun kv => (V.str kv.1, kv.2)) H') → (∀ H' e A', Nxt X.K H H' → RelA X.K H' A' → x e A' → W (exC X.K e) (some e.d) σ H') → tPairs trs σ H Q
section
variable {X : Cx} {W : WX} {pos : Pos} {keys : List (Option Expr)} {values : List Expr} {trs : List (TE × TE)} {ks : List (List Nat)} {aa : AA} {v : Expr} {tv : TE} {av : AE}
theorem gd_nil : PDA X W pos [] [] [] [] aNil := ⟨pps_nil, fun σ H Γ A q x Q R S h k _ => k H [] [] [] A .rfl R rfl rfl .nil h⟩
theorem gd_cons {key : Str} {j : Nat} {kp : Pos} (hv : PEA X W v tv av) (h : PDA X W pos keys values trs ks aa) : PDA X W pos (some (.Constant (.str key) j kp) :: keys) (v :: values) ((tC (.str key), tv) :: trs) (tl key :: ks) (aCons av aa) where
  pps := pps_cons pe_str hv.pe h.pps
  sim := fun σ H Γ A q x Q R S hh k kx => hv.sim σ H Γ A _ x _ R S hh (fun H1 w d A1 n1 R1 v1 h1 => h.sim σ H1 Γ A1 _ x _ R1 (S.mono n1) h1 (fun H2 us vs ds A2 n2 R2 eu el v2 h2 => k H2 (key :: us) (w :: vs) (d :: ds) A2 (n1.trans n2) R2 (by rw [List.map_cons, eu]) (by rw [List.length_cons, List.length_cons, el]) (.cons (v1.mono n2) v2) h2) fun H2 e A2 n2 R2 h2 => kx H2 e A2 (n1.trans n2) R2 h2) kx
theorem kS_tl (u : Str) : kS (tl u) = (Sum.inr u : Key) := by
  show (Sum.inr (⟨(tl u).toArray⟩ : Str) : Key) = _
  rw [mk_tl]
theorem disp_rel {K : Fg} {H : Hp} : ∀ (us : List Str) {vs : List V} {ds : List D} {ws : List (Key × V)} {kvs : List (Key × D)}, Vls K H vs ds → us.length = vs.length → RelKV K H ws kvs →
    RelKV K H (((us.zip vs).map fun kv => ((Sum.inr kv.1 : Key), kv.2)).foldl (fun acc kv => putK acc kv.1 kv.2) ws) (((us.map tl).zip ds).foldl (fun acc kv => putD acc (kS kv.1) kv.2) kvs)
  | [], _, _, _, _, _, _, h => h
  | u :: us, _, _, _, _, .nil, e, _ => by cases e
  | u :: us, _, _, _, _, .cons h1 h2, e, h => by
    rw [List.map_cons, List.zip_cons_cons, List.zip_cons_cons, List.map_cons, List.foldl_cons, List.foldl_cons, kS_tl]
    exact disp_rel us h2 (by simpa using e) (relkv_put h h1)
theorem ga_disp (h : PDA X W pos keys values trs ks aa) (hall : keys.all (·.isSome) = true := by rfl) (hl : keys.length = values.length := by rfl) (h0 : keys ≠ [] := by nofun) (h15 : keys.length ≤ 15 := by decide) (hk : ks.length = keys.length := by rfl) :
    PEA X W (.Dict keys values pos) (tDisp trs) (aDisp ks aa) where
  pe := pe_disp h.pps hall hl h0 h15
  sim := fun σ H Γ A q x Q R S hh k kx p hp => by
    have n0 : Nxt X.K H (upd H p (.dK [])) := .new hp
    refine h.sim σ _ Γ _ _ x _ (R.new hp (.dic .nil)) (S.mono n0) (hh p (R.none hp)) (fun H2 us vs ds A2 n2 R2 eu el v2 h2 => ?_) fun H2 e A2 n2 R2 h2 => kx H2 e A2 (n0.trans n2) R2 h2
    obtain ⟨e2, h2⟩ := h2
    obtain ⟨ws, e3, r3⟩ := R2.dic e2
    cases r3
    have ul : us.length = ks.length := by rw [← eu, List.length_map]
    refine ⟨e3, (us.zip vs).map fun kv => ((Sum.inr kv.1 : Key), kv.2), ?_, ?_, ?_⟩
    · rw [List.map_map]; rfl
    · rw [List.length_map, List.length_zip]; omega
    · have n4 : Nxt X.K H2 (upd H2 p (.dK (mergeK [] ((us.zip vs).map fun kv => ((Sum.inr kv.1 : Key), kv.2))))) := .set e3 noTup_dK
      refine k _ _ _ _ ((n0.trans n2).trans n4) (R2.set e3 noTup_dK (.dic ?_)) (.ref p) h2
      have := disp_rel us v2 el (ws := []) (kvs := []) .nil
      rw [eu] at this
      exact this
end
/-! ### x *= e; a, b, c = x, y, z -/
def aAugM (i : Nat) (a : AE) : AS := fun D Γ A => match Γ[i]? with
  | some (some (.int m)) => a Γ A (fun d A1 => match d with
    | .int n => (-18446744073709551616 < n ∧ n < 18446744073709551616) ∧ D.nx (Γ.set i (some (.int (m * n)))) A1
    | _ => False) fun e A' => D.ex e Γ A'
  | _ => False
theorem ip_mulI {X : Cx} : PIp X .Mult (rI CMul fun i j => .int (i * j)) := fun pins s σ H x y v u Q I r1 r2 h => iop_mul pins s σ H x y v u Q I r1 r2 h
section
variable {X : Cx} {W : WX} {e : Expr} {te : TE} {ae : AE} {pos pos' : Pos}
theorem gs_augM {i : Nat} {x : Str} (hN : X.N.Nodup) (h : PEA X W e te ae) (hi : X.N[i]? = some x := by rfl) (hl : L2.Loc X.env.scope x := by first | exact Or.inl rfl | exact Or.inr rfl)
    (hf : X.fn x = true ∨ List.lookup x X.env.scope.names = some NameKind.local := by first | exact Or.inl rfl | exact Or.inr rfl) : PSA X W (.AugAssign (.Name x pos') .Mult e pos) (tAug i te (rI CMul fun i j => .int (i * j))) (aAugM i ae) :=
  ⟨ps_aug hN hi hl h.pe ip_mulI hf, fun D AD σ H Γ A R S hh k => by
    unfold aAugM at hh
    split at hh
    · rename_i m e1
      obtain ⟨v, e2, hv⟩ := S.get i _ e1
      cases hv
      refine ⟨_, e2, h.sim σ H Γ A _ _ _ R S hh (fun H1 w d A1 n1 R1 v1 h1 => ?_) fun H' e A' n R' h' => k.ex e σ H' Γ A' n R' (S.mono n) h'⟩
      cases d with
      | int n =>
        cases v1
        obtain ⟨⟨b1, b2⟩, h1⟩ := h1
        exact ⟨m, n, rfl, rfl, .inr ⟨by omega, by omega⟩, k.nx _ H1 _ A1 n1 R1 ((S.mono n1).set (.int _)) h1⟩
      | _ => exact h1.elim
    · exact hh.elim⟩
def aPar3 (i j l : Nat) (aa : AA) : AS := fun D Γ A => aa Γ A (fun ds A1 => match ds with
  | [d, e, f] => D.nx (((Γ.set i (some d)).set j (some e)).set l (some f)) A1
  | _ => False) fun e A' => D.ex e Γ A'
def aPar2 (i j : Nat) (aa : AA) : AS := fun D Γ A => aa Γ A (fun ds A1 => match ds with
  | [d, e] => D.nx ((Γ.set i (some d)).set j (some e)) A1
  | _ => False) fun e A' => D.ex e Γ A'
theorem gs_par2 {i j : Nat} {x y : Str} {a b : Expr} {ta : TA} {aa : AA} {px py pt pos : Pos} {kt k2 pt2} (hc : X.calm = true) (hN : X.N.Nodup) (ha : PAA X W [a, b] ta aa) (hi : X.N[i]? = some x := by rfl) (hj : X.N[j]? = some y := by rfl) (hij : i ≠ j := by decide)
    (hx : X.env.scope.names.lookup x = some .local := by rfl) (hy : X.env.scope.names.lookup y = some .local := by rfl)
    (hw : swappedStores [.Tuple [.Name x px, .Name y py] kt pt] (.Tuple [a, b] k2 pt2) X.env = pure (some [x, y]) := by rfl)
    (hs : swapsWithSole [.Tuple [.Name x px, .Name y py] kt pt] (.Tuple [a, b] k2 pt2) pos.line X.env = pure false := by rfl) :
    PSA X W (.Assign [.Tuple [.Name x px, .Name y py] kt pt] (.Tuple [a, b] k2 pt2) pos) (tPar i j ta) (aPar2 i j aa) :=
  ⟨ps_par hc hN hi hj hij hx hy ha.pe hw hs, fun D AD σ H Γ A R S hh k => ha.sim σ H Γ A _ _ _ R S hh (fun H1 vs ds A1 n1 R1 v1 h1 => by
    split at h1
    · rename_i d e
      obtain ⟨v, w, rfl, r1, r2⟩ := v1.two
      exact ⟨v, w, rfl, k.nx _ H1 _ A1 n1 R1 (((S.mono n1).set r1).set r2) h1⟩
    · exact h1.elim) fun H' e A' n R' h' => k.ex e σ H' Γ A' n R' (S.mono n) h'⟩
theorem gs_par3 {i j l : Nat} {x y z : Str} {a b c : Expr} {ta : TA} {aa : AA} {px py pz pt pos : Pos} {kt k2 pt2} (hc : X.calm = true) (hN : X.N.Nodup) (ha : PAA X W [a, b, c] ta aa) (hi : X.N[i]? = some x := by rfl) (hj : X.N[j]? = some y := by rfl) (hl : X.N[l]? = some z := by rfl) (hij : i ≠ j := by decide) (hil : i ≠ l := by decide) (hjl : j ≠ l := by decide)
    (hx : X.env.scope.names.lookup x = some .local := by rfl) (hy : X.env.scope.names.lookup y = some .local := by rfl) (hz : X.env.scope.names.lookup z = some .local := by rfl)
    (hw : swappedStores [.Tuple [.Name x px, .Name y py, .Name z pz] kt pt] (.Tuple [a, b, c] k2 pt2) X.env = pure (some [x, y, z]) := by rfl)
    (hs : swapsWithSole [.Tuple [.Name x px, .Name y py, .Name z pz] kt pt] (.Tuple [a, b, c] k2 pt2) pos.line X.env = pure false := by rfl) :
    PSA X W (.Assign [.Tuple [.Name x px, .Name y py, .Name z pz] kt pt] (.Tuple [a, b, c] k2 pt2) pos) (tPar3 i j l ta) (aPar3 i j l aa) :=
  ⟨ps_par3 hc hN hi hj hl hij hil hjl hx hy hz ha.pe hw hs, fun D AD σ H Γ A R S hh k => ha.sim σ H Γ A _ _ _ R S hh (fun H1 vs ds A1 n1 R1 v1 h1 => by
    split at h1
    · rename_i d e f
      cases v1 with
      | cons r1 v2 =>
        obtain ⟨v, w, rfl, r2, r3⟩ := v2.two
        exact ⟨_, v, w, rfl, k.nx _ H1 _ A1 n1 R1 ((((S.mono n1).set r1).set r2).set r3) h1⟩
    · exact h1.elim) fun H' e A' n R' h' => k.ex e σ H' Γ A' n R' (S.mono n) h'⟩
end
end GA

namespace GA
open PySem PySem.Spec PyProof.Rows L2 GV TL
/-! ### comprehensions with two clauses -/
@[irreducible] def lcR2 (it : ItA) (A1 : Ah) (g : AG) (c : AT) (wi1 : AI) (g1 : AG) (c1 : AT) (e : AE) (vs vs1 : List Nat) (Γ : Gt) (q : D → Ah → Prop) : Prop := ∀ p, A1 p = none → ∃ Inv : Nat → List D → Ah → Prop, Inv 0 [] (updA A1 p (.lst [])) ∧
  (∀ i acc A', i ≤ it.n → Inv i acc A' → it.still A' ∧ A' p = some (.lst acc)) ∧
  (∀ i acc A', i < it.n → Inv i acc A' → g (it.item i) (wipeG Γ vs) A' fun Γ2 A2 => c Γ2 A2 (fun b A3 => bsel b
    (wi1 Γ2 A3 (fun it1 A4 => ∃ Inv1 : Nat → List D → Ah → Prop, (∃ ac, Inv1 0 ac A4) ∧ (∀ j acc A', j ≤ it1.n → Inv1 j acc A' → it1.still A' ∧ A' p = some (.lst acc)) ∧
      (∀ j acc A', j < it1.n → Inv1 j acc A' → g1 (it1.item j) (wipeG Γ2 vs1) A' fun Γ3 A5 => c1 Γ3 A5 (fun b A6 => bsel b (e Γ3 A6 (fun y A7 => ∃ ac, A7 p = some (.lst ac) ∧ ac.length < big ∧ Inv1 (j + 1) (ac ++ [y]) (updA A7 p (.lst (ac ++ [y])))) fun _ _ => False) (∃ ac, A6 p = some (.lst ac) ∧ Inv1 (j + 1) ac A6)) fun _ _ => False) ∧
      ∀ acc A', Inv1 it1.n acc A' → Inv (i + 1) acc A') fun _ _ => False)
    (∃ ac, A3 p = some (.lst ac) ∧ Inv (i + 1) ac A3)) fun _ _ => False) ∧
  ∀ acc A', Inv it.n acc A' → q (.ref p) A'
def aLc2 (wi : AI) (g : AG) (c : AT) (wi1 : AI) (g1 : AG) (c1 : AT) (e : AE) (vs vs1 : List Nat) : AE := fun Γ A q x => wi Γ A (fun it A1 => lcR2 it A1 g c wi1 g1 c1 e vs vs1 Γ q) x
theorem wipe_twice (σ : L2.St) (vs : List Nat) : L2.wipe (L2.wipe σ vs) vs = L2.wipe σ vs := by
  apply List.ext_getElem?
  intro j
  by_cases hj : j ∈ vs
  · have a1 : ∀ τ : L2.St, (L2.wipe τ vs)[j]? = if j < τ.length then some none else none := by
      intro τ
      cases e : (L2.wipe τ vs)[j]? with
      | none => rw [if_neg]; rw [List.getElem?_eq_none_iff, L2.wipe_length] at e; omega
      | some o =>
        cases o with
        | none =>
          rw [if_pos]
          have := (List.getElem?_eq_some_iff.mp e).1
          rw [L2.wipe_length] at this
          exact this
        | some v => exact ((L2.wipe_some e).2 hj).elim
    rw [a1, a1, L2.wipe_length]
  · rw [L2.wipe_out hj]
section
variable {ai ai1 : AI} {wi wi1 : TI} {te : TE} {ae : AE} {at_ at1 : AT}
abbrev SimI (K : Fg) (W : WX) (wi : TI) (ai : AI) : Prop := ∀ (σ : L2.St) (H : Hp) (Γ : Gt) (A : Ah) (q : ItA → Ah → Prop) (x : AX) (Q : It → Hp → Prop), RelA K H A → Slots K H σ Γ → ai Γ A q x →
    (∀ H' J it A', Nxt K H H' → RelA K H' A' → LoopOk K H' J it → it.still A' → q it A' → Q J H') → (∀ H' e A', Nxt K H H' → RelA K H' A' → x e A' → W (exC K e) (some e.d) σ H') → wi σ H Q
abbrev SimG (K : Fg) (g : TG) (ag : AG) : Prop := ∀ (v : V) (d : D) (σ : L2.St) (H : Hp) (Γ : Gt) (A : Ah) (q : Gt → Ah → Prop) (Q : L2.St → Hp → Prop), RelA K H A → Slots K H σ Γ → Val K H v d → ag d Γ A q → (∀ σ' H' Γ' A', Nxt K H H' → RelA K H' A' → Slots K H' σ' Γ' → q Γ' A' → Q σ' H') → g v σ H Q
theorem sim_lc2 {K : Fg} {W : WX} {g g1 : TG} {ag ag1 : AG} {tt tt1 : TT} {vs vs1 : List Nat} (hi : SimI K W wi ai) (hg : SimG K g ag) (tw : TgW vs g) (ht : SimT K WF tt at_) (hi1 : SimI K WF wi1 ai1) (hg1 : SimG K g1 ag1) (tw1 : TgW vs1 g1) (ht1 : SimT K WF tt1 at1) (he : SimE K WF te ae) :
    SimE K W (tLc2 wi g tt wi1 g1 tt1 te vs vs1) (aLc2 ai ag at_ ai1 ag1 at1 ae vs vs1) := fun σ H Γ A q x Q R S hh k kx =>
  hi σ H Γ A _ x _ R S hh (fun H1 J it A1 n1 R1 L st h1 => by
    intro D hD
    unfold lcR2 at h1
    obtain ⟨Iv, h0, hs, hturn, hd⟩ := h1 D (R1.none hD)
    have n2 : Nxt K H1 (upd H1 D (.lst [])) := .new hD
    refine ⟨fun i m H' => m = it.n - i ∧ i ≤ it.n ∧ ∃ acc A', Nxt K H1 H' ∧ RelA K H' A' ∧ Iv i acc A', ⟨it.n, by omega, Nat.zero_le _, [], _, n2, R1.new hD (.lst .nil), h0⟩, ?_⟩
    rintro i m H' ⟨rfl, hle, acc, A', n', R', hI⟩
    obtain ⟨st', hacc⟩ := hs i acc A' hle hI
    by_cases hlt : i < it.n
    · refine .inr ⟨L.go i H' A' n' R' st' hlt, fun H2 => ∃ acc2 A2, Nxt K H1 H2 ∧ RelA K H2 A2 ∧ Iv (i + 1) acc2 A2, fun H2 ⟨acc2, A2, q⟩ => ⟨it.n - (i + 1), by omega, rfl, hlt, acc2, A2, q⟩, fun y H2 hy => ?_⟩
      obtain ⟨n3, R3, V3⟩ := L.yld i H' A' y H2 n' R' st' hlt hy
      have hg0 := hg y (it.item i) (L2.wipe σ vs) H2 (wipeG Γ vs) A' _ (fun σ2 H3 => tt σ2 H3 fun b H4 => if b = true then wi1 σ2 H4 fun J1 H5 => ∃ W1 : Nat → Nat → Hp → Prop, (∃ m, W1 0 m H5) ∧ ∀ j k H, W1 j k H →
          (J1.stop j H ∧ (fun H2 => ∃ acc2 A2, Nxt K H1 H2 ∧ RelA K H2 A2 ∧ Iv (i + 1) acc2 A2) H) ∨ (J1.go j H ∧ ∃ Nx1 : Hp → Prop, (∀ H', Nx1 H' → ∃ k', k' < k ∧ W1 (j + 1) k' H') ∧ ∀ x H', J1.yld j H x H' → g1 x (L2.wipe σ2 vs1) H' fun σ3 H5 => L2.wipe σ3 vs1 = L2.wipe σ2 vs1 ∧ tt1 σ3 H5 fun b H6 =>
            if b = true then te σ3 H6 fun y H7 => ∃ acc, H7 D = some (.lst acc) ∧ acc.length < sizeLine ∧ Nx1 (upd H7 D (.lst (acc ++ [y]))) else Nx1 H6)
          else (fun H2 => ∃ acc2 A2, Nxt K H1 H2 ∧ RelA K H2 A2 ∧ Iv (i + 1) acc2 A2) H4) R3 ((S.wipe vs).mono ((n1.trans n').trans n3)) V3 (hturn i acc A' hlt hI) (fun σ2 H3 Γ2 A2 n4 R4 S4 h4 => by
        refine ht σ2 H3 Γ2 A2 _ _ _ R4 S4 h4 (fun H4 b A3 n5 R5 h5 => ?_) (fun _ _ _ _ _ z => z.elim)
        have n05 := ((n'.trans n3).trans n4).trans n5
        cases b with
        | false =>
          obtain ⟨ac, e, h5⟩ := h5.2 rfl
          exact ⟨ac, A3, n05, R5, h5⟩
        | true =>
          refine hi1 σ2 H4 Γ2 A3 _ _ _ R5 (S4.mono n5) (h5.1 rfl) (fun H5 J1 it1 A4 n6 R6 L1 st1 h6 => ?_) (fun _ _ _ _ _ z => z.elim)
          obtain ⟨Iv1, ⟨ac0, h10⟩, hs1, hturn1, hd1⟩ := h6
          have S6 := S4.mono (n5.trans n6)
          refine ⟨fun j m H' => m = it1.n - j ∧ j ≤ it1.n ∧ ∃ acc A', Nxt K H5 H' ∧ RelA K H' A' ∧ Iv1 j acc A', ⟨it1.n, by omega, Nat.zero_le _, ac0, A4, .rfl, R6, h10⟩, ?_⟩
          rintro j m H'' ⟨rfl, hle1, acc1, A5, n7, R7, hI1⟩
          obtain ⟨st1', hacc1⟩ := hs1 j acc1 A5 hle1 hI1
          by_cases hlt1 : j < it1.n
          · refine .inr ⟨L1.go j H'' A5 n7 R7 st1' hlt1, fun H2 => ∃ acc2 A2, Nxt K H5 H2 ∧ RelA K H2 A2 ∧ Iv1 (j + 1) acc2 A2, fun H2 ⟨acc2, A2, q⟩ => ⟨it1.n - (j + 1), by omega, rfl, hlt1, acc2, A2, q⟩, fun z H8 hz => ?_⟩
            obtain ⟨n8, R8, V8⟩ := L1.yld j H'' A5 z H8 n7 R7 st1' hlt1 hz
            have hg2 := hg1 z (it1.item j) (L2.wipe σ2 vs1) H8 (wipeG Γ2 vs1) A5 _ (fun σ3 H9 => tt1 σ3 H9 fun b H6 => if b = true then te σ3 H6 fun y H7 => ∃ acc, H7 D = some (.lst acc) ∧ acc.length < sizeLine ∧ (fun H2 => ∃ acc2 A2, Nxt K H5 H2 ∧ RelA K H2 A2 ∧ Iv1 (j + 1) acc2 A2) (upd H7 D (.lst (acc ++ [y]))) else (fun H2 => ∃ acc2 A2, Nxt K H5 H2 ∧ RelA K H2 A2 ∧ Iv1 (j + 1) acc2 A2) H6) R8 ((S6.wipe vs1).mono (n7.trans n8)) V8 (hturn1 j acc1 A5 hlt1 hI1) (fun σ3 H9 Γ3 A6 n9 R9 S9 h9 => by
              refine ht1 σ3 H9 Γ3 A6 _ _ _ R9 S9 h9 (fun H10 b A7 n10 R10 h11 => ?_) (fun _ _ _ _ _ z => z.elim)
              have n11 := ((n7.trans n8).trans n9).trans n10
              cases b with
              | false =>
                obtain ⟨ac, e, h11⟩ := h11.2 rfl
                exact ⟨ac, A7, n11, R10, h11⟩
              | true =>
                refine he σ3 H10 Γ3 A7 _ _ _ R10 (S9.mono n10) (h11.1 rfl) (fun H12 u f A8 n12 R12 V12 h12 => ?_) (fun _ _ _ _ _ z => z.elim)
                obtain ⟨ac, e, hb, h12⟩ := h12
                obtain ⟨ws, e2, r2⟩ := R12.lst e
                have n13 : Nxt K H12 (upd H12 D (.lst (ws ++ [u]))) := .set e2 noTup_lst
                exact ⟨ws, e2, by rw [r2.length]; exact hb, ac ++ [f], _, (n11.trans n12).trans n13, R12.set e2 noTup_lst (.lst (r2.append (.cons V12 .nil))), h12⟩)
            have := tw1 z (L2.wipe σ2 vs1) H8 _ hg2
            rw [wipe_twice] at this
            exact this
          · have he1 : j = it1.n := by omega
            subst he1
            exact .inl ⟨L1.stop _ H'' A5 n7 R7 st1' (Nat.le_refl _), acc1, A5, (n05.trans n6).trans n7, R7, hd1 acc1 A5 hI1⟩)
      have := tw y (L2.wipe σ vs) H2 _ hg0
      rw [wipe_twice] at this
      exact this
    · have he2 : i = it.n := by omega
      subst he2
      exact .inl ⟨L.stop _ H' A' n' R' st' (Nat.le_refl _), k H' _ _ A' (n1.trans n') R' (.ref D) (hd acc A' hI)⟩) kx
end
section
variable {X : Cx} {W : WX} {elt tg iter tg1 iter1 : Expr} {ifs ifs1 : List Expr} {scope : Scope} {own : List (Str × Nat)} {vs1 : List Nat} {pos : Pos} {wi : TI} {ai ai1 : AI} {ag ag1 : AG} {at_ at1 : AT} {ae : AE}
theorem ga_lc2 {wi1 : Shared → Hp → Addr → List (Str × Addr) → List Addr → TI} {g g1 : Shared → Hp → Addr → List (Str × Addr) → List Addr → TG} {tt tt1 : Shared → Hp → Addr → List (Str × Addr) → List Addr → TT} {te : Shared → Hp → Addr → List (Str × Addr) → List Addr → TE} (hc : X.calm = true) (hN : X.N.Nodup) (hi : PIA X W tg iter wi ai) (ok : BlkOk X.N X.env.scope scope own) (hv : ∀ i ∈ vs1, i ∈ own.map (·.2))
    (hg : ∀ (s : Shared) (H : Hp) (C : Addr) (cl : List (Str × Addr)) (fp : List Addr), PGA (X.blk s H scope (compEnvC scope cl C X.env) fp) tg (g s H C cl fp) ag)
    (ht : ∀ (s : Shared) (H : Hp) (C : Addr) (cl : List (Str × Addr)) (fp : List Addr), PTsA (X.blk s H scope (compEnvC scope cl C X.env) fp) WF ifs (tt s H C cl fp) at_)
    (hi1 : ∀ (s : Shared) (H : Hp) (C : Addr) (cl : List (Str × Addr)) (fp : List Addr), PIA (X.blk s H scope (compEnvC scope cl C X.env) fp) WF tg1 iter1 (wi1 s H C cl fp) ai1)
    (hg1 : ∀ (s : Shared) (H : Hp) (C : Addr) (cl : List (Str × Addr)) (fp : List Addr), PGA (X.blk s H scope (compEnvC scope cl C X.env) fp) tg1 (g1 s H C cl fp) ag1)
    (ht1 : ∀ (s : Shared) (H : Hp) (C : Addr) (cl : List (Str × Addr)) (fp : List Addr), PTsA (X.blk s H scope (compEnvC scope cl C X.env) fp) WF ifs1 (tt1 s H C cl fp) at1)
    (he : ∀ (s : Shared) (H : Hp) (C : Addr) (cl : List (Str × Addr)) (fp : List Addr), PEA (X.blk s H scope (compEnvC scope cl C X.env) fp) WF elt (te s H C cl fp) ae)
    (tw : TgW (own.map (·.2)) (g X.s_0 X.H_0 0 [] [])) (tw1 : TgW vs1 (g1 X.s_0 X.H_0 0 [] []))
    (ei : ∀ (s : Shared) (H : Hp) (C : Addr) (cl : List (Str × Addr)) (fp : List Addr), wi1 s H C cl fp = wi1 X.s_0 X.H_0 0 [] [] := by intros; rfl)
    (eg : ∀ (s : Shared) (H : Hp) (C : Addr) (cl : List (Str × Addr)) (fp : List Addr), g s H C cl fp = g X.s_0 X.H_0 0 [] [] := by intros; rfl)
    (et : ∀ (s : Shared) (H : Hp) (C : Addr) (cl : List (Str × Addr)) (fp : List Addr), tt s H C cl fp = tt X.s_0 X.H_0 0 [] [] := by intros; rfl)
    (eg1 : ∀ (s : Shared) (H : Hp) (C : Addr) (cl : List (Str × Addr)) (fp : List Addr), g1 s H C cl fp = g1 X.s_0 X.H_0 0 [] [] := by intros; rfl)
    (et1 : ∀ (s : Shared) (H : Hp) (C : Addr) (cl : List (Str × Addr)) (fp : List Addr), tt1 s H C cl fp = tt1 X.s_0 X.H_0 0 [] [] := by intros; rfl)
    (ee : ∀ (s : Shared) (H : Hp) (C : Addr) (cl : List (Str × Addr)) (fp : List Addr), te s H C cl fp = te X.s_0 X.H_0 0 [] [] := by intros; rfl) (hs : ∀ x, foldedSetIterable iter X.env x = pure x := by intro _; rfl) (hs1 : ∀ env x, foldedSetIterable iter1 env x = pure x := by intro _ _; rfl) :
    PEA X W (.ListComp elt [⟨tg, iter, ifs, 0⟩, ⟨tg1, iter1, ifs1, 0⟩] scope pos) (tLc2 wi (g X.s_0 X.H_0 0 [] []) (tt X.s_0 X.H_0 0 [] []) (wi1 X.s_0 X.H_0 0 [] []) (g1 X.s_0 X.H_0 0 [] []) (tt1 X.s_0 X.H_0 0 [] []) (te X.s_0 X.H_0 0 [] []) (own.map (·.2)) vs1) (aLc2 ai ag at_ ai1 ag1 at1 ae (own.map (·.2)) vs1) where
  pe := pe_lc2 hc hN hi.pe ok hv (fun s H C cl fp => eg s H C cl fp ▸ (hg s H C cl fp).pe) (fun s H C cl fp => et s H C cl fp ▸ (ht s H C cl fp).pe) (fun s H C cl fp => ei s H C cl fp ▸ (hi1 s H C cl fp).pe) (fun s H C cl fp => eg1 s H C cl fp ▸ (hg1 s H C cl fp).pe) (fun s H C cl fp => et1 s H C cl fp ▸ (ht1 s H C cl fp).pe) (fun s H C cl fp => ee s H C cl fp ▸ (he s H C cl fp).pe) hs hs1
  sim := sim_lc2 hi.sim (hg X.s_0 X.H_0 0 [] []).sim tw (ht X.s_0 X.H_0 0 [] []).sim (hi1 X.s_0 X.H_0 0 [] []).sim (hg1 X.s_0 X.H_0 0 [] []).sim tw1 (ht1 X.s_0 X.H_0 0 [] []).sim (he X.s_0 X.H_0 0 [] []).sim
theorem gs_setLc2 {i : Nat} {y : Str} {py spos : Pos} {wi1 : Shared → Hp → Addr → List (Str × Addr) → List Addr → TI} {g g1 : Shared → Hp → Addr → List (Str × Addr) → List Addr → TG} {tt tt1 : Shared → Hp → Addr → List (Str × Addr) → List Addr → TT} {te : Shared → Hp → Addr → List (Str × Addr) → List Addr → TE} (hc : X.calm = true) (hN : X.N.Nodup) (hi : PIA X W tg iter wi ai) (ok : BlkOk X.N X.env.scope scope own) (hv : ∀ i ∈ vs1, i ∈ own.map (·.2))
    (hg : ∀ (s : Shared) (H : Hp) (C : Addr) (cl : List (Str × Addr)) (fp : List Addr), PGA (X.blk s H scope (compEnvC scope cl C X.env) fp) tg (g s H C cl fp) ag)
    (ht : ∀ (s : Shared) (H : Hp) (C : Addr) (cl : List (Str × Addr)) (fp : List Addr), PTsA (X.blk s H scope (compEnvC scope cl C X.env) fp) WF ifs (tt s H C cl fp) at_)
    (hi1 : ∀ (s : Shared) (H : Hp) (C : Addr) (cl : List (Str × Addr)) (fp : List Addr), PIA (X.blk s H scope (compEnvC scope cl C X.env) fp) WF tg1 iter1 (wi1 s H C cl fp) ai1)
    (hg1 : ∀ (s : Shared) (H : Hp) (C : Addr) (cl : List (Str × Addr)) (fp : List Addr), PGA (X.blk s H scope (compEnvC scope cl C X.env) fp) tg1 (g1 s H C cl fp) ag1)
    (ht1 : ∀ (s : Shared) (H : Hp) (C : Addr) (cl : List (Str × Addr)) (fp : List Addr), PTsA (X.blk s H scope (compEnvC scope cl C X.env) fp) WF ifs1 (tt1 s H C cl fp) at1)
    (he : ∀ (s : Shared) (H : Hp) (C : Addr) (cl : List (Str × Addr)) (fp : List Addr), PEA (X.blk s H scope (compEnvC scope cl C X.env) fp) WF elt (te s H C cl fp) ae)
    (tw : TgW (own.map (·.2)) (g X.s_0 X.H_0 0 [] [])) (tw1 : TgW vs1 (g1 X.s_0 X.H_0 0 [] [])) (hy : X.N[i]? = some y := by rfl) (hyl : X.env.scope.names.lookup y = some .local := by rfl)
    (ei : ∀ (s : Shared) (H : Hp) (C : Addr) (cl : List (Str × Addr)) (fp : List Addr), wi1 s H C cl fp = wi1 X.s_0 X.H_0 0 [] [] := by intros; rfl)
    (eg : ∀ (s : Shared) (H : Hp) (C : Addr) (cl : List (Str × Addr)) (fp : List Addr), g s H C cl fp = g X.s_0 X.H_0 0 [] [] := by intros; rfl)
    (et : ∀ (s : Shared) (H : Hp) (C : Addr) (cl : List (Str × Addr)) (fp : List Addr), tt s H C cl fp = tt X.s_0 X.H_0 0 [] [] := by intros; rfl)
    (eg1 : ∀ (s : Shared) (H : Hp) (C : Addr) (cl : List (Str × Addr)) (fp : List Addr), g1 s H C cl fp = g1 X.s_0 X.H_0 0 [] [] := by intros; rfl)
    (et1 : ∀ (s : Shared) (H : Hp) (C : Addr) (cl : List (Str × Addr)) (fp : List Addr), tt1 s H C cl fp = tt1 X.s_0 X.H_0 0 [] [] := by intros; rfl)
    (ee : ∀ (s : Shared) (H : Hp) (C : Addr) (cl : List (Str × Addr)) (fp : List Addr), te s H C cl fp = te X.s_0 X.H_0 0 [] [] := by intros; rfl) (hs : ∀ x, foldedSetIterable iter X.env x = pure x := by intro _; rfl) (hs1 : ∀ env x, foldedSetIterable iter1 env x = pure x := by intro _ _; rfl)
    (hsw : swapsWith (.ListComp elt [⟨tg, iter, ifs, 0⟩, ⟨tg1, iter1, ifs1, 0⟩] scope pos) (some (.Name y py)) spos.line X.env = pure true := by rfl) :
    PSA X W (.Assign [.Name y py] (.ListComp elt [⟨tg, iter, ifs, 0⟩, ⟨tg1, iter1, ifs1, 0⟩] scope pos) spos) (tAsg (tLc2 wi (g X.s_0 X.H_0 0 [] []) (tt X.s_0 X.H_0 0 [] []) (wi1 X.s_0 X.H_0 0 [] []) (g1 X.s_0 X.H_0 0 [] []) (tt1 X.s_0 X.H_0 0 [] []) (te X.s_0 X.H_0 0 [] []) (own.map (·.2)) vs1) (gName i)) (aAsg (aLc2 ai ag at_ ai1 ag1 at1 ae (own.map (·.2)) vs1) (agName i)) where
  pe := ps_setLc2 hc hN hy hyl hsw hi.pe ok hv (fun s H C cl fp => eg s H C cl fp ▸ (hg s H C cl fp).pe) (fun s H C cl fp => et s H C cl fp ▸ (ht s H C cl fp).pe) (fun s H C cl fp => ei s H C cl fp ▸ (hi1 s H C cl fp).pe) (fun s H C cl fp => eg1 s H C cl fp ▸ (hg1 s H C cl fp).pe) (fun s H C cl fp => et1 s H C cl fp ▸ (ht1 s H C cl fp).pe) (fun s H C cl fp => ee s H C cl fp ▸ (he s H C cl fp).pe) hs hs1
  sim := sim_asg (sim_lc2 hi.sim (hg X.s_0 X.H_0 0 [] []).sim tw (ht X.s_0 X.H_0 0 [] []).sim (hi1 X.s_0 X.H_0 0 [] []).sim (hg1 X.s_0 X.H_0 0 [] []).sim tw1 (ht1 X.s_0 X.H_0 0 [] []).sim (he X.s_0 X.H_0 0 [] []).sim) (gg_name (pos := py) hN hy (.inl hyl) (.inr hyl))
end
end GA

namespace GA
open PySem PySem.Spec PyProof.Rows L2 GV TL
/-! ### sorted of any plain data, any number -/
abbrev keyP (b : V × D) : PyData := b.2.py
def srtR (K : Fg) : List V → Hp → VK → Prop := fun vs H Q => ∃ (a : Addr) (bs : List (V × D)), vs = [V.ref a] ∧ SqL K H a (bs.map (·.1)) ∧ DpAll K H (bs.map (·.1)) (bs.map keyP) ∧ PySem.W.AllAlike (bs.map keyP) ∧ PySem.W.Sortable (bs.map keyP) ∧ (∀ b ∈ bs, (keyP b).depth ≤ 60) ∧
  ∀ p, H p = none → Q (.ref p) (upd H p (.lst ((bs.mergeSort (PySem.W.dataLe false keyP)).map (·.1))))
theorem each_of_vals : ∀ {bs : List (V × D)} {us : List Value}, Vals (bs.map (·.1)) us → PySem.W.EachIs (fun u (b : V × D) => RelV b.1 u) us bs
  | [], _, h => by cases h; exact .nil
  | b :: r, _, h => by
    cases h with
    | cons h1 h2 => exact .cons h1 (each_of_vals h2)
theorem each_of_reads {h : Heap} : ∀ {bs : List (V × D)} {us : List Value} {as : List Addr}, ReadsAll h us (bs.map keyP) as → PySem.W.EachIs (fun u (b : V × D) => ∃ as, Reads h u (keyP b) as) us bs
  | [], _, _, r => by
    obtain ⟨rfl, _⟩ := readsAll_nil_inv r
    exact .nil
  | b :: t, _, _, r => by
    obtain ⟨v, vs', as₁, as₂, rfl, _, r1, r2⟩ := readsAll_cons_inv r
    exact .cons ⟨_, r1⟩ (each_of_reads r2)
theorem vals_of_each : ∀ {bs : List (V × D)} {us : List Value}, PySem.W.EachIs (fun u (b : V × D) => RelV b.1 u) us bs → Vals (bs.map (·.1)) us
  | _, _, .nil => .nil
  | _, _, .cons h t => .cons h (vals_of_each t)
section
variable {X : Cx}
theorem cr_sortD (hu : X.A.units + 64 < cLine) : CallR X (.builtin "sorted") (srtR X.K) := by
  intro pins s σ H vs us Q I r h
  obtain ⟨a, bs, rfl, hs, hd, h1, h2, h3, hq⟩ := h
  obtain ⟨its, rv, hl, hz⟩ := I.list hs
  rw [Vals.ref1 r]
  obtain ⟨as, hr⟩ := Dp.readsAll I _ _ _ hd rv
  rw [List.length_map] at hz
  refine PySem.W.sorted_data (enc := keyP) (R := fun u (b : V × D) => RelV b.1 u) hl.isList (each_of_vals rv) (each_of_reads hr) h1 h2 hz (fun b hb => by have := h3 b hb; omega) fun out ho he => ?_
  obtain ⟨n, hn⟩ := PyProof.Rows.sortedAll_at s.heap its out.toArray
  have hlen : ((bs.mergeSort (PySem.W.dataLe false keyP)).map (·.1)).length ≤ sizeLine := by
    rw [List.length_map, (List.mergeSort_perm bs _).length_eq]; exact hz
  exact ⟨.ref _, upd H (s.heap.objs.size + 1) (.lst ((bs.mergeSort (PySem.W.dataLe false keyP)).map (·.1))), I.laid (t' := s.toks) (fun _ _ => PyProof.Rows.sortedAll_old) (Nat.le_succ _) ⟨hlen, out, n, vals_of_each he, hn⟩, rfl, hq _ (I.hok.fresh (Nat.le_succ _))⟩
end
theorem zip_fst {vs : List V} {ds : List D} (h : vs.length = ds.length) : (vs.zip ds).map (·.1) = vs := by
  rw [List.map_fst_zip]; omega
theorem zip_snd {vs : List V} {ds : List D} (h : vs.length = ds.length) : (vs.zip ds).map (·.2) = ds := by
  rw [List.map_snd_zip]; omega
theorem zip_key {vs : List V} {ds : List D} (h : vs.length = ds.length) : (vs.zip ds).map keyP = ds.map D.py := by
  rw [show keyP = D.py ∘ (fun b : V × D => b.2) from rfl, ← List.map_map, zip_snd h]
theorem pys_map : ∀ ds : List D, D.pys ds = ds.map D.py
  | [] => rfl
  | d :: ds => by rw [D.pys, pys_map ds]; rfl
theorem vls_of_pairs {K : Fg} {H : Hp} : ∀ {bs : List (V × D)}, (∀ b ∈ bs, Val K H b.1 b.2) → Vls K H (bs.map (·.1)) (bs.map (·.2))
  | [], _ => .nil
  | b :: r, h => .cons (h b List.mem_cons_self) (vls_of_pairs fun c m => h c (List.mem_cons_of_mem _ m))
theorem pairs_of_vls {K : Fg} {H : Hp} : ∀ {vs : List V} {ds : List D}, Vls K H vs ds → ∀ b ∈ vs.zip ds, Val K H b.1 b.2
  | _, _, .nil, b, m => nomatch m
  | _, _, .cons h t, b, m => by
    rcases List.mem_cons.mp m with rfl | m
    · exact h
    · exact pairs_of_vls t b m
def aSortD : A1c := fun ds A q => match ds with
  | [d] => onS A d fun xs => D.flats 60 xs = true ∧ PySem.W.AllAlike (xs.map D.py) ∧ PySem.W.Sortable (xs.map D.py) ∧ newL A (xs.mergeSort (PySem.W.dataLe false D.py)) q
  | _ => False
theorem flats_mem {n : Nat} : ∀ {xs : List D}, D.flats n xs = true → ∀ d ∈ xs, d.flat n = true
  | [], _, _, m => nomatch m
  | x :: r, h, d, m => by
    have h1 : x.flat n = true ∧ D.flats n r = true := by simpa [D.flats] using h
    rcases List.mem_cons.mp m with rfl | m
    · exact h1.1
    · exact flats_mem h1.2 d m
theorem sim_sortD {K : Fg} : SimC K (srtR K) aSortD := by
  intro H A vs ds q Q R hv h k
  unfold aSortD at h
  split at h
  · obtain ⟨v, rfl, h1⟩ := hv.one
    obtain ⟨xs, a, ws, ⟨hf, h2, h3, h⟩, rfl, e1, r1⟩ := onS_of R h1 h
    have hl := r1.length
    refine ⟨_, ws.zip xs, rfl, ?_, ?_, ?_, ?_, fun b hb => ?_, fun p hp => ?_⟩
    · rw [zip_fst hl]; exact Rd.sq e1
    · rw [zip_fst hl, zip_key hl, ← pys_map]
      exact Vls.dp 60 hf r1
    · rw [zip_key hl]; exact h2
    · rw [zip_key hl]; exact h3
    · exact (flat_depth 60 b.2 (flats_mem hf b.2 (List.of_mem_zip hb).2)).1
    · have hm : ((ws.zip xs).mergeSort (PySem.W.dataLe false keyP)).map (·.2) = xs.mergeSort (PySem.W.dataLe false D.py) := by
        have := PySem.W.sort_maps (r := PySem.W.dataLe false keyP) (s := PySem.W.dataLe false D.py) (fun b : V × D => b.2) (l := ws.zip xs) (fun _ _ _ _ => rfl)
        rw [this, zip_snd hl]
      have hv := vls_of_pairs (K := K) (H := H) (bs := (ws.zip xs).mergeSort (PySem.W.dataLe false keyP)) fun b hb => pairs_of_vls r1 b ((List.mergeSort_perm _ _).mem_iff.mp hb)
      rw [hm] at hv
      exact k _ _ _ _ (.new hp) (R.new hp (.lst hv)) (.ref p) (h p (R.none hp))
  · exact h.elim
section
variable {X : Cx}
theorem ba_sortD (hu : X.A.units + 64 < cLine) : BltA X (.builtin "sorted") (srtR X.K) aSortD := ⟨cr_sortD hu, sim_sortD⟩
end
/-! ### d.get(k, z) -/
def aDGet2 (o i z : AE) : AE := fun Γ A q x => o Γ A (fun d A1 => match d with
  | .ref a => onD A1 a fun _ => i Γ A1 (fun k A2 => z Γ A2 (fun w A3 => onD A3 a fun kvs => ∃ ky, keyOf k = some ky ∧ q ((getD' kvs ky).getD w) A3) x) x
  | _ => False) x
section
variable {X : Cx} {W : WX} {o i z : Expr} {apos cpos : Pos} {to ti tz : TE} {ao ai az : AE}
theorem ga_dget2 (hu : X.A.units + 64 < cLine) (ho : PEA X W o to ao) (hi : PEA X W i ti ai) (hz : PEA X W z tz az) (m : M2 X o "get" apos i z cpos := by exact ⟨rfl, rfl, rfl, rfl⟩) : PEA X W (.Call (.Attribute o "get" apos) [i, z] [] cpos) (tDGet2 to ti tz) (aDGet2 ao ai az) where
  pe := pe_dget2 (by omega) ho.pe hi.pe hz.pe m
  sim := fun σ H Γ A q x Q R S h k kx => ho.sim σ H Γ A _ x _ R S h (fun H1 v d A1 n1 R1 v1 h1 => by
    cases d with
    | ref a =>
      obtain ⟨kvs, e, h1⟩ := h1
      obtain ⟨ws, e1, r1⟩ := R1.dic e
      cases v1
      refine ⟨a, rfl, .inl ⟨_, .inl e1⟩, hi.sim σ H1 Γ A1 _ x _ R1 (S.mono n1) h1 (fun H2 w f A2 n2 R2 v2 h2 => hz.sim σ H2 Γ A2 _ x _ R2 (S.mono (n1.trans n2)) h2 (fun H3 u g A3 n3 R3 v3 h3 => ?_) fun H' e' A' n' R' h' => kx H' e' A' ((n1.trans n2).trans n') R' h') fun H' e' A' n' R' h' => kx H' e' A' (n1.trans n') R' h'⟩
      obtain ⟨kvs3, e3, ky, hk, h3⟩ := h3
      obtain ⟨ws3, e4, r4⟩ := R3.dic e3
      have := keyOf_ok (v2.mono n3) hk
      subst this
      obtain ⟨g1, g2, _⟩ := relkv_get (k := ky) r4
      refine ⟨valV ws3 ky, .k e4, ?_⟩
      cases hg : getD' kvs3 ky with
      | none => rw [g2 hg]; rw [hg] at h3; exact k H3 _ _ A3 ((n1.trans n2).trans n3) R3 v3 h3
      | some d =>
        obtain ⟨v', hv', hv2⟩ := g1 d hg
        rw [hv']
        rw [hg] at h3
        exact k H3 _ _ A3 ((n1.trans n2).trans n3) R3 hv2 h3
    | _ => exact h1.elim) kx
end
/-! ### sorted(d), the keys less than 64 texts -/
abbrev srtKR : List V → Hp → VK → Prop := fun xs H Q => ∃ (a : Addr) (kvs : List (Key × V)) (ks : List Str), xs = [.ref a] ∧ Rd H a (.dK kvs) ∧ kvs.map (·.1) = ks.map Sum.inr ∧ ks.length < 64 ∧
  ∀ (ys : List Str) (p : Addr), ys.Perm ks → sortedS ys = true → H p = none → Q (.ref p) (upd H p (.lst (ys.map V.str)))
def aSortK : A1c := fun ds A q => match ds with
  | [.ref a] => onD A a fun kvs => ∃ cs : List (List Nat), kvs.map (·.1) = cs.map kS ∧ cs.length < 64 ∧ ∀ ys : List (List Nat), ys.Perm cs → srtL ys = true → newL A (ys.map D.str) q
  | _ => False
theorem relkv_keys {K : Fg} {H : Hp} : ∀ {ws : List (Key × V)} {kvs : List (Key × D)}, RelKV K H ws kvs → ws.map (·.1) = kvs.map (·.1)
  | _, _, .nil => rfl
  | _ :: _, _ :: _, .cons ⟨h1, _⟩ t => by rw [List.map_cons, List.map_cons, relkv_keys t, h1]
theorem sim_sortK {K : Fg} : SimC K srtKR aSortK := by
  intro H A vs ds q Q R hv h k
  unfold aSortK at h
  split at h
  · obtain ⟨v, rfl, h1⟩ := hv.one
    cases h1
    obtain ⟨kvs, ha, cs, hk, hl, h⟩ := h
    obtain ⟨ws, e1, r1⟩ := R.dic ha
    refine ⟨_, ws, cs.map fun c => ⟨c.toArray⟩, rfl, .inl e1, ?_, by rw [List.length_map]; exact hl, fun ys p hp ho hn => ?_⟩
    · rw [relkv_keys r1, hk, List.map_map]; rfl
    · have hpc : (ys.map tl).Perm cs := by
        have := hp.map tl
        rw [List.map_map] at this
        have e : (cs.map (tl ∘ fun c => (⟨c.toArray⟩ : Str))) = cs := by
          conv => rhs; rw [← List.map_id cs]
          apply List.map_congr_left
          intro c _
          rfl
        rw [e] at this
        exact this
      have hv : Vls K (upd H p (.lst (ys.map V.str))) (ys.map V.str) ((ys.map tl).map D.str) := Vls.strs rfl
      exact k _ _ _ _ (.new hn) (R.new hn (.lst (Vls.strs rfl))) (.ref p) (h (ys.map tl) hpc (srt_ok ys ho) p (R.none hn))
  · exact h.elim
section
variable {X : Cx}
theorem ba_sortK (hc : X.calm = true) : BltA X (.builtin "sorted") srtKR aSortK := ⟨call_sortedD hc, sim_sortK⟩
end
end GA

namespace GA
open PySem PySem.Spec PyProof.Rows L2 GV TL
/-- a comprehension over what stays as it is -/
theorem lc_ofS {it : ItA} {A1 : Ah} {g : AG} {c : AT} {e : AE} {vs : List Nat} {Γ : Gt} {q : D → Ah → Prop} (f : Nat → D) (hsrc : ∀ A', Ext A1 A' → it.still A') (hn : it.n ≤ big)
    (body : ∀ (i : Nat) (A' : Ah) (k : D → Ah → Prop) (sk : Ah → Prop), i < it.n → Ext A1 A' → k (f i) A' → g (it.item i) (wipeG Γ vs) A' fun Γ2 A2 => c Γ2 A2 (fun b A3 => bsel b (e Γ2 A3 k fun _ _ => False) (sk A3)) fun _ _ => False)
    (done : ∀ p, A1 p = none → q (.ref p) (updA A1 p (.lst ((List.range it.n).map f)))) :
    lcR it A1 g c e vs Γ q := by
  unfold lcR
  intro p hp
  refine ⟨fun i acc A' => acc = (List.range i).map f ∧ A' = updA A1 p (.lst acc), ⟨rfl, rfl⟩, ?_, ?_, ?_⟩
  · rintro i acc A' _ ⟨rfl, rfl⟩
    exact ⟨hsrc _ (.new hp), updA_same⟩
  · rintro i acc A' hi ⟨rfl, rfl⟩
    refine body i _ _ (fun A3 => ∃ ac, A3 p = some (.lst ac) ∧ ac = (List.range (i + 1)).map f ∧ A3 = updA A1 p (.lst ac)) hi (fun b d h => ?_) ⟨_, updA_same, by rw [List.length_map, List.length_range]; omega, ?_, updA_updA⟩
    · rw [updA_ne (fun z => by rw [z, hp] at h; cases h)]; exact h
    · rw [List.range_succ, List.map_append]; rfl
  · rintro acc A' ⟨rfl, rfl⟩
    exact done p hp
theorem lc_filS {it : ItA} {A1 : Ah} {g : AG} {c : AT} {e : AE} {vs : List Nat} {Γ : Gt} {q : D → Ah → Prop} (f : Nat → D) (pr : Nat → Bool) (hsrc : ∀ A', Ext A1 A' → it.still A') (hn : it.n ≤ big)
    (body : ∀ (i : Nat) (A' : Ah) (k : D → Ah → Prop) (sk : Ah → Prop), i < it.n → Ext A1 A' → (pr i = true → k (f i) A') → (pr i = false → sk A') → g (it.item i) (wipeG Γ vs) A' fun Γ2 A2 => c Γ2 A2 (fun b A3 => bsel b (e Γ2 A3 k fun _ _ => False) (sk A3)) fun _ _ => False)
    (done : ∀ p, A1 p = none → q (.ref p) (updA A1 p (.lst (((List.range it.n).filter pr).map f)))) :
    lcR it A1 g c e vs Γ q := by
  unfold lcR
  intro p hp
  refine ⟨fun i acc A' => acc = ((List.range i).filter pr).map f ∧ A' = updA A1 p (.lst acc), ⟨rfl, rfl⟩, ?_, ?_, ?_⟩
  · rintro i acc A' _ ⟨rfl, rfl⟩
    exact ⟨hsrc _ (.new hp), updA_same⟩
  · rintro i acc A' hi ⟨rfl, rfl⟩
    have hr : (List.range (i + 1)).filter pr = (List.range i).filter pr ++ if pr i = true then [i] else [] := by
      rw [List.range_succ, List.filter_append]
      congr 1
      cases h : pr i <;> simp [h]
    refine body i _ _ (fun A3 => ∃ ac, A3 p = some (.lst ac) ∧ ac = ((List.range (i + 1)).filter pr).map f ∧ A3 = updA A1 p (.lst ac)) hi (fun b d h => ?_) (fun hpr => ⟨_, updA_same, ?_, ?_, updA_updA⟩) (fun hpr => ⟨_, updA_same, ?_, rfl⟩)
    · rw [updA_ne (fun z => by rw [z, hp] at h; cases h)]; exact h
    · have := List.length_filter_le pr (List.range i)
      rw [List.length_range] at this
      rw [List.length_map]; omega
    · rw [hr, if_pos hpr, List.map_append]; rfl
    · rw [hr, if_neg (by rw [hpr]; decide), List.append_nil]
  · rintro acc A' ⟨rfl, rfl⟩
    exact done p hp
theorem flat_range_len {α : Type} (F : Nat → List α) {n i : Nat} (h : i ≤ n) : ((List.range i).flatMap F).length ≤ ((List.range n).flatMap F).length := by
  induction n with
  | zero => have : i = 0 := by omega
            subst this; exact Nat.le_refl _
  | succ n ih =>
    rcases Nat.lt_or_ge i (n + 1) with g | g
    · rw [List.range_succ, List.flatMap_append, List.length_append]
      have := ih (by omega)
      omega
    · have : i = n + 1 := by omega
      subst this; exact Nat.le_refl _
/-- a comprehension of two clauses -/
theorem lc2_of {it : ItA} {A1 : Ah} {g : AG} {c : AT} {wi1 : AI} {g1 : AG} {c1 : AT} {e : AE} {vs vs1 : List Nat} {Γ : Gt} {q : D → Ah → Prop} (Γo : Nat → Gt) (m : Nat → Nat) (item1 : Nat → Nat → D) (f : Nat → Nat → D) (hsrc : ∀ A', Ext A1 A' → it.still A')
    (hn : ((List.range it.n).flatMap fun i => (List.range (m i)).map (f i)).length ≤ big)
    (body : ∀ (i : Nat) (A' : Ah) (k : Gt → ItA → Ah → Prop) (sk : Ah → Prop), i < it.n → Ext A1 A' → k (Γo i) ⟨none, m i, item1 i⟩ A' → g (it.item i) (wipeG Γ vs) A' fun Γ2 A2 => c Γ2 A2 (fun b A3 => bsel b (wi1 Γ2 A3 (k Γ2) fun _ _ => False) (sk A3)) fun _ _ => False)
    (inner : ∀ (i j : Nat) (A' : Ah) (k : D → Ah → Prop) (sk : Ah → Prop), i < it.n → j < m i → Ext A1 A' → k (f i j) A' → g1 (item1 i j) (wipeG (Γo i) vs1) A' fun Γ3 A5 => c1 Γ3 A5 (fun b A6 => bsel b (e Γ3 A6 k fun _ _ => False) (sk A6)) fun _ _ => False)
    (done : ∀ p, A1 p = none → q (.ref p) (updA A1 p (.lst ((List.range it.n).flatMap fun i => (List.range (m i)).map (f i))))) :
    lcR2 it A1 g c wi1 g1 c1 e vs vs1 Γ q := by
  unfold lcR2
  intro p hp
  refine ⟨fun i acc A' => acc = ((List.range i).flatMap fun i => (List.range (m i)).map (f i)) ∧ A' = updA A1 p (.lst acc), ⟨rfl, rfl⟩, ?_, ?_, ?_⟩
  · rintro i acc A' _ ⟨rfl, rfl⟩
    exact ⟨hsrc _ (.new hp), updA_same⟩
  · rintro i acc A' hi ⟨rfl, rfl⟩
    have hl := flat_range_len (fun i => (List.range (m i)).map (f i)) (show i + 1 ≤ it.n from hi)
    have hs : ((List.range (i + 1)).flatMap fun i => (List.range (m i)).map (f i)) = ((List.range i).flatMap fun i => (List.range (m i)).map (f i)) ++ (List.range (m i)).map (f i) := by
      rw [List.range_succ, List.flatMap_append]; simp
    rw [hs, List.length_append, List.length_map, List.length_range] at hl
    refine body i _ (fun Γ2 it1 A4 => ∃ Inv1 : Nat → List D → Ah → Prop, (∃ ac, Inv1 0 ac A4) ∧ (∀ j acc A', j ≤ it1.n → Inv1 j acc A' → it1.still A' ∧ A' p = some (.lst acc)) ∧
      (∀ j acc A', j < it1.n → Inv1 j acc A' → g1 (it1.item j) (wipeG Γ2 vs1) A' fun Γ3 A5 => c1 Γ3 A5 (fun b A6 => bsel b (e Γ3 A6 (fun y A7 => ∃ ac, A7 p = some (.lst ac) ∧ ac.length < big ∧ Inv1 (j + 1) (ac ++ [y]) (updA A7 p (.lst (ac ++ [y])))) fun _ _ => False) (∃ ac, A6 p = some (.lst ac) ∧ Inv1 (j + 1) ac A6)) fun _ _ => False) ∧
      ∀ acc A', Inv1 it1.n acc A' → acc = ((List.range (i + 1)).flatMap fun i => (List.range (m i)).map (f i)) ∧ A' = updA A1 p (.lst acc)) _ hi (.new hp) ?_
    refine ⟨fun j acc A' => acc = ((List.range i).flatMap fun i => (List.range (m i)).map (f i)) ++ (List.range j).map (f i) ∧ A' = updA A1 p (.lst acc), ⟨_, rfl, by rw [List.range_zero, List.map_nil, List.append_nil]⟩, ?_, ?_, ?_⟩
    · rintro j acc A' _ ⟨rfl, rfl⟩
      exact ⟨trivial, updA_same⟩
    · rintro j acc A' (hj : j < m i) ⟨rfl, rfl⟩
      refine inner i j _ _ (fun A6 => ∃ ac, A6 p = some (.lst ac) ∧ ac = ((List.range i).flatMap fun i => (List.range (m i)).map (f i)) ++ (List.range (j + 1)).map (f i) ∧ A6 = updA A1 p (.lst ac)) hi hj (.new hp) ⟨_, updA_same, ?_, ?_, updA_updA⟩
      · rw [List.length_append, List.length_map, List.length_range]; omega
      · rw [List.range_succ, List.map_append, List.append_assoc]; rfl
    · rintro acc A' ⟨rfl, rfl⟩
      exact ⟨hs.symm, rfl⟩
  · rintro acc A' ⟨rfl, rfl⟩
    exact done p hp
/-- a comprehension whose body makes new things -/
theorem lc_ofE {it : ItA} {A1 : Ah} {g : AG} {c : AT} {e : AE} {vs : List Nat} {Γ : Gt} {q : D → Ah → Prop} (f : Nat → D) (hsrc : ∀ A', Ext A1 A' → it.still A') (hn : it.n ≤ big)
    (body : ∀ (i : Nat) (A' : Ah) (k : D → Ah → Prop) (sk : Ah → Prop), i < it.n → Ext A1 A' → (∀ A2, Ext A' A2 → k (f i) A2) → g (it.item i) (wipeG Γ vs) A' fun Γ2 A2 => c Γ2 A2 (fun b A3 => bsel b (e Γ2 A3 k fun _ _ => False) (sk A3)) fun _ _ => False)
    (done : ∀ p A', A1 p = none → Ext A1 A' → A' p = some (.lst ((List.range it.n).map f)) → q (.ref p) A') :
    lcR it A1 g c e vs Γ q := by
  unfold lcR
  intro p hp
  refine ⟨fun i acc A' => acc = (List.range i).map f ∧ A' p = some (.lst acc) ∧ Ext A1 A', ⟨rfl, updA_same, .new hp⟩, ?_, ?_, ?_⟩
  · rintro i acc A' _ ⟨rfl, e1, G⟩
    exact ⟨hsrc _ G, e1⟩
  · rintro i acc A' hi ⟨rfl, e1, G⟩
    refine body i _ _ (fun A3 => ∃ ac, A3 p = some (.lst ac) ∧ ac = (List.range (i + 1)).map f ∧ A3 p = some (.lst ac) ∧ Ext A1 A3) hi G (fun A2 G2 => ⟨_, G2 p _ e1, by rw [List.length_map, List.length_range]; omega, ?_, updA_same, (G.trans G2).upd hp⟩)
    rw [List.range_succ, List.map_append]; rfl
  · rintro acc A' ⟨rfl, e1, G⟩
    exact done p A' hp G e1
theorem atI_neg {α : Type} {cs : List α} : L2.atI cs (-1) = cs.getLast? := by
  unfold L2.atI L2.ixN
  rw [if_neg (by omega)]
  cases cs with
  | nil => rfl
  | cons c r =>
    have hl : (c :: r).length = r.length + 1 := rfl
    rw [if_pos (by omega), show (-1 + ((c :: r).length : Int)).toNat = (c :: r).length - 1 by omega, List.getLast?_eq_getElem?]
    rfl
end GA

namespace GA
open PySem PySem.Spec PyProof.Rows L2 GV TL
/-! ### sorted of a tuple of plain data, upwards or downwards -/
section
variable {prog : Program} {w : World} {A : Around} {E : Value → Shared → Prop} {s : Shared}
theorem gatherT {t : Addr} {ys : List Value} {R : List Value → Shared → Prop} (hn : ys.length ≤ sizeLine) (ht : IsTup s.heap t ys.toArray) (k : R ys { s with heap := (s.heap.push (seqObj "list" #[] 0)).update s.heap.objs.size (Obj.mapSeq (· ++ ys.toArray)) }) : wpAny (model prog w) A (collect (.ref t)) R E s := by
  obtain ⟨ob, g1, g2, c, g3⟩ := ht
  unfold collect
  refine wpAny_bind (wpAny_runValue (codeAny_builtin entry_proto_collect' (show wpAny _ _ (do again (.builtin "list.__iadd__" ⟨[← newList [], .ref t], []⟩)) _ _ s from wpAny_bind (wpAny_newList (wpAny_pure ⟨Code.quiet_builtin _ (by decide +kernel), codeAny_builtin entry_list_iadd' (show wpAny _ _ (Builtin.List.listExtendWith (.ref s.heap.objs.size) (.ref t) (.ref s.heap.objs.size)) _ _ { s with heap := s.heap.push (seqObj "list" #[] 0) } from ?_)⟩)))))
  unfold Builtin.List.listExtendWith
  have g4 : (s.heap.push (seqObj "list" #[] 0)).get? t = some ob := Heap.get?_push_of_some _ g1
  refine wpAny_bind (wpAny_typeOf (T := "tuple") ⟨ob, g4, g2⟩ ?_)
  have g5 : (Value.type "tuple" == Value.type "tuple") = true := by rfl
  rw [if_pos (by rw [g5]; simp)]
  refine wpAny_bind (listItems_at g4 g3 (wpAny_bind (listItems_at (xs := #[]) (n := 0) (Heap.get?_push_size _ rfl) rfl ?_)))
  rw [if_neg (by simp)]
  refine wpAny_bind (listUpdate_at (xs := #[]) (n := 0) (Heap.get?_push_size _ rfl) rfl (wpAny_pure (show wpAny (model prog w) A (do
      let o ← load s.heap.objs.size
      match o.data with
      | .seq xs _ => pure xs.toList
      | _ => unsupported "internal:collect") R E { s with heap := (s.heap.push (seqObj "list" #[] 0)).update s.heap.objs.size (Obj.mapSeq (· ++ ys.toArray)) } from ?_)) (Nat.zero_le _) (by show (#[] ++ ys.toArray).size ≤ sizeLine + 1; simp only [Array.size_append, List.size_toArray, List.length_nil]; omega))
  refine wpAny_bind (wpAny_load (get?_update_seq (Heap.get?_push_size _ rfl) _) (show wpAny _ _ (pure ((#[] : Array Value) ++ ys.toArray).toList) R E _ from ?_))
  rw [show ((#[] : Array Value) ++ ys.toArray).toList = ys by simp]
  exact wpAny_pure k
theorem sortT_of {t : Addr} {ys : List Value} {kw : List (Str × Value)} {R : Value → Shared → Prop} (ht : IsTup s.heap t ys.toArray) (hn : ys.length ≤ sizeLine) (a1 : argsOk "sorted" ⟨[.ref t], kw⟩) (a2 : ∀ x, argsOk "list.sort" ⟨[.ref x], kw⟩)
    (run : ∀ E' : Value → Shared → Prop, wpAny (model prog w) A.in1.in1 (Builtin.«list.sort» ⟨[.ref (s.heap.objs.size + 1)], kw⟩) (fun f s' => f = .done (.ret .none) ∧ R (.ref (s.heap.objs.size + 1)) s') E' { s with heap := PySem.W.copyHeap s.heap ys }) : wpAny (model prog w) A (call (.builtin "sorted") [.ref t] kw) R E s := by
  refine call_function_entry_kw kind_sorted plain_sorted entry_sorted a1 ?_
  unfold Builtin.«sorted»
  refine wpAny_bind (m := checkCount "sorted" 1 1 _) (wpAny_pure (wpAny_bind (gatherT hn ht (wpAny_bind (wpAny_newList ?_ hn)))))
  have sz : ((s.heap.push (seqObj "list" #[] 0)).update s.heap.objs.size (Obj.mapSeq (· ++ ys.toArray))).objs.size = s.heap.objs.size + 1 := by rw [Heap.size_update, size_push']
  show wpAny _ _ _ _ _ { s with heap := PySem.W.copyHeap s.heap ys }
  rw [sz]
  refine wpAny_bind (wpAny_holding (wpAny_call_entry_kw slot_list_sort ⟨_, PySem.W.copyHeap_at s.heap ys, rfl⟩ entry_list_sort ?go (a2 _)))
  case go =>
    show wpAny (model prog w) A.in1.in1 (Builtin.«list.sort» ⟨[.ref (s.heap.objs.size + 1)], kw⟩) _ _ _
    refine wpAny_mono (run _) (fun f s' hf => ?_) fun _ _ e => e
    obtain ⟨rfl, hq⟩ := hf
    exact ⟨_, rfl, wpAny_pure ⟨_, rfl, hq⟩⟩
theorem sortT_data {β : Type} {ys : List Value} {bs : List β} {enc : β → PyData} {rel : Value → β → Prop} {t : Addr} {b : Bool} {kw : List (Str × Value)} {R : Value → Shared → Prop} (hkw : (kw = [] ∧ b = false) ∨ kw = [(Str.ofString "reverse", .bool b)]) (ht : IsTup s.heap t ys.toArray)
    (e : PySem.W.EachIs rel ys bs) (er : PySem.W.EachIs (fun v b => ∃ as, Reads s.heap v (enc b) as) ys bs) (hal : PySem.W.AllAlike (bs.map enc)) (hk : PySem.W.Sortable (bs.map enc)) (hn : bs.length ≤ sizeLine)
    (hu : ∀ b, b ∈ bs → A.units + 2 + (enc b).depth < cLine) (h : ∀ out, out.length = bs.length → PySem.W.EachIs rel out (bs.mergeSort (PySem.W.dataLe b enc)) → R (.ref (s.heap.objs.size + 1)) { s with heap := sortedAll s.heap ys (List.toArray out) }) :
    wpAny (model prog w) A (call (.builtin "sorted") [.ref t] kw) R E s := by
  have er2 : PySem.W.EachIs (fun v b => ∃ as, Reads (PySem.W.sortingHeap (PySem.W.copyHeap s.heap ys) (s.heap.objs.size + 1) ys) v (enc b) as) ys bs := er.mono fun _ _ ⟨as, r⟩ => ⟨as, PyProof.Rows.Reads.keeps (fun _ _ => PySem.W.sorting_copy_old) r⟩
  have S := PySem.W.SortsAt.data (prog := prog) (w := w) (A := A.in1.in1) (s := { s with heap := PySem.W.sortingHeap (PySem.W.copyHeap s.heap ys) (s.heap.objs.size + 1) ys }) (PySem.W.each_map (R := fun v d => ∃ as, Reads (PySem.W.sortingHeap (PySem.W.copyHeap s.heap ys) (s.heap.objs.size + 1) ys) v d as) enc er2) hal hk (PySem.W.bound_map (A := A.in1.in1) hu)
  have hl : ys.length ≤ sizeLine := by rw [e.length]; exact hn
  rcases hkw with ⟨rfl, rfl⟩ | rfl
  · exact sortT_of ht hl (args_sorted1 _) (fun _ => args_list_sort _) fun _ => PySem.W.list_sort_vals (s := { s with heap := PySem.W.copyHeap s.heap ys }) (PySem.W.copyHeap_at s.heap ys) S hl ⟨rfl, h _ (by rw [PySem.W.sortVals_length false rfl]; exact e.length) (PySem.W.sortVals_data false e er2 hal)⟩
  · exact sortT_of ht hl (args_sorted_rev _ _) (fun _ => args_list_sort_rev _ _) fun _ => PySem.W.list_sort_rev_vals (s := { s with heap := PySem.W.copyHeap s.heap ys }) (PySem.W.copyHeap_at s.heap ys) S hl ⟨rfl, h _ (by rw [PySem.W.sortVals_length b rfl]; exact e.length) (PySem.W.sortVals_data b e er2 hal)⟩
end
def srtTR (K : Fg) (b : Bool) : List V → Hp → VK → Prop := fun vs H Q => ∃ (a : Addr) (bs : List (V × D)), vs = [V.ref a] ∧ SqT K H a (bs.map (·.1)) ∧ DpAll K H (bs.map (·.1)) (bs.map keyP) ∧ PySem.W.AllAlike (bs.map keyP) ∧ PySem.W.Sortable (bs.map keyP) ∧ (∀ b ∈ bs, (keyP b).depth ≤ 60) ∧
  ∀ p, H p = none → Q (.ref p) (upd H p (.lst ((bs.mergeSort (PySem.W.dataLe b keyP)).map (·.1))))
section
variable {X : Cx}
theorem srtT_run {b : Bool} {kw : List (Str × Value)} (hkw : (kw = [] ∧ b = false) ∨ kw = [(Str.ofString "reverse", .bool b)]) (hu : X.A.units + 64 < cLine) {pins : List (Addr × Obj)} {s : Shared} {σ : L2.St} {H : Hp} {vs : List V} {us : List Value} {Q : VK} (I : Inv X pins σ H s) (r : Vals vs us) (h : srtTR X.K b vs H Q) :
    wpAny (model X.prog X.w) X.A (call (.builtin "sorted") us kw) (EP X pins σ Q) X.xe s := by
  obtain ⟨a, bs, rfl, hs, hd, h1, h2, h3, hq⟩ := h
  obtain ⟨its, rv, hl, hz⟩ := I.tuple hs
  rw [Vals.ref1 r]
  obtain ⟨as, hr⟩ := Dp.readsAll I _ _ _ hd rv
  rw [List.length_map] at hz
  refine sortT_data (enc := keyP) (rel := fun u (b : V × D) => RelV b.1 u) hkw hl (each_of_vals rv) (each_of_reads hr) h1 h2 hz (fun b hb => by have := h3 b hb; omega) fun out ho he => ?_
  obtain ⟨n, hn⟩ := PyProof.Rows.sortedAll_at s.heap its out.toArray
  have hlen : ((bs.mergeSort (PySem.W.dataLe b keyP)).map (·.1)).length ≤ sizeLine := by
    rw [List.length_map, (List.mergeSort_perm bs _).length_eq]; exact hz
  exact ⟨.ref _, upd H (s.heap.objs.size + 1) (.lst ((bs.mergeSort (PySem.W.dataLe b keyP)).map (·.1))), I.laid (t' := s.toks) (fun _ _ => PyProof.Rows.sortedAll_old) (Nat.le_succ _) ⟨hlen, out, n, vals_of_each he, hn⟩, rfl, hq _ (I.hok.fresh (Nat.le_succ _))⟩
theorem cr_sortT (hu : X.A.units + 64 < cLine) : CallR X (.builtin "sorted") (srtTR X.K false) := fun pins s σ H vs us Q I r h => srtT_run (kw := []) (.inl ⟨rfl, rfl⟩) hu I r h
theorem cr_sortTR (hu : X.A.units + 64 < cLine) {b : Bool} : CallRK X (.builtin "sorted") [Str.ofString "reverse"] (fun vs zs H Q => zs = [.bl b] ∧ srtTR X.K b vs H Q) := fun pins s σ H vs zs us ws Q I r rz h => by
  obtain ⟨rfl, h⟩ := h
  obtain ⟨w1, rfl, e1⟩ := vals1 rz
  obtain rfl : w1 = Value.bool b := e1
  exact srtT_run (kw := [(Str.ofString "reverse", .bool b)]) (.inr rfl) hu I r h
end
def aSortTB (b : Bool) : A1c := fun ds A q => match ds with
  | [.tup xs] => D.flats 60 xs = true ∧ PySem.W.AllAlike (xs.map D.py) ∧ PySem.W.Sortable (xs.map D.py) ∧ newL A (xs.mergeSort (PySem.W.dataLe b D.py)) q
  | _ => False
def aSortT : A1c := aSortTB false
theorem sim_sortT {K : Fg} {b : Bool} : SimC K (srtTR K b) (aSortTB b) := by
  intro H A vs ds q Q R hv h k
  unfold aSortTB at h
  split at h
  · rename_i _ xs
    obtain ⟨v, rfl, h1⟩ := hv.one
    obtain ⟨hf, h2, h3, h⟩ := h
    obtain ⟨p, ws, rfl, e1, r1⟩ := h1.inv_tup
    have hl := r1.length
    refine ⟨_, ws.zip xs, rfl, ?_, ?_, ?_, ?_, fun b hb => ?_, fun p hp => ?_⟩
    · rw [zip_fst hl]; exact e1
    · rw [zip_fst hl, zip_key hl, ← pys_map]
      exact Vls.dp 60 hf r1
    · rw [zip_key hl]; exact h2
    · rw [zip_key hl]; exact h3
    · exact (flat_depth 60 b.2 (flats_mem hf b.2 (List.of_mem_zip hb).2)).1
    · have hm : ((ws.zip xs).mergeSort (PySem.W.dataLe b keyP)).map (·.2) = xs.mergeSort (PySem.W.dataLe b D.py) := by
        have := PySem.W.sort_maps (r := PySem.W.dataLe b keyP) (s := PySem.W.dataLe b D.py) (fun b : V × D => b.2) (l := ws.zip xs) (fun _ _ _ _ => rfl)
        rw [this, zip_snd hl]
      have hv := vls_of_pairs (K := K) (H := H) (bs := (ws.zip xs).mergeSort (PySem.W.dataLe b keyP)) fun b hb => pairs_of_vls r1 b ((List.mergeSort_perm _ _).mem_iff.mp hb)
      rw [hm] at hv
      exact k _ _ _ _ (.new hp) (R.new hp (.lst hv)) (.ref p) (h p (R.none hp))
  · exact h.elim
section
variable {X : Cx} {W : WX}
theorem ba_sortT (hu : X.A.units + 64 < cLine) : BltA X (.builtin "sorted") (srtTR X.K false) aSortT := ⟨cr_sortT hu, sim_sortT⟩
/-- sorted(t, reverse=True) -/
def aSortKw (r : List D → List D → Ah → (D → Ah → Prop) → Prop) (as ak : AA) : AE := fun Γ A q x => as Γ A (fun ds A1 => ak Γ A1 (fun es A2 => r ds es A2 q) x) x
def aSortTR : List D → List D → Ah → (D → Ah → Prop) → Prop := fun ds es A q => es = [.bl true] ∧ aSortTB true ds A q
variable {e : Expr} {es : List Expr} {kws : List Keyword} {t tk : TA} {aa ak : AA} {p pos : Pos}
theorem ga_sortTR (hu : X.A.units + 64 < cLine) (h : PAA X W (e :: es) t aa) (hkw : PKA X W kws tk ak) (hm : X.mg "sorted" = none) (hg : Gl X "sorted" := by rfl)
    (he : backTo pos (starEach (e :: es) X.env) = (false, eval e X.env) :: backTo pos (starEach es X.env) := by rfl) (hpl : (backTo pos (starEach (e :: es) X.env)).any (·.1) = false := by rfl)
    (hall : (backToKw pos (keywordEach kws X.env)).all (·.1.isSome) = true := by rfl) (hnone : (backToKw pos (keywordEach kws X.env)).any (·.1.isNone) = false := by rfl) (hks : (backToKw pos (keywordEach kws X.env)).filterMap (·.1) = [Str.ofString "reverse"] := by rfl) :
    PEA X W (.Call (.Name "sorted" p) (e :: es) kws pos) (tCKw (fun vs zs H Q => zs = [.bl true] ∧ srtTR X.K true vs H Q) t tk) (aSortKw aSortTR aa ak) where
  pe := pe_callBK (cr_sortTR hu) hg hm (by decide +kernel) h.pe hkw.pe (by decide) (by decide) he hpl hall hnone hks
  sim := fun σ H Γ A q x Q R S hh k kx => h.sim σ H Γ A _ x _ R S hh (fun H1 vs ds A1 n1 R1 v1 h1 => hkw.sim σ H1 Γ A1 _ x _ R1 (S.mono n1) h1 (fun H2 zs es A2 n2 R2 v2 h2 => by
    obtain ⟨rfl, h2⟩ := h2
    obtain ⟨z, rfl, hz⟩ := v2.one
    cases hz
    exact ⟨rfl, sim_sortT H2 A2 vs ds q Q R2 (v1.mono n2) h2 fun H3 y f A3 n3 R3 v3 h3 => k H3 y f A3 ((n1.trans n2).trans n3) R3 v3 h3⟩) fun H2 e A2 n2 R2 h2 => kx H2 e A2 (n1.trans n2) R2 h2) kx
end
/-! ### list.index, list.reverse, xs[::-1] -/
def aIndex : A1m := fun d ds A q => match d, ds with
  | d, [y] => onS A d fun xs => y.sc = true ∧ xs.all D.sc = true ∧ ∃ (j : Nat) (z : D), xs[j]? = some z ∧ D.eqv z y = true ∧ (∀ (m : Nat) (z' : D), m < j → xs[m]? = some z' → D.eqv z' y = false) ∧ q (.int (j : Nat)) A
  | _, _ => False
theorem Vls.at' {K : Fg} {H : Hp} : ∀ {vs : List V} {ds : List D} {j : Nat} {d : D}, Vls K H vs ds → ds[j]? = some d → ∃ v, vs[j]? = some v ∧ Val K H v d
  | _, _, 0, _, .cons h _, e => ⟨_, rfl, by simpa using (by simpa using e : _ = _) ▸ h⟩
  | _, _, j + 1, _, .cons _ t, e => Vls.at' t (j := j) (by simpa using e)
theorem Vls.at2 {K : Fg} {H : Hp} : ∀ {vs : List V} {ds : List D} {j : Nat} {v : V}, Vls K H vs ds → vs[j]? = some v → ∃ d, ds[j]? = some d ∧ Val K H v d
  | _, _, 0, _, .cons h _, e => ⟨_, rfl, by simpa using (by simpa using e : _ = _) ▸ h⟩
  | _, _, j + 1, _, .cons _ t, e => Vls.at2 t (j := j) (by simpa using e)
theorem sim_index {K : Fg} : SimM K "list" (rIndex K) aIndex := by
  intro H A v d vs ds q Q R hv hvs h k
  unfold aIndex at h
  split at h
  · rename_i _ _ y
    obtain ⟨u, rfl, hu⟩ := hvs.one
    obtain ⟨xs, a, ws, ⟨hy, hx, j, z, hz, hzy, hno, h⟩, rfl, e1, r1⟩ := onS_of R hv h
    obtain ⟨w, hw, hwz⟩ := Vls.at' r1 hz
    have scat : ∀ {i : Nat} {d : D}, xs[i]? = some d → d.sc = true := fun h => List.all_eq_true.mp hx _ (List.mem_of_getElem? h)
    refine ⟨a, ws, u, j, w, rfl, rfl, Rd.sq e1, hu.flatV hy, r1.flatV hx, hw, ?_, fun m w' hm hw' => ?_, k _ _ _ A .rfl R (.int _) h⟩
    · rw [hwz.eqV hu (scat hz) hy]; exact hzy
    · obtain ⟨d', hd', hv'⟩ := Vls.at2 r1 hw'
      rw [hv'.eqV hu (scat hd') hy]
      exact hno m d' hm hd'
  · exact h.elim
def aRevS : A1m := fun d ds A q => match d, ds with
  | .ref a, [] => onL A a fun xs => q .non (updA A a (.lst xs.reverse))
  | _, _ => False
section
variable {X : Cx} {W : WX} {e : Expr} {te : TE} {ae : AE} {k : Nat} {p1 p2 p3 pos : Pos}
theorem ml_index : MthL X "index" "list.index" (rIndex X.K) aIndex := ⟨PySem.F.slot_list_index, PySem.F.type_list_index, mt_index, sim_index⟩
theorem sim_revS {K : Fg} : SimM K "list" rReverse aRevS := by
  intro H A v d vs ds q Q R hv hvs h k
  unfold aRevS at h
  split at h
  · cases hvs
    cases hv
    obtain ⟨xs, e, h⟩ := h
    obtain ⟨ws, e1, r1⟩ := R.lst e
    have n1 : Nxt K H (upd H _ (.lst ws.reverse)) := .set e1 noTup_lst
    exact ⟨_, ws, rfl, rfl, e1, k _ _ _ _ n1 (R.set e1 noTup_lst (.lst (Vls.rev r1))) .non h⟩
  · exact h.elim
theorem ml_reverse : MthL X "reverse" "list.reverse" rReverse aRevS := ⟨PySem.F.slot_list_reverse, PySem.F.type_list_reverse, mt_reverse, sim_revS⟩
def aRevL (a : AE) : AE := fun Γ A q x => a Γ A (fun d A1 => match d with
  | .ref a => onL A1 a fun xs => newL A1 xs.reverse q
  | .fl xs => newL A1 xs.reverse q
  | _ => False) x
theorem ga_revL (h : PEA X W e te ae) : PEA X W (.Subscript e (.Slice none none (some (.UnaryOp .USub (.Constant (.int 1) k p1) p2)) p3) pos) (tRevL X.K te) (aRevL ae) where
  pe := pe_revL h.pe
  sim := fun σ H Γ A q x Q R S hh k kx => h.sim σ H Γ A _ x _ R S hh (fun H1 v d A1 n1 R1 v1 h1 => by
    cases d with
    | ref a =>
      obtain ⟨xs, e, h1⟩ := h1
      obtain ⟨ws, e1, r1⟩ := R1.lst e
      cases v1
      exact ⟨a, ws, rfl, SqL.of e1, fun p hp => k _ _ _ _ (n1.trans (.new hp)) (R1.new hp (.lst r1.rev)) (.ref p) (h1 p (R1.none hp))⟩
    | fl xs =>
      obtain ⟨a, ws, rfl, e1, r1, _⟩ := v1.inv_fl
      exact ⟨a, ws, rfl, Rd.sq e1, fun p hp => k _ _ _ _ (n1.trans (.new hp)) (R1.new hp (.lst r1.rev)) (.ref p) (h1 p (R1.none hp))⟩
    | _ => exact h1.elim) kx
end
/-! ### the truth of a tuple or list -/
def aTruth (a : AE) : AT := fun Γ A q x => a Γ A (fun d A1 => match d with
  | .tup xs => q (!xs.isEmpty) A1
  | .ref a => onL A1 a fun xs => q (!xs.isEmpty) A1
  | .fl xs => q (!xs.isEmpty) A1
  | _ => False) x
theorem Vls.emp {K : Fg} {H : Hp} {vs : List V} {ds : List D} (h : Vls K H vs ds) : vs.isEmpty = ds.isEmpty := by cases h <;> rfl
section
variable {X : Cx} {W : WX} {e : Expr} {te : TE} {ae : AE}
theorem gt_truth (h : PEA X W e te ae) (he : ∀ whole, isTrue e X.env whole = (do let v ← whole; standAt e.pos; holding [v] (truthy v)) := by intro _; rfl) : PTA X W e (fun σ H Q => te σ H fun x H' => ∃ k, TruV X.K x H' k ∧ Q k H') (aTruth ae) where
  pe := pt_truth h.pe he
  sim := fun σ H Γ A q x Q R S hh k kx => h.sim σ H Γ A _ x _ R S hh (fun H1 v d A1 n1 R1 v1 h1 => by
    cases d with
    | tup xs =>
      obtain ⟨p, ws, rfl, e1, r1⟩ := v1.inv_tup
      exact ⟨_, .inr (.inl ⟨ws, e1, rfl⟩), k H1 _ A1 n1 R1 (by rw [r1.emp]; exact h1)⟩
    | ref a =>
      obtain ⟨xs, e, h1⟩ := h1
      obtain ⟨ws, e1, r1⟩ := R1.lst e
      cases v1
      exact ⟨_, .inl ⟨ws, SqL.of e1, rfl⟩, k H1 _ A1 n1 R1 (by rw [r1.emp]; exact h1)⟩
    | fl xs =>
      obtain ⟨a, ws, rfl, e1, r1, _⟩ := v1.inv_fl
      exact ⟨_, .inl ⟨ws, Rd.sq e1, rfl⟩, k H1 _ A1 n1 R1 (by rw [r1.emp]; exact h1)⟩
    | _ => exact h1.elim) kx
end
/-! ### sets of texts -/
theorem noTup_st {P : Program} {w : World} {p : Addr} {S : Key → Bool} {n : Nat} : NoTup (SetK P w p S n) := ⟨fun _ e => (nomatch e), fun _ _ e => (nomatch e)⟩
def aSetNew (P : Program) (w : World) : AE := fun _ A q _ => ∀ p, A p = none → q (.ref p) (updA A p (.st P w p (fun _ => false) 0))
def aSAdd (P : Program) (w : World) (o : AE) (as : AA) : AE := fun Γ A q x => o Γ A (fun d A1 => match d with
  | .ref a => (∃ S n, A1 a = some (.st P w a S n)) ∧ as Γ A1 (fun ds A2 => match ds with
    | [y] => ∃ S n k, A2 a = some (.st P w a S n) ∧ keyOf y = some k ∧ n + 1 < 4000 ∧ q .non (updA A2 a (.st P w a (fun j => S j || decide (j = k)) (if S k = true then n else n + 1)))
    | _ => False) x
  | _ => False) x
def aSIn (P : Program) (w : World) (neg : Bool) : A2 := fun d e A q => match e with
  | .ref a => ∃ S n k, A a = some (.st P w a S n) ∧ keyOf d = some k ∧ q (.bl (if neg then !S k else S k)) A
  | _ => False
section
variable {X : Cx} {W : WX} {o e : Expr} {to te : TE} {ao ae : AE} {p pos apos cpos : Pos}
theorem scan_ok {n : Nat} (h : n < 4000) : n < scanBound := Nat.lt_of_lt_of_le h (by decide +kernel)
theorem ga_set0 (hm : X.mg "set" = none) (hg : Gl X "set" := by rfl) : PEA X W (.Call (.Name "set" p) [] [] pos) (tCB (rSet0K X.prog X.w) tNil) (aSetNew X.prog X.w) where
  pe := pe_callTy0 cr_set0K hg hm (by decide +kernel)
  sim := fun σ H Γ A q x Q R S hh k kx => ⟨rfl, fun p hp => k _ _ _ _ (.new hp) (R.new hp .st) (.ref p) (hh p (R.none hp))⟩
theorem RelA.stc {K : Fg} {H : Hp} {A : Ah} (R : RelA K H A) {a p : Addr} {P : Program} {w : World} {S : Key → Bool} {n : Nat} (h : A a = some (.st P w p S n)) : H a = some (SetK P w p S n) := by
  obtain ⟨o, h1, h2⟩ := R a _ h
  cases h2
  exact h1
theorem sim_sin {K : Fg} {P : Program} {w : World} {neg : Bool} : Sim2 K (rSInK P w neg) (aSIn P w neg) := by
  intro H A v u d e q Q R hv hu h k
  unfold aSIn at h
  split at h
  · obtain ⟨S, n, ky, e1, hk, h⟩ := h
    cases hu
    exact ⟨ky, _, S, n, keyOf_ok hv hk, rfl, R.stc e1, k _ _ _ A .rfl R (.bl _) h⟩
  · exact h.elim
theorem ca_sin : CmpA X .In (rSInK X.prog X.w false) (aSIn X.prog X.w false) := ⟨or_sinK, sim_sin⟩
theorem ca_sni : CmpA X .NotIn (rSInK X.prog X.w true) (aSIn X.prog X.w true) := ⟨or_snotinK, sim_sin⟩
variable {es : List Expr} {t : TA} {aa : AA}
theorem ga_sadd (ho : PEA X W o to ao) (he : PAA X W (e :: es) t aa)
    (h1 : attributeBase o "add" X.env (eval o X.env) = eval o X.env := by rfl)
    (h2 : ((backTo cpos (starEach (e :: es) X.env)).all (fun x => !x.1) && (backToKw cpos (keywordEach [] X.env)).all (fun x => x.1.isSome) && decide ((e :: es).length + ([] : List Keyword).length + (if ([] : List Keyword).isEmpty then 0 else 1) < 30)) = true := by rfl)
    (h3 : (apos.endLine == cpos.line) = true := by rfl) (h4 : starEach (e :: es) X.env = (false, eval e X.env) :: starEach es X.env := by rfl) (h5 : (backTo cpos (starEach es X.env)).any (·.1) = false := by rfl) :
    PEA X W (.Call (.Attribute o "add" apos) (e :: es) [] cpos) (tSAddK X.prog X.w to t) (aSAdd X.prog X.w ao aa) where
  pe := pe_saddK ho.pe he.pe h1 h2 h3 h4 h5
  sim := fun σ H Γ A q x Q R S hh k kx => ho.sim σ H Γ A _ x _ R S hh (fun H1 v d A1 n1 R1 v1 h1 => by
    cases d with
    | ref a =>
      obtain ⟨⟨T, n, e1⟩, h1⟩ := h1
      cases v1
      refine ⟨⟨a, T, n, rfl, R1.stc e1⟩, he.sim σ H1 Γ A1 _ x _ R1 (S.mono n1) h1 (fun H2 vs ds A2 n2 R2 v2 h2 => ?_) fun H2 e A2 n2 R2 h2 => kx H2 e A2 (n1.trans n2) R2 h2⟩
      split at h2
      · obtain ⟨S2, n3, ky, e2, hk, hn, h2⟩ := h2
        obtain ⟨u, rfl, hu⟩ := v2.one
        have e3 := R2.stc e2
        have n4 : Nxt X.K H2 (upd H2 a (SetK X.prog X.w a (fun j => S2 j || decide (j = ky)) (if S2 ky = true then n3 else n3 + 1))) := .set e3 noTup_st
        exact ⟨a, ky, S2, n3, rfl, by rw [keyOf_ok hu hk], e3, scan_ok hn, k _ _ _ _ ((n1.trans n2).trans n4) (R2.set e3 noTup_st .st) .non h2⟩
      · exact h2.elim
    | _ => exact h1.elim) kx
end
/-! ### x //= e -/
def aAugF (i : Nat) (a : AE) : AS := fun D Γ A => match Γ[i]? with
  | some (some (.int m)) => a Γ A (fun d A1 => match d with
    | .int n => (0 < n ∧ n < 1073741824) ∧ D.nx (Γ.set i (some (.int (m / n)))) A1
    | _ => False) fun e A' => D.ex e Γ A'
  | _ => False
theorem ip_divI {X : Cx} : PIp X .FloorDiv (rI CDiv fun i j => .int (i / j)) := fun pins s σ H x y v u Q I r1 r2 h => iop_fdiv pins s σ H x y v u Q I r1 r2 h
section
variable {X : Cx} {W : WX} {e : Expr} {te : TE} {ae : AE} {pos pos' : Pos}
theorem gs_augF {i : Nat} {x : Str} (hN : X.N.Nodup) (h : PEA X W e te ae) (hi : X.N[i]? = some x := by rfl) (hl : L2.Loc X.env.scope x := by first | exact Or.inl rfl | exact Or.inr rfl)
    (hf : X.fn x = true ∨ List.lookup x X.env.scope.names = some NameKind.local := by first | exact Or.inl rfl | exact Or.inr rfl) : PSA X W (.AugAssign (.Name x pos') .FloorDiv e pos) (tAug i te (rI CDiv fun i j => .int (i / j))) (aAugF i ae) :=
  ⟨ps_aug hN hi hl h.pe ip_divI hf, fun D AD σ H Γ A R S hh k => by
    unfold aAugF at hh
    split at hh
    · rename_i m e1
      obtain ⟨v, e2, hv⟩ := S.get i _ e1
      cases hv
      refine ⟨_, e2, h.sim σ H Γ A _ _ _ R S hh (fun H1 w d A1 n1 R1 v1 h1 => ?_) fun H' e A' n R' h' => k.ex e σ H' Γ A' n R' (S.mono n) h'⟩
      cases d with
      | int n =>
        cases v1
        obtain ⟨hb, h1⟩ := h1
        exact ⟨m, n, rfl, rfl, hb, k.nx _ H1 _ A1 n1 R1 ((S.mono n1).set (.int _)) h1⟩
      | _ => exact h1.elim
    · exact hh.elim⟩
end
end GA

namespace GA
open PySem PySem.Spec PyProof.Rows L2 GV TL
open Sem (wp)
open AutoSeq1 (wpAny_loadPart')
/-! ### enumerate of a tuple -/
theorem meets_enumerate_newT {v : Value} {o : Obj} {H : Heap → Prop} (B : Begins v o H) :
    Meets (Builtin.«enumerate.__new__» ⟨[.type "enumerate", v], []⟩) (fun _ R s => H s.heap ∧
      R (.ok (.ret (.ref (s.heap.push o).objs.size)))
        { s with heap := (s.heap.push o).push { cls := .type "enumerate", data := .fields #[.none, .bool false, .ref s.heap.objs.size, rawInt 0, .none, .none] } }) :=
  .of_wp fun prog w A R s h => by
    obtain ⟨hp, g, d, tk, os⟩ := s
    obtain ⟨h1, h⟩ := h
    have hsub := sub_enumerate
    have q1 : ∀ {A' : Around} {E : Value → Shared → Prop} {Q : Value → Shared → Prop}, Q (.ref hp.objs.size) ⟨hp.push o, g, d, tk, os⟩ → wpAny (model prog w) A' (pyIter v) Q E ⟨hp, g, d, tk, os⟩ :=
      fun q => B.iter prog w _ _ ⟨hp, g, d, tk, os⟩ _ h1 q
    wp_walk using q1
    refine wpAny_stack_any fun st => wpAny_pure ?_
    split
    · rename_i c _ _ _ _ _
      cases (c == Value.type "enumerate")
      · wp_walk using q1
        exact ⟨_, rfl, h⟩
      · wp_walk using q1
        exact ⟨_, rfl, h⟩
    · wp_walk using q1
      exact ⟨_, rfl, h⟩
theorem enum_beginsT {prog : Program} {w : World} {A : Around} {E : Value → Shared → Prop} {s : Shared} {v : Value} {o : Obj} {H : Heap → Prop} {Q : Value → Shared → Prop} (B : Begins v o H) (h1 : H s.heap)
    (h : ∀ h', IsEnum h' (s.heap.objs.size + 1) s.heap.objs.size 0 .none → h'.get? s.heap.objs.size = some o → h'.objs.size = s.heap.objs.size + 2 →
      (∀ b o, s.heap.get? b = some o → h'.get? b = some o) → Q (.ref (s.heap.objs.size + 1)) { s with heap := h' }) :
    wpAny (model prog w) A (call (.type "enumerate") [v]) Q E s := by
  refine callType_new F.called_enumerate (by decide) (F.typeCall_enumerate_1 _) (F.newCall_enumerate_1 _) (fun obj => F.args_object_init_2 obj _) F.entry_enumerate_new
    (meets_enumerate_newT B) ⟨h1, ?_⟩
  have hz : (s.heap.push o).objs.size = s.heap.objs.size + 1 := Heap.size_push ..
  show _ ∧ _
  rw [hz]
  have he : IsEnum ((s.heap.push o).push { cls := .type "enumerate", data := .fields #[.none, .bool false, .ref s.heap.objs.size, rawInt 0, .none, .none] }) (s.heap.objs.size + 1) s.heap.objs.size 0 .none := by
    have := Heap.get?_push_size (s.heap.push o) (o := { cls := .type "enumerate", data := .fields #[.none, .bool false, .ref s.heap.objs.size, rawInt 0, .none, .none] }) rfl
    rw [hz] at this; exact this
  refine ⟨⟨_, he, rfl⟩, h _ he (Heap.get?_push_of_some _ (Heap.get?_push_size _ B.free)) (by rw [Heap.size_push, hz]) fun b o x => Heap.get?_push_of_some _ (Heap.get?_push_of_some _ x)⟩
def Itet (K : PySem.W.Frag) (a : Addr) : It :=
  ⟨fun i H => ∃ (xs : List V) (x : V), SqT K H a xs ∧ xs[i]? = some x, fun i H v H' => ∃ T x, v = .ref T ∧ H T = none ∧ H' = upd H T (.tup [.int (i : Nat), x]) ∧ ∀ xs, SqT K H a xs → xs[i]? = some x, fun i H => ∃ xs : List V, SqT K H a xs ∧ xs.length ≤ i⟩
theorem tup_ne {h : Heap} {a it t : Addr} {i : Nat} {items : Array Value} (p : h.IsTuple a items) (hit : h.IsTupleIter it t i) : a ≠ it := by
  obtain ⟨o, e, c, _⟩ := p
  obtain ⟨o', e', c', _⟩ := hit
  intro z
  subst z
  rw [e] at e'
  cases e'
  rw [c] at c'
  injection c' with z
  exact absurd z (by decide)
theorem turn_enumT {P : Program} {w : World} {K : PySem.W.Frag} {elts : List Expr} {kk : Nat} {tpos : Pos} (a e it : Addr) :
    Turn P w K (.Tuple elts kk tpos) (Itet K a) [e, it] e (fun i h => (∃ old, IsEnum h e it ((i : Nat) : Int) old) ∧ h.IsTupleIter it a i ∧ e ≠ it) where
  mem := by simp
  obj := fun i h st b hb => by
    obtain ⟨⟨old, he⟩, ⟨o, ho, hc, hd⟩, _⟩ := st
    have e' : b = e ∨ b = it := by simpa using hb
    rcases e' with z | z
    · rw [z]; exact ⟨_, he, fun v q => nomatch q⟩
    · rw [z]; exact ⟨o, ho, fun v q => by rw [hd] at q; cases q⟩
  keep := fun i h h' st k => let ⟨⟨old, he⟩, hi, hne⟩ := st; ⟨⟨old, k e (by simp) _ he⟩, hi.at fun o q => k it (by simp) o q, hne⟩
  item := by
    intro X hP hw hK hc i pins s σ H E I hf st hg
    subst hP hw hK
    obtain ⟨⟨old, he⟩, hit, hne⟩ := st
    obtain ⟨xs, x, hq, hx⟩ := hg
    obtain ⟨its, rv, p, hz⟩ := I.tuple hq
    have p' : s.heap.IsTuple a its.toArray := p
    have hai := tup_ne p' hit
    obtain ⟨u, hu, ru⟩ := rv.get hx
    have hel : e < s.heap.objs.size := Heap.lt_size he
    have hil : it < s.heap.objs.size := by obtain ⟨_, q, _⟩ := hit; exact Heap.lt_size q
    have hlt : i < its.toArray.size := by
      rw [List.size_toArray]
      exact (List.getElem?_eq_some_iff.mp hu).1
    have hea : e ≠ a := by
      obtain ⟨o, q, c, _⟩ := p'
      intro z
      subst z
      rw [he] at q
      cases q
      injection c with z
      exact absurd z (by decide)
    refine wpAny_pyNext_enum_itemD (Draws.tuple (show X.A.in1.handled = none from I.ok.hd hc) it a hai its.toArray) he ⟨hit, p'⟩ hlt hne (by simp [hne, hea]) fun x' h' tk hx' ho st' hT hsz hk => ?_
    have hx' : x' = u := by
      have : its.toArray[i]? = some u := by simpa using hu
      rw [this] at hx'
      cases hx'
      rfl
    subst hx'
    obtain ⟨hit', _⟩ := st'
    refine ⟨_, rfl, wpAny_letOwnedTupleGo_enum (s := { s with heap := h', toks := tk + 1 }) ho fun h'' he' sb => ?_⟩
    have hT2 : h''.get? s.heap.objs.size = some { cls := .type "tuple", data := .seq #[.int i tk, x'] } := (sb.2 _ (Nat.ne_of_gt hel)).trans hT
    have new : ObjOk X.prog X.w (upd H s.heap.objs.size (.tup [.int (i : Nat), x])) h'' s.heap.objs.size (.tup [.int (i : Nat), x]) :=
      ⟨by show 2 ≤ sizeLine; decide, [.int i tk, x'], .cons ⟨_, rfl⟩ (.cons ru .nil), ⟨_, hT2, rfl, _, rfl⟩⟩
    have I1 : Inv X pins σ (upd H s.heap.objs.size (.tup [.int (i : Nat), x])) { s with heap := h'', toks := tk + 1 } :=
      I.turnedNew (ch := [e, it]) (fun b ob hb q => (sb.2 b (fun z => hb (by simp [z]))).trans (hk b ob (fun z => hb (by simp [z])) (fun z => hb (by simp [z])) q)) hf (Nat.le_refl _) new
    refine ⟨.ref s.heap.objs.size, _, I1, rfl, ⟨_, x, rfl, I.hok.fresh (Nat.le_refl _), rfl, fun ys hy => by rw [I.tuple_inj hy hq]; exact hx⟩, ⟨⟨x', ?_⟩, hit'.at fun o q => (sb.2 it (Ne.symm hne)).trans q, hne⟩, fun b hb => ?_⟩
    · have e1 : ((i + 1 : Nat) : Int) = (i : Int) + 1 := by omega
      rw [e1]; exact he'
    · have hb' : b < s.heap.objs.size := by
        have e' : b = e ∨ b = it := by simpa using hb
        rcases e' with z | z
        · rw [z]; exact hel
        · rw [z]; exact hil
      rw [upd_ne (Nat.ne_of_lt hb')]
      exact (hf b hb).1
  done := by
    intro X hP hw hK hc i pins s σ H E I hf st hg
    subst hP hw hK
    obtain ⟨⟨old, he⟩, hit, hne⟩ := st
    obtain ⟨xs, hq, hx⟩ := hg
    obtain ⟨its, rv, p, hz⟩ := I.tuple hq
    have p' : s.heap.IsTuple a its.toArray := p
    have hai := tup_ne p' hit
    obtain ⟨f0, f1, f2, f3, f4, f5⟩ := hf it (by simp)
    have hl := rv.length
    have hT : s.TypeIs (.ref e) "enumerate" := ⟨_, he, rfl⟩
    unfold pyNext
    refine wpAny_bind (wpAny_attempt (wpAny_callSpecial?_slot (name := Str.ofString "__next__") hT F.slot_enumerate_next
      (wpAny_call_entry F.slot_enumerate_next hT F.entry_enumerate_next ?_ (F.args_enumerate_next_1 _))))
    show wpAny _ _ (field (.ref e) 2 >>= _) _ _ _
    refine wpAny_bind (wpAny_field he rfl (x := .ref it) rfl ?_)
    refine wpAny_bind (wpAny_nextOf_tuple_end (show X.A.in1.handled = none from I.ok.hd hc) hit p' (by simp; omega) fun h' x he' hx' => ?_)
    obtain ⟨o, ho, hcl⟩ := hx'
    refine wpAny_bind (wpAny_isInstance (T := "StopIteration") (b := true) ⟨o, ho, hcl⟩ isSubtype_stop ?_)
    exact wpAny_pure ⟨rfl, I.turned (t' := s.toks) (fun b o hb q => he' b o hb q) f0 f1 f3 f4 f5⟩
  self := fun A i s Q E st h => let ⟨⟨_, he⟩, _⟩ := st; wpAny_pyIter_enum he h
def iEnumU (K : PySem.W.Frag) (ta : TA) : TI := fun σ H R => ta σ H fun vs H1 => (∃ a xs, vs = [.ref a] ∧ SqL K H1 a xs ∧ R (Ite K a) H1) ∨ ∃ a xs, vs = [.ref a] ∧ SqT K H1 a xs ∧ R (Itet K a) H1
theorem pi_enumU {X : Cx} {e : Expr} {ta : TA} {p pos tpos : Pos} {elts : List Expr} {kk : Nat} (hg : Gl X "enumerate") (hm : X.mg "enumerate" = none) (ha : PA X [e] ta) (hs : starEach [e] X.env = [(false, eval e X.env)] := by rfl) :
    PI X (.Tuple elts kk tpos) (.Call (.Name "enumerate" p) [e] [] pos) (iEnumU X.K ta) := by
  refine ⟨fun pins s σ H R I h => ?_⟩
  refine Call_ (ld_blt I hg hm boot_enumerate (PyProof.Rows.callWith_type1 (thn (ha.run pos pins s σ H _ I h) fun us s1 ⟨vs, H1, I1, r1, q1⟩ => ?_) hs rfl))
  rcases q1 with ⟨a, xs, ex, hq, q⟩ | ⟨a, xs, ex, hq, q⟩
  · subst ex
    cases r1 with
    | cons r rr =>
      cases rr
      cases r
      obtain ⟨its, rv, p', hz⟩ := I1.list hq
      refine call_enumerate_list p'.isList fun h' he hit hsz hk => wpAny_pyIter_enum he ?_
      have I2 : Inv X pins σ H1 { s1 with heap := h' } := I1.kept (t' := s1.toks) hk
      refine ⟨s1.heap.objs.size + 1, [s1.heap.objs.size + 1, s1.heap.objs.size], _, _, H1, rfl, I2, turn_enum a (s1.heap.objs.size + 1) s1.heap.objs.size, ⟨⟨.none, he⟩, hit, Nat.succ_ne_self _⟩, fun b hb => ?_, q⟩
      have e' : b = s1.heap.objs.size + 1 ∨ b = s1.heap.objs.size := by simpa using hb
      have hle : s1.heap.objs.size ≤ b := by
        rcases e' with z | z
        · rw [z]; exact Nat.le_add_right _ _
        · rw [z]; exact Nat.le_refl _
      exact I1.fpOk hle (I1.hok.fresh hle)
  · subst ex
    cases r1 with
    | cons r rr =>
      cases rr
      cases r
      obtain ⟨its, rv, p', hz⟩ := I1.tuple hq
      have p2 : s1.heap.IsTuple a its.toArray := p'
      refine enum_beginsT (begins_tuple a its.toArray) p2 fun h' he hit hsz hk => wpAny_pyIter_enum he ?_
      have I2 : Inv X pins σ H1 { s1 with heap := h' } := I1.kept (t' := s1.toks) hk
      refine ⟨s1.heap.objs.size + 1, [s1.heap.objs.size + 1, s1.heap.objs.size], _, _, H1, rfl, I2, turn_enumT a (s1.heap.objs.size + 1) s1.heap.objs.size, ⟨⟨.none, he⟩, ⟨_, hit, rfl, rfl⟩, Nat.succ_ne_self _⟩, fun b hb => ?_, q⟩
      have e' : b = s1.heap.objs.size + 1 ∨ b = s1.heap.objs.size := by simpa using hb
      have hle : s1.heap.objs.size ≤ b := by
        rcases e' with z | z
        · rw [z]; exact Nat.le_add_right _ _
        · rw [z]; exact Nat.le_refl _
      exact I1.fpOk hle (I1.hok.fresh hle)
section
variable {X : Cx} {W : WX} {e : Expr} {t : TA} {at_ : AA} {p pos tpos : Pos} {elts : List Expr} {kk : Nat}
theorem loop_enumT {K : Fg} {a : Addr} {ds : List D} {vs : List V} {H0 : Hp} (h : SqT K H0 a vs) (hv : Vls K H0 vs ds) : LoopOk K H0 (Itet K a) ⟨none, ds.length, fun i => .tup [.int (i : Nat), ds.getD i .non]⟩ where
  go := fun i H A n R st hi => by
    have hi : i < ds.length := hi
    obtain ⟨v, e, _⟩ := (hv.mono n).get (i := i) (List.getElem?_eq_getElem hi)
    exact ⟨vs, v, n.tp _ _ h, e⟩
  yld := fun i H A x H' n R st hi hy => by
    have hi : i < ds.length := hi
    obtain ⟨v, e, rv⟩ := (hv.mono n).get (i := i) (List.getElem?_eq_getElem hi)
    obtain ⟨T, y, rfl, hT, rfl, hx⟩ := hy
    have := hx vs (n.tp _ _ h)
    rw [e] at this
    cases this
    have n2 : Nxt K H (upd H T (.tup [.int (i : Nat), v])) := .new hT
    refine ⟨n2, R.ext hT, ?_⟩
    show Val K _ _ (D.tup [.int (i : Nat), ds.getD i .non])
    rw [getD_at hi]
    exact .tup (.inl (.inl (upd_same ..))) (.cons (.int _) (.cons (rv.mono n2) .nil))
  stop := fun i H A n R st hi => ⟨vs, n.tp _ _ h, by rw [hv.length]; exact hi⟩
def aEnumU (as : AA) : AI := fun Γ A q x => as Γ A (fun ds A1 => match ds with
  | [.ref a] => onL A1 a fun ds => q ⟨some (a, ds), ds.length, fun i => .tup [.int (i : Nat), ds.getD i .non]⟩ A1
  | [.fl ds] => q ⟨none, ds.length, fun i => .tup [.int (i : Nat), ds.getD i .non]⟩ A1
  | [.tup ds] => q ⟨none, ds.length, fun i => .tup [.int (i : Nat), ds.getD i .non]⟩ A1
  | _ => False) x
theorem gi_enumU (h : PAA X W [e] t at_) (hm : X.mg "enumerate" = none) (hg : Gl X "enumerate" := by rfl) (hs : starEach [e] X.env = [(false, eval e X.env)] := by rfl) :
    PIA X W (.Tuple elts kk tpos) (.Call (.Name "enumerate" p) [e] [] pos) (iEnumU X.K t) (aEnumU at_) where
  pe := pi_enumU hg hm h.pe hs
  sim := fun σ H Γ A q x Q R S hh k kx => h.sim σ H Γ A _ x _ R S hh (fun H1 vs ds A1 n1 R1 v1 h1 => by
    split at h1
    · obtain ⟨v, rfl, hv⟩ := v1.one
      cases hv
      obtain ⟨xs, ha, h1⟩ := onL_of h1
      obtain ⟨ws, e1, r1⟩ := R1.lst ha
      exact .inl ⟨_, ws, rfl, SqL.of e1, k H1 _ _ A1 n1 R1 loop_enum ha h1⟩
    · obtain ⟨v, rfl, hv⟩ := v1.one
      obtain ⟨p, vs, rfl, hp, hvs, o⟩ := hv.inv_fl
      exact .inl ⟨_, vs, rfl, Rd.sq hp, k H1 _ _ A1 n1 R1 (loop_enumF o hvs) trivial h1⟩
    · obtain ⟨v, rfl, hv⟩ := v1.one
      obtain ⟨p, vs, rfl, hp, hvs⟩ := hv.inv_tup
      exact .inr ⟨_, vs, rfl, hp, k H1 _ _ A1 n1 R1 (loop_enumT hp hvs) trivial h1⟩
    · exact h1.elim) kx
end
/-! ### a list that nothing writes to from here on -/
def tFrz (t : TE) : TE := fun σ H Q => t σ H fun v H1 => Q v H1 ∨ ∃ d xs, v = .ref d ∧ H1 d = some (.lst xs) ∧ ∀ od, Q v (upd H1 d (.frz od (.lst xs)))
theorem pe_frz {X : Cx} {e : Expr} {t : TE} (h : PE X e t) : PE X e (tFrz t) := by
  refine ⟨fun pins s σ H Q I hw => thn (h.run pins s σ H _ I hw) fun v s1 ⟨x, H1, I1, r, q⟩ => ?_⟩
  rcases q with q | ⟨d, xs, rfl, e, q⟩
  · exact ⟨x, H1, I1, r, q⟩
  · obtain ⟨od, I2⟩ := I1.lock e trivial
    exact ⟨_, _, I2, r, q od⟩
def delA (A : Ah) (a : Addr) : Ah := fun b => if b = a then none else A b
theorem delA_new {A : Ah} {p : Addr} {c : Cell} (h : A p = none) : delA (updA A p c) p = A := by
  funext b
  unfold delA updA
  split
  · rename_i e; rw [e, h]
  · rfl
theorem RelA.frz {K : Fg} {H : Hp} {A : Ah} {a : Addr} {o o' : HO} (R : RelA K H A) (h : H a = some o) (hn : NoTup o) : RelA K (upd H a o') (delA A a) := fun b c e => by
  unfold delA at e
  split at e
  · cases e
  · rename_i hb
    obtain ⟨o2, h1, h2⟩ := R b c e
    exact ⟨o2, by rw [upd_ne hb]; exact h1, h2.mono (.set h hn)⟩
/-- .. a list that is handed on is read alone; what is not a list stays as it is -/
def frzK (q : D → Ah → Prop) : D → Ah → Prop := fun d A1 => match d with
  | .ref a => onL A1 a fun ds => q (.fl ds) (delA A1 a)
  | d => q d A1
def aFrz (a : AE) : AE := fun Γ A q x => a Γ A (frzK q) x
section
variable {X : Cx} {W : WX} {e : Expr} {te : TE} {ae : AE}
theorem ga_frz (h : PEA X W e te ae) : PEA X W e (tFrz te) (aFrz ae) where
  pe := pe_frz h.pe
  sim := fun σ H Γ A q x Q R S hh k kx => h.sim σ H Γ A _ x _ R S hh (fun H1 v d A1 n1 R1 v1 h1 => by
    cases d with
    | ref a =>
      obtain ⟨xs, e, h1⟩ := onL_of h1
      obtain ⟨ws, e1, r1⟩ := R1.lst e
      cases v1
      have n2 : ∀ od, Nxt X.K H1 (upd H1 a (.frz od (.lst ws))) := fun od => .set e1 noTup_lst
      exact .inr ⟨a, ws, rfl, e1, fun od => k _ _ _ _ (n1.trans (n2 od)) (R1.frz e1 noTup_lst) (.fl ⟨od, upd_same⟩ (r1.mono (n2 od))) h1⟩
    | _ => exact .inl (k _ _ _ A1 n1 R1 v1 h1)) kx
/-- a new list, locked at once -/
def aLstF (as : AA) : AE := fun Γ A q x => as Γ A (fun ds A1 => ds.length ≤ big ∧ q (.fl ds) A1) x
theorem ga_lstF {es : List Expr} {t : TA} {at_ : AA} {pos : Pos} (h : PAA X W es t at_) : PEA X W (.List es pos) (tFrz (tLst t)) (aLstF at_) where
  pe := pe_frz (pe_lst h.pe)
  sim := fun σ H Γ A q x Q R S hh k kx => h.sim σ H Γ A _ x _ R S hh (fun H1 vs ds A1 n1 R1 v1 h1 => by
    refine ⟨by rw [big_eq, v1.length]; exact h1.1, fun p hp => .inr ⟨p, vs, rfl, upd_same, fun od => ?_⟩⟩
    rw [upd_upd]
    exact k _ _ _ _ (n1.trans (.new hp)) (R1.ext hp) (.fl ⟨od, upd_same⟩ (v1.mono (.new hp))) h1.2) kx
end
/-! ### defs whose garbage is forgotten at the return -/
def shr (q : D → Ah → Prop) : D → Ah → Prop := fun d A => ∃ B, Ext B A ∧ q d B
theorem lift_shr {K : Fg} {sp : ASp} {vs : List V} {H : Hp} {Q : VK} {E : XK} (h : lift K sp vs H Q E) : lift K (fun ds A q x => ∃ q0, q = shr q0 ∧ sp ds A q0 x) vs H Q E := by
  obtain ⟨A, ds, q, x, R, hv, hs, hq, hx⟩ := h
  exact ⟨A, ds, shr q, x, R, hv, ⟨q, rfl, hs⟩, fun H' v d A' n R' v' ⟨B, hB, h'⟩ => hq H' v d B n (R'.less hB) v' h', hx⟩
section
variable {P : Program} {w : World} {K : Fg} {mg : Str → Option Value} {base : Heap}
theorem fnB_of {x qual : Str} {params : Arguments} {body : List Stmt} {scope : Scope} {dvs : List V} {kws : List (Str × V)} {f : Addr} {fd : FuncData} {N ps : List Str} {k : Nat} {sp : ASp} {as : AS}
    (F : FunD K x qual params body scope dvs kws f fd) (S : FnScope N ps scope) (len : ∀ ds A q e, sp ds A q e → ds.length = ps.length)
    (hbody : ∀ (cdv : Value) (A : Around) (outer : List Env) (s : Shared) (H : Hp) (E : XK), Room k (A.deeper (envOfC qual scope s.heap.objs.size f cdv)) →
      L2N.Takes (cxOf (L2N.CX P w) P w K mg base N qual scope f cdv A outer s H E) (fun cls d _ H => E cls d H) →
      PassesOwn (model P w) (A.deeper (envOfC qual scope s.heap.objs.size f cdv)) (envOfC qual scope s.heap.objs.size f cdv) (cxOf (L2N.CX P w) P w K mg base N qual scope f cdv A outer s H E).xe →
      ∃ ts, PSsA (cxOf (L2N.CX P w) P w K mg base N qual scope f cdv A outer s H E) (fun cls d _ H => E cls d H) body ts as)
    (pure : ∀ ds A q x, sp ds A q x → as (endsA (shr q) x) (startA N ds) A) : FnA P w K mg base (k + 1) f fd ps sp :=
  (fnA_of (sp := fun ds A q x => ∃ q0, q = shr q0 ∧ sp ds A q0 x) F S (fun ds A q e ⟨q0, _, h⟩ => len ds A q0 e h) hbody (fun ds A q x ⟨q0, e, h⟩ => e ▸ pure ds A q0 x h)).imp fun _ _ _ _ h => lift_shr h
theorem fnHB_of {cl : List Str} {x qual : Str} {params : Arguments} {body : List Stmt} {scope : Scope} {dvs : List V} {kws : List (Str × V)} {f : Addr} {fd : FuncData} {N ps : List Str} {k : Nat} {sp : HSp} {as : Addr → Exn → AS}
    (F : FunD K x qual params body scope dvs kws f fd) (S : FnScope N ps scope) (len : ∀ a e ds A q x, sp a e ds A q x → ds.length = ps.length)
    (hbody : ∀ (cdv : Value) (A : Around) (outer : List Env) (s : Shared) (H : Hp) (E : XK) (p : Addr × Obj) (e : Exn), e.cls ∈ cl → L2H.Hot1 A p → L2N.Zn (exC K e) (some e.d) p.2 → (∃ vs, p.2.data = .fields vs) → L2H.RoomH k (A.deeper (envOfC qual scope s.heap.objs.size f cdv)) →
      L2N.Takes (L2H.cxH (L2N.CX P w) P w K mg base N qual scope f cdv A outer s H E p) (fun cls d _ H => E cls d H) →
      PassesOwn (model P w) (A.deeper (envOfC qual scope s.heap.objs.size f cdv)) (envOfC qual scope s.heap.objs.size f cdv) (L2H.cxH (L2N.CX P w) P w K mg base N qual scope f cdv A outer s H E p).xe →
      ∃ ts, PSsA (L2H.cxH (L2N.CX P w) P w K mg base N qual scope f cdv A outer s H E p) (fun cls d _ H => E cls d H) body ts (as p.1 e))
    (pure : ∀ a e ds A q x, sp a e ds A q x → as a e (endsA (shr q) x) (startA N ds) A) : FnE P w K mg base (L2N.CX P w) (k + 1) f fd ps (liftH K cl sp) :=
  have F2 := fnH_of (sp := fun a e ds A q x => ∃ q0, q = shr q0 ∧ sp a e ds A q0 x) F S (fun a e ds A q x ⟨q0, _, h⟩ => len a e ds A q0 x h) hbody (fun a e ds A q x ⟨q0, z, h⟩ => z ▸ pure a e ds A q0 x h)
  have up : ∀ p vs H Q E, liftH K cl sp p vs H Q E → liftH K cl (fun a e ds A q x => ∃ q0, q = shr q0 ∧ sp a e ds A q0 x) p vs H Q E := fun _ _ _ _ _ ⟨e, h1, h2, h3, h4⟩ => ⟨e, h1, h2, h3, lift_shr h4⟩
  ⟨fun p vs H Q E h => F2.len p vs H Q E (up _ _ _ _ _ h), fun p A outer s H args us vs Q E a1 a2 a3 a4 a5 a6 h => F2.run p A outer s H args us vs Q E a1 a2 a3 a4 a5 a6 (up _ _ _ _ _ h)⟩
end
/-! ### a range that goes down -/
def aRngD (as : AA) : AI := fun Γ A q x => as Γ A (fun ds A1 => match ds with
  | [.int i, .int j, .int c] => (c = -1 ∧ -4611686018427387904 ≤ i ∧ i < 4611686018427387904 ∧ -4611686018427387904 ≤ j ∧ j < 4611686018427387904) ∧ q ⟨none, (i - j).toNat, fun k => .int (i - (k : Nat))⟩ A1
  | _ => False) x
theorem loop_rngC {K : Fg} {H0 : Hp} {lo c : Int} {n : Nat} : LoopOk K H0 (Itc lo c n) ⟨none, n, fun i => .int (lo + (i : Nat) * c)⟩ where
  go := fun i H A _ _ _ hi => hi
  yld := fun i H A x H' _ R _ hi hy => by
    obtain ⟨rfl, rfl⟩ := hy
    exact ⟨.rfl, R, .int _⟩
  stop := fun i H A _ _ _ hi => hi
section
variable {X : Cx} {W : WX} {tg a b c : Expr} {ta : TA} {aa : AA} {p pos : Pos}
theorem gi_rngD (h : PAA X W [a, b, c] ta aa) (hm : X.mg "range" = none) (hg : Gl X "range" := by rfl)
    (hs : starEach [a, b, c] X.env = (false, eval a X.env) :: starEach [b, c] X.env := by rfl) (hpl : (backTo pos (starEach [b, c] X.env)).any (·.1) = false := by rfl) :
    PIA X W tg (.Call (.Name "range" p) [a, b, c] [] pos) (iRng3 ta) (aRngD aa) where
  pe := pi_range3 hg hm h.pe hs hpl
  sim := fun σ H Γ A q x Q R S hh k kx => h.sim σ H Γ A _ x _ R S hh (fun H1 vs ds A1 n1 R1 v1 h1 => by
    split at h1
    · obtain ⟨⟨rfl, g1, g2, g3, g4⟩, h1⟩ := h1
      cases v1 with
      | cons w1 v1 => cases v1 with
        | cons w2 v1 => cases v1 with
          | cons w3 v1 =>
            cases v1; cases w1; cases w2; cases w3
            refine ⟨_, _, -1, _, rfl, RgC.neg (by rw [p62]; exact g1) (by rw [p62]; exact g2) (by rw [p62]; exact g3) (by rw [p62]; exact g4), k H1 _ _ A1 n1 R1 loop_rngC trivial ?_⟩
            have : ∀ (i : Int) (k : Nat), i + (k : Int) * -1 = i - k := fun i k => by omega
            simp only [this]
            exact h1
    · exact h1.elim) kx
end
end GA
namespace GA
open PySem PySem.Spec PyProof.Rows L2 GV TL
/-! ### in, the items of any flat data -/
def rInU (K : Fg) (neg : Bool) : R2 := fun x y H Q => ∃ d ds, Dp K H x d ∧ (Dp K H y (.tuple ds) ∨ Dp K H y (.list ds)) ∧ d.canLay0 = true ∧ PyData.canLayAll0 ds = true ∧ d.depth ≤ 60 ∧ Q (.bl (if neg then !(ds.any fun z => PyData.eqv z d) else ds.any fun z => PyData.eqv z d)) H
section
variable {X : Cx}
theorem op_inU (hu : X.A.units + 64 < cLine) : OpR X (compareOp .In) (rInU X.K false) := by
  intro pins s σ H x y v u Q I rx ry h
  obtain ⟨d, ds, hd, he, sd, se, hl, q⟩ := h
  obtain ⟨as, r1⟩ := Dp.reads I d x v hd rx
  have hu2 : X.A.units + 1 + min (PyData.depthAll ds) d.depth < cLine := by
    have := Nat.min_le_right (PyData.depthAll ds) d.depth
    omega
  rcases he with he | he
  · obtain ⟨bs, r2⟩ := Dp.reads I (.tuple ds) y u he ry
    exact SeqAt.in_tuple_reads r2 r1 se sd hu2 ⟨.bl _, H, I, rfl, q⟩
  · obtain ⟨bs, r2⟩ := Dp.reads I (.list ds) y u he ry
    exact SeqAt.in_list_reads r2 r1 se sd hu2 ⟨.bl _, H, I, rfl, q⟩
theorem op_niU (hu : X.A.units + 64 < cLine) : OpR X (compareOp .NotIn) (rInU X.K true) := by
  intro pins s σ H x y v u Q I rx ry h
  obtain ⟨d, ds, hd, he, sd, se, hl, q⟩ := h
  obtain ⟨as, r1⟩ := Dp.reads I d x v hd rx
  have hu2 : X.A.units + 1 + min (PyData.depthAll ds) d.depth < cLine := by
    have := Nat.min_le_right (PyData.depthAll ds) d.depth
    omega
  rcases he with he | he
  · obtain ⟨bs, r2⟩ := Dp.reads I (.tuple ds) y u he ry
    exact SeqAt.notIn_tuple_reads r2 r1 se sd hu2 ⟨.bl _, H, I, rfl, q⟩
  · obtain ⟨bs, r2⟩ := Dp.reads I (.list ds) y u he ry
    exact SeqAt.notIn_list_reads r2 r1 se sd hu2 ⟨.bl _, H, I, rfl, q⟩
end
def aInU (neg : Bool) : A2 := fun d e A q => match e with
  | .str b => (match d with
    | .str a => q (.bl (if neg then !inL a b else inL a b)) A
    | _ => False)
  | .tup ds => d.flat 60 = true ∧ D.flats 60 ds = true ∧ q (.bl (if neg then !inD d ds else inD d ds)) A
  | .fl ds => d.flat 60 = true ∧ D.flats 60 ds = true ∧ q (.bl (if neg then !inD d ds else inD d ds)) A
  | .ref a => onL A a fun ds => d.flat 60 = true ∧ D.flats 60 ds = true ∧ q (.bl (if neg then !inD d ds else inD d ds)) A
  | _ => False
theorem inD_py {d : D} (hd : d.flat 60 = true) : ∀ {ds : List D}, D.flats 60 ds = true → ((D.pys ds).any fun z => PyData.eqv z d.py) = inD d ds
  | [], _ => rfl
  | e :: ds, h => by
    have h1 : e.flat 60 = true ∧ D.flats 60 ds = true := by simpa [D.flats] using h
    have ih := inD_py hd h1.2
    unfold inD at ih ⊢
    rw [D.pys, List.any_cons, List.any_cons, ih, py_eqv 60 60 e d h1.1 hd]
theorem sim_inU {K : Fg} {neg : Bool} : Sim2 K (r2or (if neg then rNiS else rInS) (rInU K neg)) (aInU neg) := by
  intro H A v w d e q Q R hv hw h k
  have fin : ∀ ds y, (Dp K H y (.tuple (D.pys ds)) ∨ Dp K H y (.list (D.pys ds))) → d.flat 60 = true → D.flats 60 ds = true → q (.bl (if neg then !inD d ds else inD d ds)) A → rInU K neg v y H Q := by
    intro ds y hy h1 h2 h3
    refine ⟨d.py, D.pys ds, hv.dp 60 h1, hy, (flat_depth 60 d h1).2, (flats_depth 60 ds h2).2, (flat_depth 60 d h1).1, ?_⟩
    rw [inD_py h1 h2]
    exact k H _ _ A .rfl R (.bl _) h3
  cases e with
  | str b =>
    cases d with
    | str a =>
      obtain ⟨x, rfl, rfl⟩ := hv.inv_str
      obtain ⟨y, rfl, rfl⟩ := hw.inv_str
      refine .inl ?_
      cases neg
      · refine ⟨x, y, rfl, rfl, ?_⟩
        rw [inL_eq]
        exact k H _ _ A .rfl R (.bl _) h
      · refine ⟨x, y, rfl, rfl, ?_⟩
        rw [inL_eq]
        exact k H _ _ A .rfl R (.bl _) h
    | _ => exact h.elim
  | tup ds =>
    obtain ⟨h1, h2, h3⟩ := h
    obtain ⟨p, vs, rfl, hp, hvs⟩ := hw.inv_tup
    exact .inr (fin ds _ (.inl (.tup hp (hvs.dp 60 h2))) h1 h2 h3)
  | fl ds =>
    obtain ⟨h1, h2, h3⟩ := h
    obtain ⟨p, vs, rfl, hp, hvs, _⟩ := hw.inv_fl
    exact .inr (fin ds _ (.inr (.lst (Rd.sq hp) (hvs.dp 60 h2))) h1 h2 h3)
  | ref a =>
    obtain ⟨ds, e, h1, h2, h3⟩ := h
    obtain ⟨vs, g1, g2⟩ := R.lst e
    cases hw
    exact .inr (fin ds _ (.inr (.lst (SqL.of g1) (g2.dp 60 h2))) h1 h2 h3)
  | _ => exact h.elim
section
variable {X : Cx}
theorem ca_inU (hu : X.A.units + 64 < cLine) : CmpA X .In (r2or rInS (rInU X.K false)) (aInU false) := ⟨opR_or op_in_str (op_inU hu), sim_inU (neg := false)⟩
theorem ca_niU (hu : X.A.units + 64 < cLine) : CmpA X .NotIn (r2or rNiS (rInU X.K true)) (aInU true) := ⟨opR_or op_notin_str (op_niU hu), sim_inU (neg := true)⟩
end
end GA
namespace GA
open PySem PySem.Spec PyProof.Rows L2 GV TL
/-! ### the list in a slot is locked behind a statement -/
def tFrzV (t : TS) : TS := fun D σ H => t { D with nx := fun σ' H' => D.nx σ' H' ∨ ∃ d xs, H' d = some (.lst xs) ∧ ∀ od, D.nx σ' (upd H' d (.frz od (.lst xs))) } σ H
theorem ps_frzV {X : Cx} {st : Stmt} {t : TS} (h : PS X st t) : PS X st (tFrzV t) := by
  refine ⟨fun pins s σ H D I hw => thn (h.run pins s σ H _ I hw) fun f s1 q => ?_⟩
  cases f with
  | next =>
    obtain ⟨σ', H', I2, q⟩ := q
    rcases q with q | ⟨d, xs, e, q⟩
    · exact ⟨σ', H', I2, q⟩
    · obtain ⟨od, I3⟩ := I2.lock e trivial
      exact ⟨σ', _, I3, q od⟩
  | brk => exact q
  | cont => exact q
  | ret v => exact q
def aFrzV (i : Nat) (s : AS) : AS := fun D Γ A => s { D with nx := fun Γ' A' => match Γ'[i]? with
  | some (some (.ref a)) => onL A' a fun ds => D.nx (Γ'.set i (some (.fl ds))) (delA A' a)
  | _ => D.nx Γ' A' } Γ A
theorem Slots.reset {K : Fg} {H : Hp} {σ : L2.St} {Γ : Gt} (s : Slots K H σ Γ) {i : Nat} {v : V} {d : D} (e : σ[i]? = some (some v)) (h : Val K H v d) : Slots K H σ (Γ.set i (some d)) := by
  refine ⟨by rw [List.length_set]; exact s.len, fun j e' hj => ?_⟩
  by_cases hij : i = j
  · subst hij
    by_cases hi : i < Γ.length
    · rw [List.getElem?_set_self hi] at hj
      cases hj
      exact ⟨v, e, h⟩
    · rw [List.getElem?_eq_none (by rw [List.length_set]; omega)] at hj
      cases hj
  · rw [List.getElem?_set_ne hij] at hj
    exact s.get j e' hj
theorem gs_frzV {X : Cx} {W : WX} {st : Stmt} {t : TS} {s : AS} (i : Nat) (h : PSA X W st t s) : PSA X W st (tFrzV t) (aFrzV i s) where
  pe := ps_frzV h.pe
  sim := fun D AD σ H Γ A R S hh k => by
    refine h.sim _ _ σ H Γ A R S hh ⟨fun σ' H' Γ' A' n' R' S' h' => ?_, k.rt, k.bk, k.ct, k.ex⟩
    dsimp only at h' ⊢
    split at h'
    · rename_i a e
      obtain ⟨xs, e1, h'⟩ := onL_of h'
      obtain ⟨ws, e2, r1⟩ := R'.lst e1
      obtain ⟨v, g1, g2⟩ := S'.get i _ e
      cases g2
      have n2 : ∀ od, Nxt X.K H' (upd H' a (.frz od (.lst ws))) := fun od => .set e2 noTup_lst
      exact .inr ⟨a, ws, e2, fun od => k.nx _ _ _ _ (n'.trans (n2 od)) (R'.frz e2 noTup_lst) ((S'.mono (n2 od)).reset g1 (.fl ⟨od, upd_same⟩ (r1.mono (n2 od)))) h'⟩
    · exact .inl (k.nx _ _ _ _ n' R' S' h')
end GA
namespace GA
open PySem PySem.Spec PyProof.Rows L2 GV TL
/-! ### a def that calls itself -/
theorem fnRec {P : Program} {w : World} {K : Fg} {mg : Str → Option Value} {base : Heap} {x : Str} {m : Nat} {sp : Nat → ASp}
    (h0 : ∃ (f : Addr) (fd : FuncData) (ps : List Str), mg x = some (.ref f) ∧ PySem.W.keepIn K (.ref f) = true ∧ Binds K fd ps [])
    (step : ∀ n, Fn0 P w K mg base x (m + n) (sp n) → Fn0 P w K mg base x (m + n + 1) (sp (n + 1))) (no : ∀ ds A q x, sp 0 ds A q x → False) : ∀ n, Fn0 P w K mg base x (m + n) (sp n)
  | 0 => by
    obtain ⟨f, fd, ps, h1, h2, h3⟩ := h0
    exact ⟨f, fd, ps, ⟨fun vs H Q E ⟨A, ds, q, x, _, _, h, _⟩ => (no _ _ _ _ h).elim, fun _ _ _ _ _ _ vs Q E _ _ _ _ ⟨A, ds, q, x, _, _, h, _⟩ => (no _ _ _ _ h).elim⟩, h1, h2, h3⟩
  | n + 1 => step n (fnRec h0 step no n)
end GA
namespace GA
open PySem PySem.Spec PyProof.Rows L2 GV TL
/-! ### list(range(n)) -/
def aLRng1 (a : AE) : AE := fun Γ A q x => a Γ A (fun d A1 => match d with
  | .int j => (0 ≤ j ∧ j ≤ 16777216) ∧ newL A1 ((List.range j.toNat).map fun k => D.int (k : Nat)) q
  | _ => False) x
section
variable {X : Cx} {W : WX} {a : Expr} {ta : TE} {aa : AE} {p p2 pos pos2 : Pos}
theorem ga_lrng1 (hc : X.calm = true) (ha : PEA X W a ta aa) (hm : X.mg "range" = none) (hm2 : X.mg "list" = none) (hg : Gl X "range" := by rfl) (hg2 : Gl X "list" := by rfl)
    (na : starEach [a] X.env = (false, eval a X.env) :: starEach [] X.env := by rfl)
    (ne : starEach [(.Call (.Name "range" p) [a] [] pos : Expr)] X.env = (false, eval (.Call (.Name "range" p) [a] [] pos) X.env) :: starEach [] X.env := by rfl) :
    PEA X W (.Call (.Name "list" p2) [.Call (.Name "range" p) [a] [] pos] [] pos2) (tLstRg (tRg1 ta)) (aLRng1 aa) where
  pe := pe_listRg hc hg2 hm2 (prg_1 hg hm ha.pe na) ne
  sim := fun σ H Γ A q x Q R S h k kx => ha.sim σ H Γ A _ x _ R S h (fun H1 v d A1 n1 R1 v1 h1 => by
    split at h1
    · rename_i j
      cases v1
      obtain ⟨⟨b3, b4⟩, h1⟩ := h1
      refine ⟨_, rfl, RgOk.of_le (by decide) b4 (by decide) b3, fun r hr => ?_⟩
      refine k _ _ _ _ (n1.trans (.new hr)) (R1.new hr (.lst (rgD 0 j))) (.ref r) ?_
      have e : ((List.range (j - 0).toNat).map fun k => D.int (0 + (k : Nat))) = (List.range j.toNat).map fun k => D.int (k : Nat) := by
        rw [Int.sub_zero]
        exact List.map_congr_left fun k _ => by rw [Int.zero_add]
      rw [e]
      exact h1 r (R1.none hr)
    · exact h1.elim) kx
end
end GA

namespace GA
open PySem PySem.Spec PyProof.Rows L2 GV TL
/-! ### the plain side: frozen lists -/
theorem newL_frz {A : Ah} {ds : List D} {q : D → Ah → Prop} (h : q (.fl ds) A) : newL A ds (frzK q) := fun p hp => ⟨ds, updA_same, by rw [delA_new hp]; exact h⟩
theorem frz_new {A : Ah} {p : Addr} {ds : List D} {q : D → Ah → Prop} (hp : A p = none) (h : q (.fl ds) A) : frzK q (.ref p) (updA A p (.lst ds)) := ⟨ds, updA_same, by rw [delA_new hp]; exact h⟩
theorem Ext.del {A B : Ah} {p : Addr} (g : Ext A B) (h : A p = Option.none) : Ext A (delA B p) := fun b c e => by
  unfold delA
  rw [if_neg (fun z => by rw [z, h] at e; cases e)]
  exact g b c e
theorem delA_ne {A : Ah} {p b : Addr} (h : b ≠ p) : delA A p b = A b := by unfold delA; rw [if_neg h]
theorem Kp.del {l : Addr} {A B : Ah} {p : Addr} (g : Kp l A B) (h : A p = Option.none) : Kp l A (delA B p) := fun b c n e => by
  rw [delA_ne (fun z => by rw [z, h] at e; cases e)]
  exact g b c n e
theorem St.del {A : Ah} {l p : Addr} {n : Nat} (h : St A l n) (g : p ≠ l) : St (delA A p) l n := by
  obtain ⟨c0, c1, c2, c3, c4, c5, r, e, i⟩ := h
  exact ⟨c0, c1, c2, c3, c4, c5, r, by rw [delA_ne (Ne.symm g)]; exact e, i⟩
theorem shr_same {q : D → Ah → Prop} {d : D} {A : Ah} (h : q d A) : shr q d A := ⟨A, .rfl, h⟩
/-! comprehensions over what is known, the body leaving the heap as it is, the result frozen -/
theorem lc_fl {α : Type} {src : Option (Addr × List D)} {A1 : Ah} {g : AG} {c : AT} {e : AE} {vs : List Nat} {Γ : Gt} {q : D → Ah → Prop} (L : List α) (enc : α → D) (pr : α → Bool) (f : α → D)
    (hsrc : ∀ A', Ext A1 A' → ItA.still ⟨src, (L.map enc).length, fun i => (L.map enc).getD i .non⟩ A') (hn : L.length ≤ big)
    (body : ∀ a ∈ L, ∀ (A' : Ah) (k : D → Ah → Prop) (sk : Ah → Prop), Ext A1 A' → (pr a = true → k (f a) A') → (pr a = false → sk A') →
      g (enc a) (wipeG Γ vs) A' fun Γ2 A2 => c Γ2 A2 (fun b A3 => bsel b (e Γ2 A3 k fun _ _ => False) (sk A3)) fun _ _ => False)
    (done : q (.fl ((L.filter pr).map f)) A1) : lcR ⟨src, (L.map enc).length, fun i => (L.map enc).getD i .non⟩ A1 g c e vs Γ (frzK q) := by
  by_cases hne : L = []
  · subst hne
    refine lc_filS (fun _ => .non) (fun _ => false) hsrc (by show 0 ≤ big; exact Nat.zero_le _) (fun t A' κ sk ht => absurd ht (Nat.not_lt_zero _)) fun p hp => frz_new hp done
  · obtain ⟨a0, r, rfl⟩ := List.exists_cons_of_ne_nil hne
    refine lc_filS (fun t => f ((a0 :: r).getD t a0)) (fun t => pr ((a0 :: r).getD t a0)) hsrc (by show ((a0 :: r).map enc).length ≤ _; rw [List.length_map]; exact hn) (fun t A' κ sk ht G h1 h2 => ?_) fun p hp => frz_new hp ?_
    · have ht : t < (a0 :: r).length := by have : t < ((a0 :: r).map enc).length := ht; rwa [List.length_map] at this
      have e1 : ((a0 :: r).map enc).getD t .non = enc ((a0 :: r).getD t a0) := by
        rw [List.getD_eq_getElem?_getD, List.getElem?_map, List.getD_eq_getElem?_getD, List.getElem?_eq_getElem ht]; rfl
      show g (((a0 :: r).map enc).getD t .non) _ _ _
      rw [e1]
      refine body _ ?_ A' κ sk G h1 h2
      rw [List.getD_eq_getElem?_getD, List.getElem?_eq_getElem ht]
      exact List.getElem_mem ht
    · have e2 : ((List.range ((a0 :: r).map enc).length).filter fun t => pr ((a0 :: r).getD t a0)).map (fun t => f ((a0 :: r).getD t a0)) = ((a0 :: r).filter pr).map f := by
        have e3 : ∀ L : List α, ((List.range L.length).filter fun t => pr (L.getD t a0)).map (fun t => L.getD t a0) = L.filter pr := by
          intro L
          have h1 : L = (List.range L.length).map fun t => L.getD t a0 := by
            apply List.ext_getElem
            · simp
            · intro i h1 h2
              simp [List.getElem?_eq_getElem h1]
          conv => rhs; rw [h1, List.filter_map]
          rfl
        rw [List.length_map]
        have := congrArg (List.map f) (e3 (a0 :: r))
        rw [List.map_map] at this
        exact this
      show q (.fl _) A1
      rw [show (List.range (ItA.n ⟨src, ((a0 :: r).map enc).length, fun i => ((a0 :: r).map enc).getD i .non⟩)) = List.range ((a0 :: r).map enc).length from rfl, e2]
      exact done
theorem lc_flD {src : Option (Addr × List D)} {A1 : Ah} {g : AG} {c : AT} {e : AE} {vs : List Nat} {Γ : Gt} {q : D → Ah → Prop} (L : List D) (pr : D → Bool) (f : D → D)
    (hsrc : ∀ A', Ext A1 A' → ItA.still ⟨src, L.length, fun i => L.getD i .non⟩ A') (hn : L.length ≤ big)
    (body : ∀ a ∈ L, ∀ (A' : Ah) (k : D → Ah → Prop) (sk : Ah → Prop), Ext A1 A' → (pr a = true → k (f a) A') → (pr a = false → sk A') →
      g a (wipeG Γ vs) A' fun Γ2 A2 => c Γ2 A2 (fun b A3 => bsel b (e Γ2 A3 k fun _ _ => False) (sk A3)) fun _ _ => False)
    (done : q (.fl ((L.filter pr).map f)) A1) : lcR ⟨src, L.length, fun i => L.getD i .non⟩ A1 g c e vs Γ (frzK q) := by
  have := lc_fl (src := src) (A1 := A1) (g := g) (c := c) (e := e) (vs := vs) (Γ := Γ) (q := q) L id pr f (by simpa using hsrc) hn body done
  simpa using this
/-- .. without a test -/
theorem lc_flT {α : Type} {src : Option (Addr × List D)} {A1 : Ah} {g : AG} {e : AE} {vs : List Nat} {Γ : Gt} {q : D → Ah → Prop} (L : List α) (enc : α → D) (f : α → D)
    (hsrc : ∀ A', Ext A1 A' → ItA.still ⟨src, (L.map enc).length, fun i => (L.map enc).getD i .non⟩ A') (hn : L.length ≤ big)
    (body : ∀ a ∈ L, ∀ (A' : Ah) (k : D → Ah → Prop), Ext A1 A' → k (f a) A' → g (enc a) (wipeG Γ vs) A' fun Γ2 A2 => e Γ2 A2 k fun _ _ => False)
    (mono : ∀ (d : D) (A' : Ah) (k k' : Gt → Ah → Prop), (∀ Γ2 A2, k Γ2 A2 → k' Γ2 A2) → g d (wipeG Γ vs) A' k → g d (wipeG Γ vs) A' k')
    (done : q (.fl (L.map f)) A1) : lcR ⟨src, (L.map enc).length, fun i => (L.map enc).getD i .non⟩ A1 g aYes e vs Γ (frzK q) := by
  refine lc_fl L enc (fun _ => true) f hsrc hn (fun a ha A' k sk G h1 _ => mono _ _ _ _ (fun Γ2 A2 h => ?_) (body a ha A' k G (h1 rfl))) ?_
  · exact ⟨fun _ => h, fun z => Bool.noConfusion z⟩
  · have : (L.filter fun _ => true) = L := List.filter_eq_self.mpr fun _ _ => rfl
    rw [this]; exact done
/-- over a range -/
theorem lc_flR {n : Nat} {item : Nat → D} {A1 : Ah} {g : AG} {c : AT} {e : AE} {vs : List Nat} {Γ : Gt} {q : D → Ah → Prop} (f : Nat → D) (hn : n ≤ big)
    (body : ∀ i, i < n → ∀ (A' : Ah) (k : D → Ah → Prop) (sk : Ah → Prop), Ext A1 A' → k (f i) A' → g (item i) (wipeG Γ vs) A' fun Γ2 A2 => c Γ2 A2 (fun b A3 => bsel b (e Γ2 A3 k fun _ _ => False) (sk A3)) fun _ _ => False)
    (done : q (.fl ((List.range n).map f)) A1) : lcR ⟨none, n, item⟩ A1 g c e vs Γ (frzK q) :=
  lc_of f rfl hn (fun i A' k sk hi G h => body i hi A' k sk G h) fun p hp => frz_new hp done
/-! what is raised -/
def Rz (A : Ah) (x : AX) (cls : Str) (fs : List (Str × D)) : Prop := ∀ d A', Ext A A' → A' d = some (.xd fs) → x ⟨cls, d⟩ A'
theorem Rz.ext {A B : Ah} {x : AX} {cls : Str} {fs : List (Str × D)} (h : Rz A x cls fs) (g : Ext A B) : Rz B x cls fs := fun d A' e1 e2 => h d A' (g.trans e1) e2
theorem Rz.new {A : Ah} {x : AX} {cls : Str} {fs : List (Str × D)} (h : Rz A x cls fs) {d : Addr} (hd : A d = none) : x ⟨cls, d⟩ (updA A d (.xd fs)) := h d _ (.new hd) updA_same
/-! the store: all else is kept -/
structure Go (l : Addr) (A A' : Ah) (m : Nat) : Prop where
  kp : Kp l A A'
  st : St A' l m
theorem Go.start {l : Addr} {A : Ah} {n : Nat} (h : St A l n) : Go l A A n := ⟨.rfl, h⟩
theorem Go.step {l : Addr} {A B C : Ah} {m m' : Nat} (g : Go l A B m) (k : Kp l B C) (s : St C l m') : Go l A C m' := ⟨g.kp.trans k, s⟩
theorem Go.trans {l : Addr} {A B C : Ah} {m m' : Nat} (g : Go l A B m) (h : Go l B C m') : Go l A C m' := ⟨g.kp.trans h.kp, h.st⟩
theorem Go.mono {l : Addr} {A B : Ah} {m m' : Nat} (g : Go l A B m) (h : m ≤ m') : Go l A B m' := ⟨g.kp, g.st.mono h⟩
theorem Go.ext {l : Addr} {A B C : Ah} {m : Nat} (g : Go l A B m) (h : Ext B C) : Go l A C m := ⟨g.kp.trans h.kp, g.st.ext h⟩
/-- what was made since A is forgotten -/
theorem Go.less {l : Addr} {A B C : Ah} {m : Nat} (g : Go l A C m) (h : Ext B C) (k : Kp l A B) (s : B l = C l) : Go l A B m := ⟨k, by
  obtain ⟨c0, c1, c2, c3, c4, c5, r, e, i⟩ := g.st
  exact ⟨c0, c1, c2, c3, c4, c5, r, by rw [s]; exact e, i⟩⟩
end GA
namespace GA
open PySem PySem.Spec PyProof.Rows L2 GV TL
/-! ### x = [..], the list locked -/
theorem sim_frzAsg {K : Fg} {W : WX} {te : TE} {ae : AE} {i : Nat} (h : SimE K W te ae) : SimS K W (tFrzV (tAsg te (gName i))) (aAsg (aFrz ae) (agName i)) := fun D AD σ H Γ A R S hh k =>
  h σ H Γ A _ _ _ R S hh (fun H1 v d A1 n1 R1 v1 h1 => by
    cases d with
    | ref a =>
      obtain ⟨xs, e, h1⟩ := onL_of h1
      obtain ⟨ws, e1, r1⟩ := R1.lst e
      cases v1
      have n2 : ∀ od, Nxt K H1 (upd H1 a (.frz od (.lst ws))) := fun od => .set e1 noTup_lst
      exact .inr ⟨a, ws, e1, fun od => k.nx _ _ _ _ (n1.trans (n2 od)) (R1.frz e1 noTup_lst) ((S.mono (n1.trans (n2 od))).set (.fl ⟨od, upd_same⟩ (r1.mono (n2 od)))) h1⟩
    | _ => exact .inl (k.nx _ _ _ _ n1 R1 ((S.mono n1).set v1) h1)) fun H' e A' n R' h' => k.ex e σ H' Γ A' n R' (S.mono n) h'
section
variable {X : Cx} {W : WX} {elt tg iter : Expr} {ifs : List Expr} {scope : Scope} {own : List (Str × Nat)} {pos p : Pos} {wi : TI} {ai : AI} {ag : AG} {at_ : AT} {ae : AE}
theorem gs_setLcF {i : Nat} {y : Str} {py spos : Pos} {g : Shared → Hp → Addr → List (Str × Addr) → List Addr → TG} {tt : Shared → Hp → Addr → List (Str × Addr) → List Addr → TT} {te : Shared → Hp → Addr → List (Str × Addr) → List Addr → TE} (hc : X.calm = true) (hN : X.N.Nodup) (hi : PIA X W tg iter wi ai) (ok : BlkOk X.N X.env.scope scope own)
    (hg : ∀ (s : Shared) (H : Hp) (C : Addr) (cl : List (Str × Addr)) (fp : List Addr), PGA (X.blk s H scope (compEnvC scope cl C X.env) fp) tg (g s H C cl fp) ag)
    (ht : ∀ (s : Shared) (H : Hp) (C : Addr) (cl : List (Str × Addr)) (fp : List Addr), PTsA (X.blk s H scope (compEnvC scope cl C X.env) fp) WF ifs (tt s H C cl fp) at_)
    (he : ∀ (s : Shared) (H : Hp) (C : Addr) (cl : List (Str × Addr)) (fp : List Addr), PEA (X.blk s H scope (compEnvC scope cl C X.env) fp) WF elt (te s H C cl fp) ae)
    (tw : TgW (own.map (·.2)) (g X.s_0 X.H_0 0 [] [])) (hy : X.N[i]? = some y := by rfl) (hyl : X.env.scope.names.lookup y = some .local := by rfl)
    (eg : ∀ (s : Shared) (H : Hp) (C : Addr) (cl : List (Str × Addr)) (fp : List Addr), g s H C cl fp = g X.s_0 X.H_0 0 [] [] := by intros; rfl)
    (et : ∀ (s : Shared) (H : Hp) (C : Addr) (cl : List (Str × Addr)) (fp : List Addr), tt s H C cl fp = tt X.s_0 X.H_0 0 [] [] := by intros; rfl)
    (ee : ∀ (s : Shared) (H : Hp) (C : Addr) (cl : List (Str × Addr)) (fp : List Addr), te s H C cl fp = te X.s_0 X.H_0 0 [] [] := by intros; rfl) (hs : ∀ x, foldedSetIterable iter X.env x = pure x := by intro _; rfl)
    (hsw : swapsWith (.ListComp elt [⟨tg, iter, ifs, 0⟩] scope pos) (some (.Name y py)) spos.line X.env = pure true := by rfl) :
    PSA X W (.Assign [.Name y py] (.ListComp elt [⟨tg, iter, ifs, 0⟩] scope pos) spos) (tFrzV (tAsg (tLc wi (g X.s_0 X.H_0 0 [] []) (tt X.s_0 X.H_0 0 [] []) (te X.s_0 X.H_0 0 [] []) (own.map (·.2))) (gName i))) (aAsg (aFrz (aLc ai ag at_ ae (own.map (·.2)))) (agName i)) where
  pe := ps_frzV <| ps_setLc hc hN hy hyl hsw hi.pe ok (fun s H C cl fp => eg s H C cl fp ▸ (hg s H C cl fp).pe) (fun s H C cl fp => et s H C cl fp ▸ (ht s H C cl fp).pe) (fun s H C cl fp => ee s H C cl fp ▸ (he s H C cl fp).pe) hs
  sim := sim_frzAsg (sim_lc hi.sim (hg X.s_0 X.H_0 0 [] []).sim tw (ht X.s_0 X.H_0 0 [] []).sim (he X.s_0 X.H_0 0 [] []).sim)
end
section
variable {X : Cx} {W : WX} {elt tg iter tg1 iter1 : Expr} {ifs ifs1 : List Expr} {scope : Scope} {own : List (Str × Nat)} {vs1 : List Nat} {pos : Pos} {wi : TI} {ai ai1 : AI} {ag ag1 : AG} {at_ at1 : AT} {ae : AE}
theorem gs_setLc2F {i : Nat} {y : Str} {py spos : Pos} {wi1 : Shared → Hp → Addr → List (Str × Addr) → List Addr → TI} {g g1 : Shared → Hp → Addr → List (Str × Addr) → List Addr → TG} {tt tt1 : Shared → Hp → Addr → List (Str × Addr) → List Addr → TT} {te : Shared → Hp → Addr → List (Str × Addr) → List Addr → TE} (hc : X.calm = true) (hN : X.N.Nodup) (hi : PIA X W tg iter wi ai) (ok : BlkOk X.N X.env.scope scope own) (hv : ∀ i ∈ vs1, i ∈ own.map (·.2))
    (hg : ∀ (s : Shared) (H : Hp) (C : Addr) (cl : List (Str × Addr)) (fp : List Addr), PGA (X.blk s H scope (compEnvC scope cl C X.env) fp) tg (g s H C cl fp) ag)
    (ht : ∀ (s : Shared) (H : Hp) (C : Addr) (cl : List (Str × Addr)) (fp : List Addr), PTsA (X.blk s H scope (compEnvC scope cl C X.env) fp) WF ifs (tt s H C cl fp) at_)
    (hi1 : ∀ (s : Shared) (H : Hp) (C : Addr) (cl : List (Str × Addr)) (fp : List Addr), PIA (X.blk s H scope (compEnvC scope cl C X.env) fp) WF tg1 iter1 (wi1 s H C cl fp) ai1)
    (hg1 : ∀ (s : Shared) (H : Hp) (C : Addr) (cl : List (Str × Addr)) (fp : List Addr), PGA (X.blk s H scope (compEnvC scope cl C X.env) fp) tg1 (g1 s H C cl fp) ag1)
    (ht1 : ∀ (s : Shared) (H : Hp) (C : Addr) (cl : List (Str × Addr)) (fp : List Addr), PTsA (X.blk s H scope (compEnvC scope cl C X.env) fp) WF ifs1 (tt1 s H C cl fp) at1)
    (he : ∀ (s : Shared) (H : Hp) (C : Addr) (cl : List (Str × Addr)) (fp : List Addr), PEA (X.blk s H scope (compEnvC scope cl C X.env) fp) WF elt (te s H C cl fp) ae)
    (tw : TgW (own.map (·.2)) (g X.s_0 X.H_0 0 [] [])) (tw1 : TgW vs1 (g1 X.s_0 X.H_0 0 [] [])) (hy : X.N[i]? = some y := by rfl) (hyl : X.env.scope.names.lookup y = some .local := by rfl)
    (ei : ∀ (s : Shared) (H : Hp) (C : Addr) (cl : List (Str × Addr)) (fp : List Addr), wi1 s H C cl fp = wi1 X.s_0 X.H_0 0 [] [] := by intros; rfl)
    (eg : ∀ (s : Shared) (H : Hp) (C : Addr) (cl : List (Str × Addr)) (fp : List Addr), g s H C cl fp = g X.s_0 X.H_0 0 [] [] := by intros; rfl)
    (et : ∀ (s : Shared) (H : Hp) (C : Addr) (cl : List (Str × Addr)) (fp : List Addr), tt s H C cl fp = tt X.s_0 X.H_0 0 [] [] := by intros; rfl)
    (eg1 : ∀ (s : Shared) (H : Hp) (C : Addr) (cl : List (Str × Addr)) (fp : List Addr), g1 s H C cl fp = g1 X.s_0 X.H_0 0 [] [] := by intros; rfl)
    (et1 : ∀ (s : Shared) (H : Hp) (C : Addr) (cl : List (Str × Addr)) (fp : List Addr), tt1 s H C cl fp = tt1 X.s_0 X.H_0 0 [] [] := by intros; rfl)
    (ee : ∀ (s : Shared) (H : Hp) (C : Addr) (cl : List (Str × Addr)) (fp : List Addr), te s H C cl fp = te X.s_0 X.H_0 0 [] [] := by intros; rfl) (hs : ∀ x, foldedSetIterable iter X.env x = pure x := by intro _; rfl) (hs1 : ∀ env x, foldedSetIterable iter1 env x = pure x := by intro _ _; rfl)
    (hsw : swapsWith (.ListComp elt [⟨tg, iter, ifs, 0⟩, ⟨tg1, iter1, ifs1, 0⟩] scope pos) (some (.Name y py)) spos.line X.env = pure true := by rfl) :
    PSA X W (.Assign [.Name y py] (.ListComp elt [⟨tg, iter, ifs, 0⟩, ⟨tg1, iter1, ifs1, 0⟩] scope pos) spos) (tFrzV (tAsg (tLc2 wi (g X.s_0 X.H_0 0 [] []) (tt X.s_0 X.H_0 0 [] []) (wi1 X.s_0 X.H_0 0 [] []) (g1 X.s_0 X.H_0 0 [] []) (tt1 X.s_0 X.H_0 0 [] []) (te X.s_0 X.H_0 0 [] []) (own.map (·.2)) vs1) (gName i))) (aAsg (aFrz (aLc2 ai ag at_ ai1 ag1 at1 ae (own.map (·.2)) vs1)) (agName i)) where
  pe := ps_frzV <| ps_setLc2 hc hN hy hyl hsw hi.pe ok hv (fun s H C cl fp => eg s H C cl fp ▸ (hg s H C cl fp).pe) (fun s H C cl fp => et s H C cl fp ▸ (ht s H C cl fp).pe) (fun s H C cl fp => ei s H C cl fp ▸ (hi1 s H C cl fp).pe) (fun s H C cl fp => eg1 s H C cl fp ▸ (hg1 s H C cl fp).pe) (fun s H C cl fp => et1 s H C cl fp ▸ (ht1 s H C cl fp).pe) (fun s H C cl fp => ee s H C cl fp ▸ (he s H C cl fp).pe) hs hs1
  sim := sim_frzAsg (sim_lc2 hi.sim (hg X.s_0 X.H_0 0 [] []).sim tw (ht X.s_0 X.H_0 0 [] []).sim (hi1 X.s_0 X.H_0 0 [] []).sim (hg1 X.s_0 X.H_0 0 [] []).sim tw1 (ht1 X.s_0 X.H_0 0 [] []).sim (he X.s_0 X.H_0 0 [] []).sim)
end
end GA

namespace GA
open PySem PySem.Spec PyProof.Rows L2 GV TL HT
/-! ### t[::-1] of a tuple -/
theorem adjust_rev (n : Nat) : Builtin.Slice.sliceAdjust none none (-1) (n : Int) = ((n : Int) - 1, -1) := by
  unfold Builtin.Slice.sliceAdjust
  have h1 : ((-1 : Int) < 0) := by omega
  simp only [h1, if_true]
theorem places_rev (n : Nat) : Builtin.Slice.slicePlaces ((n : Int) - 1) (-1) (-1) = n := by
  unfold Builtin.Slice.slicePlaces
  have h1 : ¬ (-1 : Int) > 0 := by omega
  simp only [h1, if_false]
  rw [show (-(-1 : Int)) = 1 from rfl, Int.ediv_one]
  split <;> omega
theorem filterMap_some {α β : Type} {f : α → Option β} {g : α → β} : ∀ {l : List α}, (∀ m ∈ l, f m = some (g m)) → l.filterMap f = l.map g
  | [], _ => rfl
  | a :: r, h => by
    rw [List.filterMap_cons, h a List.mem_cons_self, List.map_cons, filterMap_some fun m hm => h m (List.mem_cons_of_mem _ hm)]
theorem pick_rev (xs : Array Value) : ((List.range xs.size).filterMap fun (m : Nat) => xs[((xs.size : Int) - 1 + (m : Int) * -1).toNat]?).toArray = xs.toList.reverse.toArray := by
  congr 1
  apply List.ext_getElem?
  intro i
  have e : (List.range xs.size).filterMap (fun (m : Nat) => xs[((xs.size : Int) - 1 + (m : Int) * -1).toNat]?) = (List.range xs.size).map fun m => xs.toList.getD (xs.size - 1 - m) .none := by
    refine filterMap_some fun m hm => ?_
    have hm := List.mem_range.mp hm
    have : ((xs.size : Int) - 1 + (m : Int) * -1).toNat = xs.size - 1 - m := by omega
    rw [this]
    rw [List.getD_eq_getElem?_getD, Array.getElem?_toList, Array.getElem?_eq_getElem (by omega)]
    rfl
  rw [e]
  by_cases h : i < xs.size
  · rw [List.getElem?_map, List.getElem?_range h, List.getElem?_reverse (by simpa using h), Array.length_toList]
    rw [Option.map_some, List.getD_eq_getElem?_getD, List.getElem?_eq_getElem (by simp; omega)]
    rfl
  · rw [List.getElem?_eq_none (by simpa using h), List.getElem?_eq_none (by simpa using h)]
section
variable {prog : Program} {w : World} {A : Around} {E : Value → Shared → Prop} {s : Shared}
theorem sliceApplied_rev {sl : Addr} {vs : Value} {n : Nat} {Q : Int × Int × Nat → Shared → Prop} (hs : s.heap.IsSliceOf sl .none .none vs) (ps : IsPart vs (some (-1)))
    (h : Q ((n : Int) - 1, -1, n) s) : wpAny (model prog w) A (Builtin.Slice.sliceApplied (.ref sl) (pure (n : Int))) Q E s := by
  obtain ⟨os, hos, hcs, hds⟩ := id hs
  unfold Builtin.Slice.sliceApplied Builtin.Slice.sliceFields
  refine wpAny_bind (wpAny_bind (wpAny_field hos hds (x := .none) rfl (wpAny_bind (wpAny_field hos hds (x := .none) rfl (wpAny_bind (wpAny_field hos hds (x := vs) rfl (wpAny_pure ?_)))))))
  refine wpAny_bind (slicePart_ ps ?_)
  show wpAny _ _ (if ((-1 : Int) == 0) = true then _ else _) _ _ s
  rw [if_neg (by decide)]
  refine wpAny_bind (slicePart_none (wpAny_bind (slicePart_none (wpAny_bind (wpAny_pure ?_)))))
  show wpAny _ _ (match Builtin.Slice.sliceAdjust none none (-1) (n : Int) with | (lo, hi) => pure (lo, (-1 : Int), Builtin.Slice.slicePlaces lo hi (-1))) _ _ s
  rw [adjust_rev n]
  show wpAny _ _ (pure ((n : Int) - 1, (-1 : Int), Builtin.Slice.slicePlaces ((n : Int) - 1) (-1) (-1))) _ _ s
  rw [places_rev]
  exact wpAny_pure h
theorem getItem_tuple_rev {t sl : Addr} {items : Array Value} {vs : Value} {Q : Value → Shared → Prop} (ht : IsTup s.heap t items) (hs : s.heap.IsSliceOf sl .none .none vs) (ps : IsPart vs (some (-1)))
    (h : Q (.ref s.heap.objs.size) { s with heap := s.heap.push { cls := .type "tuple", data := .seq items.toList.reverse.toArray } })
    (hsz : items.size ≤ sizeLine) : wpAny (model prog w) A (getItem (.ref t) (.ref sl)) Q E s := by
  have htake : sizeOk (.seq items.toList.reverse.toArray) := by
    show items.toList.reverse.toArray.size ≤ sizeLine
    rw [List.size_toArray, List.length_reverse, Array.length_toList]
    exact hsz
  obtain ⟨os, hos, hcs, hds⟩ := id hs
  have hTs : s.TypeIs (.ref sl) "slice" := ⟨os, hos, hcs⟩
  unfold getItem
  try with_reducible refine wpAny_holding ?_
  first | refine wpAny_bind (wpAny_pure ?_) | skip
  refine wpAny_bind (wpAny_sequenceKey ht.typeIs (by decide) ?_)
  refine wpAny_bind (wpAny_callSpecial?_slot (name := Str.ofString "__getitem__") ht.typeIs PyProof.Rows.slot_tuple_getitem
    (wpAny_call_entry PyProof.Rows.slot_tuple_getitem ht.typeIs entry_tuple_getitem ?_ (args_tuple_getitem _ _)))
  show wpAny _ _ (Builtin.Tuple.tupleItemsOf (.ref t) >>= _) _ _ s
  refine wpAny_bind (tupleItemsOf_ ht ?_)
  refine wpAny_bind (wpAny_typeOf hTs ?_)
  rw [if_pos (by decide)]
  refine wpAny_bind (sliceApplied_rev hs ps ?_)
  have hno : ¬ ((((items.size : Int) - 1) == 0 && (-1 : Int) == 1 && items.size == items.size) = true) := by
    intro q
    rw [Bool.and_eq_true, Bool.and_eq_true] at q
    exact absurd q.1.2 (by decide)
  show wpAny _ _ (if (((items.size : Int) - 1) == 0 && (-1 : Int) == 1 && items.size == items.size) = true then _ else _) _ _ s
  rw [if_neg hno, pick_rev]
  first
    | exact wpAny_bind (m := Builtin.Tuple.tupleExact _) (wpAny_newObj_type (wpAny_pure ⟨_, rfl, wpAny_pure h⟩) htake)
    | exact wpAny_bind (m := Builtin.Tuple.tupleExact _) (wpAny_newObj_type (wpAny_bind (wpAny_pure (wpAny_pure ⟨_, rfl, wpAny_pure h⟩))) htake)
    | exact wpAny_bind (wpAny_bind (m := Builtin.Tuple.tupleExact _) (wpAny_newObj_type (wpAny_pure (wpAny_pure ⟨_, rfl, wpAny_pure h⟩)) htake))
    | exact wpAny_bind (wpAny_bind (m := Builtin.Tuple.tupleExact _) (wpAny_newObj_type (wpAny_pure ⟨_, rfl, wpAny_pure h⟩) htake))
end
def tRevU (K : PySem.W.Frag) (te : TE) : TE := fun σ H Q => te σ H fun x H1 => ∃ a xs, x = .ref a ∧ ((SqL K H1 a xs ∧ ∀ p, H1 p = none → Q (.ref p) (upd H1 p (.lst xs.reverse))) ∨ (SqT K H1 a xs ∧ ∀ p, H1 p = none → Q (.ref p) (upd H1 p (.tup xs.reverse))))
theorem pe_revU {X : Cx} {e : Expr} {te : TE} {k : Nat} {p1 p2 p3 pos : Pos} (he : PE X e te) : PE X (.Subscript e (.Slice none none (some (.UnaryOp .USub (.Constant (.int 1) k p1) p2)) p3) pos) (tRevU X.K te) := by
  refine ⟨fun pins s σ H Q I h => ?_⟩
  refine Subscript_ (thn (he.run pins s σ H _ I h) fun v s1 ⟨x, H1, I1, r1, q1⟩ => ?_)
  obtain ⟨a, xs, ex, q1⟩ := q1
  subst ex
  cases r1
  have hst : PO X (some (.UnaryOp .USub (.Constant (.int 1) k p1) p2)) (tPart (tUn (rU fun i => .int (-i)) (tC (.int 1)))) := po_some (pe_un un_neg pe_int)
  refine wpAny_Slice (thn (po_none.run pins s1 σ H1 (fun o H2 => o = none ∧ H2 = H1) I1 ⟨rfl, rfl⟩) fun vl s2 ⟨l, H2, I2, pl, el, e2⟩ => ?_)
  subst el e2
  refine thn (po_none.run pins s2 σ H2 (fun o H3 => o = none ∧ H3 = H2) I2 ⟨rfl, rfl⟩) fun vu s3 ⟨u, H3, I3, pu, eu, e3⟩ => ?_
  subst eu e3
  refine thn (hst.run pins s3 σ H3 (fun o H4 => o = some (-1) ∧ H4 = H3) I3 ⟨1, rfl, -1, rfl, rfl, rfl⟩) fun vs s4 ⟨o, H4, I4, ps, eo, e4⟩ => ?_
  subst eo e4
  have I5 : Inv X pins σ H4 { s4 with heap := s4.heap.push { cls := .type "slice", data := .fields #[vl, vu, vs] } } := I4.kept (t' := s4.toks) fun b ob q => Heap.get?_push_of_some _ q
  show wpAny (model X.prog X.w) X.A (subscriptTail e (.Slice none none (some (.UnaryOp .USub (.Constant (.int 1) k p1) p2)) p3) (.ref a) (.ref s4.heap.objs.size)) (EP X pins σ Q) X.xe { s4 with heap := s4.heap.push { cls := .type "slice", data := .fields #[vl, vu, vs] } }
  rcases q1 with ⟨hx, q⟩ | ⟨hx, q⟩
  · obtain ⟨its, r, ht, hz⟩ := I5.list hx
    have hlen := r.length
    refine tail_any (ops := [.ref a, .ref s4.heap.objs.size]) ht.isList.typeIs (PySem.slot_list_getitem.lookup) ?_ (by with_unfolding_all rfl)
    refine wpAny_getItem_list_slice ht.isList (Heap.IsSliceOf.new _ vl vu vs) pl pu ps (by decide) ?_ (by rw [List.size_toArray]; omega)
    rw [PySem.W.krv_pick]
    refine ⟨.ref _, _, I5.laid (t' := s4.toks) (o := .lst xs.reverse) (fun b ob q => Heap.get?_push_of_some _ q) (Nat.le_refl _) ?_, rfl, q _ (I5.hok.fresh (Nat.le_refl _))⟩
    exact ⟨by rw [List.length_reverse]; exact hz, _, 0, r.reverse, Heap.get?_push_size _ rfl⟩
  · obtain ⟨its, r, ht, hz⟩ := I5.tuple hx
    have hlen := r.length
    refine tail_any (ops := [.ref a, .ref s4.heap.objs.size]) (show IsTup _ a its.toArray from ht).typeIs (PyProof.Rows.slot_tuple_getitem.lookup) ?_ (by with_unfolding_all rfl)
    cases pl
    cases pu
    refine getItem_tuple_rev ht (Heap.IsSliceOf.new _ .none .none vs) ps ?_ (by rw [List.size_toArray]; omega)
    refine ⟨.ref _, _, I5.laid (t' := s4.toks) (o := .tup xs.reverse) (fun b ob q => Heap.get?_push_of_some _ q) (Nat.le_refl _) ?_, rfl, q _ (I5.hok.fresh (Nat.le_refl _))⟩
    exact ⟨by rw [List.length_reverse]; exact hz, _, r.reverse, ⟨_, Heap.get?_push_size _ rfl, rfl, _, rfl⟩⟩
def aRevU (a : AE) : AE := fun Γ A q x => a Γ A (fun d A1 => match d with
  | .ref a => onL A1 a fun xs => newL A1 xs.reverse q
  | .fl xs => newL A1 xs.reverse q
  | .tup xs => q (.tup xs.reverse) A1
  | _ => False) x
section
variable {X : Cx} {W : WX} {e : Expr} {te : TE} {ae : AE} {k : Nat} {p1 p2 p3 pos : Pos}
theorem ga_revU (h : PEA X W e te ae) : PEA X W (.Subscript e (.Slice none none (some (.UnaryOp .USub (.Constant (.int 1) k p1) p2)) p3) pos) (tRevU X.K te) (aRevU ae) where
  pe := pe_revU h.pe
  sim := fun σ H Γ A q x Q R S hh k kx => h.sim σ H Γ A _ x _ R S hh (fun H1 v d A1 n1 R1 v1 h1 => by
    cases d with
    | ref a =>
      obtain ⟨xs, e, h1⟩ := h1
      obtain ⟨ws, e1, r1⟩ := R1.lst e
      cases v1
      exact ⟨a, ws, rfl, .inl ⟨SqL.of e1, fun p hp => k _ _ _ _ (n1.trans (.new hp)) (R1.new hp (.lst r1.rev)) (.ref p) (h1 p (R1.none hp))⟩⟩
    | fl xs =>
      obtain ⟨a, ws, rfl, e1, r1, _⟩ := v1.inv_fl
      exact ⟨a, ws, rfl, .inl ⟨Rd.sq e1, fun p hp => k _ _ _ _ (n1.trans (.new hp)) (R1.new hp (.lst r1.rev)) (.ref p) (h1 p (R1.none hp))⟩⟩
    | tup xs =>
      obtain ⟨a, ws, rfl, e1, r1⟩ := v1.inv_tup
      exact ⟨a, ws, rfl, .inr ⟨e1, fun p hp => k _ _ _ _ (n1.trans (.new hp)) (R1.ext hp) (.tup (SqT.of upd_same) (r1.rev.mono (.new hp))) h1⟩⟩
    | _ => exact h1.elim) kx
end
/-! ### xs.extend(t) of a tuple -/
theorem extend_tup0 (l : Addr) (items : Array Value) (n : Nat) (b : Addr) (items2 : Array Value) (n2 : Nat) (dct : Option Addr) (sl : Array (Option Value)) (hs0 : ¬(!items.isEmpty && Builtin.List.listTooLong (items.size + items2.size)) = true) (hs1 : items.size ≤ sizeLine) (hs2 : items.size + items2.size ≤ sizeLine + 1) :
    Meets (Builtin.«list.extend» ⟨[.ref l, .ref b], []⟩) (fun _ R s => s.heap.get? l = some { cls := .type "list", dict := none, data := .seq items n, slots := #[] } ∧ s.heap.get? b = some { cls := .type "tuple", dict := dct, data := .seq items2 n2, slots := sl } ∧ R (.ok (.ret Value.none)) { s with heap := s.heap.update l (Obj.mapSeq fun x => x ++ items2), toks := s.toks }) :=
  .of_wp fun prog w A R s h => by
    obtain ⟨hp, g, d, tk, os⟩ := s; obtain ⟨hl, hb, h⟩ := h; have f1 := AutoSeq1.idx_int; have f2 := AutoSeq1.sub_tuple_tuple; have f3 := AutoSeq1.sub_list_list; have f4 := AutoSeq1.sub_tuple_list; have f5 := AutoSeq1.sub_list_tuple;
    have hz' : (items ++ items2).size ≤ sizeLine + 1 := by rw [Array.size_append]; exact hs2
    wp_walk using (wpAny_updateSeq hl rfl (hz := hs1) (_hz' := hz')), AutoSeq1.wpAny_loadPart' hl, AutoSeq1.wpAny_loadPart' hb; exact ⟨_, rfl, h⟩
def rExtendT (K : Fg) : V → List V → Hp → VK → Prop := fun x vs H Q => ∃ l b xs zs, x = .ref l ∧ vs = [.ref b] ∧ H l = some (.lst xs) ∧ SqT K H b zs ∧ xs.length + zs.length ≤ sizeLine ∧ Q .non (upd H l (.lst (xs ++ zs)))
theorem mt_extendT {X : Cx} : MtM X "list.extend" (rExtendT X.K) := by
  intro pins s σ H x vs v us Q I rx rv h
  obtain ⟨l, b, xs, zs, rfl, rfl, hH, hB, hz, q⟩ := h
  cases rx
  obtain ⟨u, rfl, ru⟩ := rv.one
  cases ru
  obtain ⟨z, its, n, r, hl, e⟩ := I.lstM hH
  obtain ⟨its2, r2, p2, z2⟩ := I.tuple hB
  obtain ⟨⟨cls, dct, dat, sl⟩, e2, c2, n2, d2⟩ := p2
  dsimp only at c2 d2
  subst c2 d2
  have hl2 := r2.length
  have hsz : its.toArray.size + its2.toArray.size ≤ sizeLine := by rw [List.size_toArray, List.size_toArray]; omega
  have hlong : ¬ (!its.toArray.isEmpty && Builtin.List.listTooLong (its.toArray.size + its2.toArray.size)) = true := by
    rw [notLongL hsz, Bool.and_false]
    exact Bool.false_ne_true
  refine call_meets F.slot_list_extend ⟨_, e, rfl⟩ F.entry_list_extend (F.args_list_extend_2 _ _)
    (extend_tup0 l its.toArray n b its2.toArray n2 dct sl hlong (by rw [List.size_toArray]; omega) (by omega)) ⟨e, e2, ?_⟩
  refine ⟨.non, _, I.lset (its' := its ++ its2) hH e (by simp) (r.append r2) ?_, rfl, q⟩
  rw [List.length_append]
  omega
def aExtendU : A1m := fun d ds A q => match d, ds with
  | .ref a, [.ref b] => onL A a fun xs => onL A b fun ys => xs.length + ys.length ≤ big ∧ q .non (updA A a (.lst (xs ++ ys)))
  | .ref a, [.fl ys] => onL A a fun xs => xs.length + ys.length ≤ big ∧ q .non (updA A a (.lst (xs ++ ys)))
  | .ref a, [.tup ys] => onL A a fun xs => xs.length + ys.length ≤ big ∧ q .non (updA A a (.lst (xs ++ ys)))
  | _, _ => False
theorem sim_extendU {K : Fg} : SimM K "list" (fun x vs H Q => rExtendF x vs H Q ∨ rExtendT K x vs H Q) aExtendU := by
  intro H A v d vs ds q Q R hv hvs h k
  unfold aExtendU at h
  split at h
  · exact .inl (sim_extend H A v _ vs _ q Q R hv hvs h k)
  · exact .inl (sim_extend H A v _ vs _ q Q R hv hvs h k)
  · obtain ⟨w, rfl, hw⟩ := hvs.one
    obtain ⟨xs, ha, h⟩ := onL_of h
    obtain ⟨ws, e1, r1⟩ := R.lst ha
    obtain ⟨b, us, rfl, e2, r2⟩ := hw.inv_tup
    cases hv
    exact .inr ⟨_, _, ws, us, rfl, rfl, e1, e2, by rw [big_eq, r1.length, r2.length]; exact h.1, k _ _ _ _ (.set e1 noTup_lst) (R.set e1 noTup_lst (.lst (r1.append r2))) .non h.2⟩
  · exact h.elim
theorem ml_extendU {X : Cx} : MthL X "extend" "list.extend" (fun x vs H Q => rExtendF x vs H Q ∨ rExtendT X.K x vs H Q) aExtendU := ⟨PySem.F.slot_list_extend, PySem.F.type_list_extend, mtM_or mt_extendF mt_extendT, sim_extendU⟩
end GA

namespace GA
open PySem PySem.Spec PyProof.Rows L2 GV TL
/-! ### sorted of a tuple of less than 64 texts -/
section
variable {prog : Program} {w : World} {Ar : Around} {E : Value → Shared → Prop} {s : Shared}
def grown (h : Heap) (vs : List Value) : Heap := (h.push (seqObj "list" #[] 0)).update h.objs.size (Obj.mapSeq (· ++ vs.toArray))
theorem grown_size (h : Heap) (vs : List Value) : (grown h vs).objs.size = h.objs.size + 1 := by unfold grown; rw [Heap.size_update, size_push']
theorem collect_t {t : Addr} {vs : List Value} {Q : List Value → Shared → Prop} (ht : IsTup s.heap t vs.toArray) (hz : vs.length ≤ sizeLine) (h : Q vs { s with heap := grown s.heap vs }) : wpAny (model prog w) Ar (collect (.ref t)) Q E s := by
  obtain ⟨o, ho, hc, n, hd⟩ := id ht; unfold collect
  have ho' : (s.heap.push (seqObj "list" #[] 0)).get? t = some o := Heap.get?_push_of_some _ ho; have hT : (Value.type "tuple" == Value.type "tuple") = true := by rfl
  refine wpAny_bind (wpAny_runValue (codeAny_builtin entry_proto_collect' ?_)); show wpAny _ _ (do again (.builtin "list.__iadd__" ⟨[← newList [], .ref t], []⟩)) _ _ s
  refine wpAny_bind (wpAny_newList (wpAny_pure ⟨Code.quiet_builtin _ (by decide +kernel), codeAny_builtin entry_list_iadd' ?_⟩)); unfold Builtin.«list.__iadd__»
  show wpAny _ _ (Builtin.List.listExtendWith (.ref s.heap.objs.size) (.ref t) (.ref s.heap.objs.size)) _ _ { s with heap := s.heap.push (seqObj "list" #[] 0) }
  unfold Builtin.List.listExtendWith; refine wpAny_bind (wpAny_typeOf (T := "tuple") ⟨o, ho', hc⟩ ?_); rw [if_pos (by rw [hT]; simp)]; refine wpAny_bind (listItems_at ho' hd ?_)
  refine wpAny_bind (listItems_at (xs := #[]) (n := 0) (Heap.get?_push_size _ rfl) rfl ?_); rw [if_neg (by simp)]
  refine wpAny_bind (listUpdate_at (xs := #[]) (n := 0) (Heap.get?_push_size _ rfl) rfl ?_ (Nat.zero_le _) (by show (#[] ++ vs.toArray).size ≤ sizeLine + 1; simp only [Array.size_append, List.size_toArray, List.length_nil]; omega)); refine wpAny_pure ?_
  show wpAny (model prog w) Ar (do let o ← load s.heap.objs.size; match o.data with | .seq xs _ => pure xs.toList | _ => unsupported "internal:collect") Q E { s with heap := grown s.heap vs }
  refine wpAny_bind (wpAny_load (get?_update_seq (Heap.get?_push_size _ rfl) _) ?_); show wpAny _ _ (pure ((#[] : Array Value) ++ vs.toArray).toList) Q E _
  have e : ((#[] : Array Value) ++ vs.toArray).toList = vs := by simp
  rw [e]; exact wpAny_pure h
theorem sorted_strsT {t : Addr} {vs : List Value} {ss : List Str} {Q : Value → Shared → Prop} (ht : IsTup s.heap t vs.toArray) (hS : StrsAre vs ss) (h64 : vs.length < 64)
    (h : ∀ (out : Array Value) (zs : List Str), StrsAre out.toList zs → zs.Perm ss → sortedS zs = true → Q (.ref (s.heap.objs.size + 1)) { s with heap := sortedAll s.heap vs out }) : wpAny (model prog w) Ar (call (.builtin "sorted") [.ref t]) Q E s := by
  refine Calls.call_function_entry kind_sorted plain_sorted entry_sorted (args_sorted1 _) ?_; unfold Builtin.«sorted»
  refine wpAny_bind (m := checkCount "sorted" 1 1 _) (wpAny_pure ?_); refine wpAny_bind (collect_t ht (by rw [sizeLine_eq]; omega) ?_); refine wpAny_bind (wpAny_newList ?_)
  have hoL : ((grown s.heap vs).push (seqObj "list" vs.toArray 0)).get? (s.heap.objs.size + 1) = some (seqObj "list" vs.toArray 0) := by rw [← grown_size s.heap vs]; exact Heap.get?_push_size _ rfl
  show wpAny _ _ _ _ _ { s with heap := (grown s.heap vs).push (seqObj "list" vs.toArray 0) }
  rw [show (Shared.heap { s with heap := grown s.heap vs }).objs.size = s.heap.objs.size + 1 from grown_size s.heap vs]
  refine wpAny_bind (wpAny_holding (wpAny_call_entry slot_list_sort ⟨_, hoL, rfl⟩ entry_list_sort (list_sort_treeK strKind_oneLt hoL hS.keysOf (fun v₁ v₂ rest e => keyKind_strs (by rw [← e]; exact hS)) h64 fun st' a1 a2 => ⟨_, rfl, ?_⟩) (args_list_sort _)))
  obtain ⟨zs, h1, h2, h3⟩ := sorted_out_str hS a1 a2
  exact wpAny_pure ⟨_, rfl, h _ zs h1 h2 h3⟩
end
def rSortedST (K : Fg) : List V → Hp → VK → Prop := fun vs H Q => ∃ (a : Addr) (xs : List Str), vs = [V.ref a] ∧ SqT K H a (xs.map V.str) ∧ xs.length < 64 ∧ ∀ (ys : List Str) (p : Addr), ys.Perm xs → sortedS ys = true → H p = none → Q (.ref p) (upd H p (.lst (ys.map V.str)))
theorem cr_sortedST {X : Cx} : CallR X (.builtin "sorted") (rSortedST X.K) := by
  intro pins s σ H vs us Q I r h; obtain ⟨a, xs, rfl, hs, h64, q⟩ := h
  obtain ⟨its, rv, hl, _⟩ := I.tuple hs; rw [Vals.ref1 r]
  have hl0 := rv.length; rw [List.length_map] at hl0
  refine sorted_strsT hl rv.strs (by rw [← hl0]; exact h64) fun out ys h1 h2 h3 => ?_; obtain ⟨ep, he'⟩ := sortedAll_at s.heap its out
  have hlen : (ys.map V.str).length ≤ sizeLine := by rw [List.length_map, h2.length_eq]; exact small64 h64
  exact ⟨.ref _, upd H (s.heap.objs.size + 1) (.lst (ys.map V.str)), I.laid (t' := s.toks) (fun _ _ => sortedAll_old) (Nat.le_succ _) ⟨hlen, out.toList, ep, vals_of_strs h1, he'⟩, rfl, q ys _ h2 h3 (I.hok.fresh (Nat.le_succ _))⟩
def aSortedU : A1c := fun ds A q => match ds with
  | [.tup xs] => ∃ ss : List (List Nat), xs = ss.map D.str ∧ ss.length < 64 ∧ ∀ ys : List (List Nat), ys.Perm ss → srtL ys = true → newL A (ys.map D.str) q
  | ds => aSorted ds A q
theorem sim_sortedU {K : Fg} : SimC K (fun vs H Q => rSrtU K vs H Q ∨ rSortedST K vs H Q) aSortedU := by
  intro H A vs ds q Q R hv h k
  unfold aSortedU at h
  split at h
  · obtain ⟨v, rfl, h1⟩ := hv.one
    obtain ⟨ss, rfl, h64, h⟩ := h
    obtain ⟨a, ws, rfl, e1, r1⟩ := h1.inv_tup
    obtain ⟨ys, rfl, rfl⟩ := strsV r1
    refine .inr ⟨_, ys, rfl, e1, by rw [List.length_map] at h64; exact h64, fun zs p hp ho hn => ?_⟩
    exact k _ _ _ _ (.new hn) (R.new hn (.lst (Vls.strs rfl))) (.ref p) (h (zs.map tl) (hp.map tl) (srt_ok zs ho) p (R.none hn))
  · exact .inl (sim_sorted H A vs _ q Q R hv h k)
section
variable {X : Cx}
theorem cr_srtUT : CallR X (.builtin "sorted") (fun vs H Q => rSrtU X.K vs H Q ∨ rSortedST X.K vs H Q) := by
  intro pins s σ H xs us Q I r h
  rcases h with h | h
  · exact cr_srtU pins s σ H xs us Q I r h
  · exact cr_sortedST pins s σ H xs us Q I r h
theorem ba_sortedU : BltA X (.builtin "sorted") (fun vs H Q => rSrtU X.K vs H Q ∨ rSortedST X.K vs H Q) aSortedU := ⟨cr_srtUT, sim_sortedU⟩
end
end GA

namespace LW
open PySem PySem.Spec PyProof.Rows L2 GV TL GA
/-! generated by gen.py -/
def top (i : Nat) : Stmt := PySem.Challenge.pw_grantedbyturns_k16_strike_leaves_out_lin.main.body.getD i (.Pass ⟨0, 0, 0, 0⟩)
abbrev st_is_name : Stmt := top 29
abbrev st_looks_like_place : Stmt := top 36
abbrev st_leaves_under : Stmt := top 39
abbrev st__law_mix : Stmt := top 46
abbrev st__law_lotof : Stmt := top 52
abbrev st__law_nodes : Stmt := top 54
abbrev st__law_at : Stmt := top 56
abbrev st__law_put : Stmt := top 57
abbrev st__law_equal : Stmt := top 61
abbrev st__law_error : Stmt := top 69
abbrev st__law_store : Stmt := top 47
abbrev st__law_take : Stmt := top 48
abbrev st__law_order : Stmt := top 55
abbrev st__law_path : Stmt := top 58
abbrev st_refuse_leaf : Stmt := top 35
abbrev st_refuse_place : Stmt := top 37
abbrev st_check_lot : Stmt := top 42
abbrev st__law_pick : Stmt := top 49
abbrev st__law_shuffle : Stmt := top 50
abbrev st__law_without : Stmt := top 67
abbrev st_check_tree : Stmt := top 38
abbrev st__law_some : Stmt := top 51
abbrev st__law_tree : Stmt := top 59
abbrev st__law_chain : Stmt := top 60
abbrev st__law_names : Stmt := top 64
abbrev st__law_leftover : Stmt := top 68
abbrev st_lines_of : Stmt := top 40
abbrev st__law_lot : Stmt := top 53
abbrev st__law_edge : Stmt := top 62
abbrev st__law_wrongnest : Stmt := top 65
abbrev st__law_grove : Stmt := top 63
abbrev st__law_wronglot : Stmt := top 66
abbrev st__law_world : Stmt := top 72
abbrev st_struck : Stmt := top 43
abbrev st_strike : Stmt := top 44
abbrev st__law_tried : Stmt := top 70
abbrev st__law_struckright : Stmt := top 71
abbrev st_law : Stmt := top 73
theorem sc_is_name : FnScope ["name", "sign"] ["name"] (defScope st_is_name) := ⟨rfl, rfl, rfl, by decide +kernel, rfl, by decide +kernel, by decide +kernel⟩
theorem sc_looks_like_place : FnScope ["nest"] ["nest"] (defScope st_looks_like_place) := ⟨rfl, rfl, rfl, by decide +kernel, rfl, by decide +kernel, by decide +kernel⟩
theorem sc_leaves_under : FnScope ["subtree", "left", "found", "one"] ["subtree"] (defScope st_leaves_under) := ⟨rfl, rfl, rfl, by decide +kernel, rfl, by decide +kernel, by decide +kernel⟩
theorem sc__law_mix : FnScope ["number", "large", "value"] ["number"] (defScope st__law_mix) := ⟨rfl, rfl, rfl, by decide +kernel, rfl, by decide +kernel, by decide +kernel⟩
theorem sc__law_lotof : FnScope ["lines", "number", "found", "line"] ["lines", "number"] (defScope st__law_lotof) := ⟨rfl, rfl, rfl, by decide +kernel, rfl, by decide +kernel, by decide +kernel⟩
theorem sc__law_nodes : FnScope ["tree", "rows", "stack", "k", "row", "kids", "i", "at"] ["tree"] (defScope st__law_nodes) := ⟨rfl, rfl, rfl, by decide +kernel, rfl, by decide +kernel, by decide +kernel⟩
theorem sc__law_at : FnScope ["tree", "path", "k"] ["tree", "path"] (defScope st__law_at) := ⟨rfl, rfl, rfl, by decide +kernel, rfl, by decide +kernel, by decide +kernel⟩
theorem sc__law_put : FnScope ["tree", "path", "new", "above", "k", "i", "at", "node"] ["tree", "path", "new"] (defScope st__law_put) := ⟨rfl, rfl, rfl, by decide +kernel, rfl, by decide +kernel, by decide +kernel⟩
theorem sc__law_equal : FnScope ["got", "due", "stack", "k", "one", "two", "x", "i"] ["got", "due"] (defScope st__law_equal) := ⟨rfl, rfl, rfl, by decide +kernel, rfl, by decide +kernel, by decide +kernel⟩
theorem sc__law_error : FnScope ["e", "flags"] ["e"] (defScope st__law_error) := ⟨rfl, rfl, rfl, by decide +kernel, rfl, by decide +kernel, by decide +kernel⟩
theorem sc__law_store : FnScope ["script", "wide", "store", "cell", "amount", "sign"] ["script"] (defScope st__law_store) := ⟨rfl, rfl, rfl, by decide +kernel, rfl, by decide +kernel, by decide +kernel⟩
theorem sc__law_take : FnScope ["store", "many", "found"] ["store", "many"] (defScope st__law_take) := ⟨rfl, rfl, rfl, by decide +kernel, rfl, by decide +kernel, by decide +kernel⟩
theorem sc__law_order : FnScope ["tree", "row"] ["tree"] (defScope st__law_order) := ⟨rfl, rfl, rfl, by decide +kernel, rfl, by decide +kernel, by decide +kernel⟩
theorem sc__law_path : FnScope ["tree", "line", "row"] ["tree", "line"] (defScope st__law_path) := ⟨rfl, rfl, rfl, by decide +kernel, rfl, by decide +kernel, by decide +kernel⟩
theorem sc_refuse_leaf : FnScope ["name", "known"] ["name", "known"] (defScope st_refuse_leaf) := ⟨rfl, rfl, rfl, by decide +kernel, rfl, by decide +kernel, by decide +kernel⟩
theorem sc_refuse_place : FnScope ["nest", "path", "many"] ["nest", "path", "many"] (defScope st_refuse_place) := ⟨rfl, rfl, rfl, by decide +kernel, rfl, by decide +kernel, by decide +kernel⟩
theorem sc_check_lot : FnScope ["lines", "lot", "at", "name"] ["lines", "lot"] (defScope st_check_lot) := ⟨rfl, rfl, rfl, by decide +kernel, rfl, by decide +kernel, by decide +kernel⟩
theorem sc__law_pick : FnScope ["store", "items"] ["store", "items"] (defScope st__law_pick) := ⟨rfl, rfl, rfl, by decide +kernel, rfl, by decide +kernel, by decide +kernel⟩
theorem sc__law_shuffle : FnScope ["store", "items", "rest", "found", "k"] ["store", "items"] (defScope st__law_shuffle) := ⟨rfl, rfl, rfl, by decide +kernel, rfl, by decide +kernel, by decide +kernel⟩
theorem sc__law_without : FnScope ["tree", "line", "path", "k", "up", "node", "at", "kids"] ["tree", "line"] (defScope st__law_without) := ⟨rfl, rfl, rfl, by decide +kernel, rfl, by decide +kernel, by decide +kernel⟩
theorem sc_check_tree : FnScope ["tree", "left", "known", "met", "nest", "path", "kids", "at"] ["tree"] (defScope st_check_tree) := ⟨rfl, rfl, rfl, by decide +kernel, rfl, by decide +kernel, by decide +kernel⟩
theorem sc__law_some : FnScope ["store", "items", "many", "chosen", "k"] ["store", "items", "many"] (defScope st__law_some) := ⟨rfl, rfl, rfl, by decide +kernel, rfl, by decide +kernel, by decide +kernel⟩
theorem sc__law_tree : FnScope ["store", "lines", "left", "way", "kinds", "menu", "wraps", "at", "k", "wide", "start", "node"] ["store", "lines"] (defScope st__law_tree) := ⟨rfl, rfl, rfl, by decide +kernel, rfl, by decide +kernel, by decide +kernel⟩
theorem sc__law_chain : FnScope ["store", "many", "nest", "k"] ["store", "many", "nest"] (defScope st__law_chain) := ⟨rfl, rfl, rfl, by decide +kernel, rfl, by decide +kernel, by decide +kernel⟩
theorem sc__law_names : FnScope ["store", "many", "letters", "way", "at", "found", "k"] ["store", "many"] (defScope st__law_names) := ⟨rfl, rfl, rfl, by decide +kernel, rfl, by decide +kernel, by decide +kernel⟩
theorem sc__law_leftover : FnScope ["tree", "lot", "line"] ["tree", "lot"] (defScope st__law_leftover) := ⟨rfl, rfl, rfl, by decide +kernel, rfl, by decide +kernel, by decide +kernel⟩
theorem sc_lines_of : FnScope ["tree"] ["tree"] (defScope st_lines_of) := ⟨rfl, rfl, rfl, by decide +kernel, rfl, by decide +kernel, by decide +kernel⟩
theorem sc__law_lot : FnScope ["store", "lines", "way", "most", "line"] ["store", "lines"] (defScope st__law_lot) := ⟨rfl, rfl, rfl, by decide +kernel, rfl, by decide +kernel, by decide +kernel⟩
theorem sc__law_edge : FnScope ["store", "way", "kind", "k"] ["store"] (defScope st__law_edge) := ⟨rfl, rfl, rfl, by decide +kernel, rfl, by decide +kernel, by decide +kernel⟩
theorem sc__law_wrongnest : FnScope ["store", "tree", "leaves", "at", "path", "kind", "way", "bad", "name", "three", "found", "row", "k"] ["store", "tree"] (defScope st__law_wrongnest) := ⟨rfl, rfl, rfl, by decide +kernel, rfl, by decide +kernel, by decide +kernel⟩
theorem sc__law_grove : FnScope ["store", "most", "way", "many"] ["store", "most"] (defScope st__law_grove) := ⟨rfl, rfl, rfl, by decide +kernel, rfl, by decide +kernel, by decide +kernel⟩
theorem sc__law_wronglot : FnScope ["store", "lines", "lot", "at", "way", "bad"] ["store", "lines"] (defScope st__law_wronglot) := ⟨rfl, rfl, rfl, by decide +kernel, rfl, by decide +kernel, by decide +kernel⟩
theorem sc__law_world : FnScope ["store", "tree", "lines", "other", "lot", "inner", "wrong"] ["store"] (defScope st__law_world) := ⟨rfl, rfl, rfl, by decide +kernel, rfl, by decide +kernel, by decide +kernel⟩
theorem sc_struck : FnScope ["tree", "lot", "kind", "children", "parts", "left", "child", "part"] ["tree", "lot"] (defScope st_struck) := ⟨rfl, rfl, rfl, by decide +kernel, rfl, by decide +kernel, by decide +kernel⟩
theorem sc_strike : FnScope ["tree", "lot"] ["tree", "lot"] (defScope st_strike) := ⟨rfl, rfl, rfl, by decide +kernel, rfl, by decide +kernel, by decide +kernel⟩
theorem sc__law_tried : FnScope ["tree", "lot", "e"] ["tree", "lot"] (defScope st__law_tried) := ⟨rfl, rfl, rfl, by decide +kernel, rfl, by decide +kernel, by decide +kernel⟩
theorem sc__law_struckright : FnScope ["tree", "lines", "lot", "inner", "told", "due", "lost", "line"] ["tree", "lines", "lot", "inner"] (defScope st__law_struckright) := ⟨rfl, rfl, rfl, by decide +kernel, rfl, by decide +kernel, by decide +kernel⟩
theorem sc_law : FnScope ["script", "world", "tree", "lines", "lot", "wrong", "bad", "thing"] ["script"] (defScope st_law) := ⟨rfl, rfl, rfl, by decide +kernel, rfl, by decide +kernel, by decide +kernel⟩
/-- the classes that are raised; the classes that are asked of -/
def excs : List Str := ["BadName", "Twice", "TooMany", "BadTree", "BadLot", "NoSuchLine"]
def kits : List Str := ["GrantError", "BadName", "BadKind", "BadTree", "NoSubtree", "Twice", "TooMany", "BadText", "BadLot", "NoSuchLine", "BadLog", "BadNumber", "Mismatch", "BadMove", "BadTable", "NoTree", "BadMatrix", "NoGrant", "BadMachine", "BadWish", "NoCover", "Barred", "LastLine", "NoEdit"]
/-- what the walk asks of the text -/
structure Tx (K : Fg) (mg : Str → Option Value) (P : Program) (w : World) (base : Heap) : Prop where
  f_ValueError : mg "ValueError" = none
  f_abs : mg "abs" = none
  f_bool : mg "bool" = none
  f_dict : mg "dict" = none
  f_enumerate : mg "enumerate" = none
  f_int : mg "int" = none
  f_isinstance : mg "isinstance" = none
  f_len : mg "len" = none
  f_list : mg "list" = none
  f_max : mg "max" = none
  f_min : mg "min" = none
  f_range : mg "range" = none
  f_sorted : mg "sorted" = none
  f_str : mg "str" = none
  f_tuple : mg "tuple" = none
  c_KEPT_WORDS : GlobT K mg "KEPT_WORDS" [.str "first", .str "back", .str "round", .str "let", .str "tree"] [.str (tl "first"), .str (tl "back"), .str (tl "round"), .str (tl "let"), .str (tl "tree")]
  c_LETTERS : ∃ t, mg "LETTERS" = some (.str "abcdefghijklmnopqrstuvwxyz" t)
  c_NAME_SIGNS : ∃ t, mg "NAME_SIGNS" = some (.str "abcdefghijklmnopqrstuvwxyz0123456789." t)
  c_KINDS : GlobT K mg "KINDS" [.str "first", .str "back", .str "round"] [.str (tl "first"), .str (tl "back"), .str (tl "round")]
  c_MOST_LINES : ∃ t, mg "MOST_LINES" = some (.int 24 t)
  c_MOST_DEPTH : ∃ t, mg "MOST_DEPTH" = some (.int 24 t)
  c_MOST_PLACES : ∃ t, mg "MOST_PLACES" = some (.int 60 t)
  n_GrantError : mg "GrantError" = some (.ref (He.ga K "GrantError"))
  n_BadName : mg "BadName" = some (.ref (He.ga K "BadName"))
  n_BadKind : mg "BadKind" = some (.ref (He.ga K "BadKind"))
  n_BadTree : mg "BadTree" = some (.ref (He.ga K "BadTree"))
  n_NoSubtree : mg "NoSubtree" = some (.ref (He.ga K "NoSubtree"))
  n_Twice : mg "Twice" = some (.ref (He.ga K "Twice"))
  n_TooMany : mg "TooMany" = some (.ref (He.ga K "TooMany"))
  n_BadText : mg "BadText" = some (.ref (He.ga K "BadText"))
  n_BadLot : mg "BadLot" = some (.ref (He.ga K "BadLot"))
  n_NoSuchLine : mg "NoSuchLine" = some (.ref (He.ga K "NoSuchLine"))
  n_BadLog : mg "BadLog" = some (.ref (He.ga K "BadLog"))
  n_BadNumber : mg "BadNumber" = some (.ref (He.ga K "BadNumber"))
  n_Mismatch : mg "Mismatch" = some (.ref (He.ga K "Mismatch"))
  n_BadMove : mg "BadMove" = some (.ref (He.ga K "BadMove"))
  n_BadTable : mg "BadTable" = some (.ref (He.ga K "BadTable"))
  n_NoTree : mg "NoTree" = some (.ref (He.ga K "NoTree"))
  n_BadMatrix : mg "BadMatrix" = some (.ref (He.ga K "BadMatrix"))
  n_NoGrant : mg "NoGrant" = some (.ref (He.ga K "NoGrant"))
  n_BadMachine : mg "BadMachine" = some (.ref (He.ga K "BadMachine"))
  n_BadWish : mg "BadWish" = some (.ref (He.ga K "BadWish"))
  n_NoCover : mg "NoCover" = some (.ref (He.ga K "NoCover"))
  n_Barred : mg "Barred" = some (.ref (He.ga K "Barred"))
  n_LastLine : mg "LastLine" = some (.ref (He.ga K "LastLine"))
  n_NoEdit : mg "NoEdit" = some (.ref (He.ga K "NoEdit"))
  x_BadName : ExcT0 P w K mg base "BadName" ["name"]
  x_Twice : ExcT0 P w K mg base "Twice" ["name"]
  x_TooMany : ExcT0 P w K mg base "TooMany" ["what", "limit"]
  x_BadTree : ExcT0 P w K mg base "BadTree" ["path"]
  x_BadLot : ExcT0 P w K mg base "BadLot" ["at"]
  x_NoSuchLine : ExcT0 P w K mg base "NoSuchLine" ["name"]
  exm : ∀ m ∈ excs, PySem.W.exmOne K (.ref (He.ga K m)) (.ref (He.ga K "GrantError")) = some true
  ec : ∀ c ∈ excs, EC K (He.ga K c)
  na_at : ∀ c ∈ excs, PySem.W.findIn K (.ref (He.ga K c)) "at" = some none
  na_limit : ∀ c ∈ excs, PySem.W.findIn K (.ref (He.ga K c)) "limit" = some none
  na_name : ∀ c ∈ excs, PySem.W.findIn K (.ref (He.ga K c)) "name" = some none
  na_path : ∀ c ∈ excs, PySem.W.findIn K (.ref (He.ga K c)) "path" = some none
  na_what : ∀ c ∈ excs, PySem.W.findIn K (.ref (He.ga K c)) "what" = some none
  kit : ∀ c ∈ excs, ∀ n ∈ kits, PySem.W.kitOne K (.ref (He.ga K c)) (.ref (He.ga K n)) = some (decide (c = n) || decide (n = "GrantError"))
  kitV : ∀ c ∈ excs, PySem.W.kitOne K (.ref (He.ga K c)) (.type "ValueError") = some true
def isS (p : List Nat → Bool) : D → Bool
  | .str cs => p cs
  | _ => false
theorem isS_of {p : List Nat → Bool} {L : List D} (h : L.all (isS p) = true) {y : D} (m : y ∈ L) : ∃ cs, y = .str cs ∧ p cs = true := by
  have := List.all_eq_true.mp h y m
  cases y with
  | str cs => exact ⟨cs, rfl, this⟩
  | _ => cases this
def asc (cs : List Nat) : Bool := cs.all (· < 128)
theorem asc_app {a b : List Nat} (h : asc a = true) (g : asc b = true) : asc (a ++ b) = true := by unfold asc at *; rw [List.all_append, h, g]; rfl
theorem asc_one {c : Nat} {cs : List Nat} (h : asc cs = true) (m : c ∈ cs) : asc [c] = true := by
  have := List.all_eq_true.mp h c m
  unfold asc; rw [List.all_cons, this]; rfl
theorem asc_sub {a b : List Nat} (h : asc a = true) (g : ∀ c ∈ b, c ∈ a) : asc b = true := List.all_eq_true.mpr fun c m => List.all_eq_true.mp h c (g c m)
theorem decN_ok : ∀ k : Nat, k < 120 → (decN k).length ≤ 3 ∧ asc (decN k) = true := by decide +kernel
theorem decN_int {i : Int} (h : 0 ≤ i) (g : i < 120) : (decN i).length ≤ 3 ∧ asc (decN i) = true := by
  obtain ⟨k, rfl⟩ := Int.eq_ofNat_of_zero_le h
  exact decN_ok k (by omega)
theorem atI_last {α : Type} {cs : List α} (h : cs ≠ []) : ∃ c, L2.atI cs (-1) = some c ∧ c ∈ cs := by
  have hl : 0 < cs.length := List.length_pos_iff.mpr h
  refine ⟨cs[cs.length - 1]'(by omega), ?_, List.getElem_mem _⟩
  unfold L2.atI L2.ixN
  rw [if_neg (by omega), if_pos (by omega)]
  have : (-1 + (cs.length : Int)).toNat = cs.length - 1 := by omega
  rw [this]
  exact List.getElem?_eq_getElem _
theorem atI_nat {α : Type} {cs : List α} {k : Int} (h0 : 0 ≤ k) (h : k.toNat < cs.length) : ∃ c, L2.atI cs k = some c ∧ c ∈ cs := by
  refine ⟨cs[k.toNat]'h, ?_, List.getElem_mem _⟩
  unfold L2.atI L2.ixN
  rw [if_pos h0, if_pos (by omega)]
  exact List.getElem?_eq_getElem _
theorem str_of {y : D} {cs : List Nat} (h : y ∈ cs.map fun c => D.str [c]) : ∃ c, c ∈ cs ∧ y = .str [c] := by
  obtain ⟨c, m, e⟩ := List.mem_map.mp h
  exact ⟨c, m, e.symm⟩
theorem map_ne {cs : List Nat} (h : cs ≠ []) : (cs.map fun c => D.str [c]) ≠ [] := by simpa using h
theorem map_big {cs : List Nat} (h : cs.length ≤ big) : (cs.map fun c => D.str [c]).length ≤ big := by rwa [List.length_map]
theorem big_eq : big = 16777216 := rfl
theorem atI_zero {α : Type} {c : α} {r : List α} : L2.atI (c :: r) 0 = some c := by
  unfold L2.atI L2.ixN
  rw [if_pos (by omega), if_pos (by rw [List.length_cons]; omega)]
  rfl
theorem decT {p : Prop} [Decidable p] (h : decide p = true) : p := of_decide_eq_true h
theorem cutD_le {α : Type} {xs : List α} {lo hi : Option Int} : (GA.cutD xs lo hi).length ≤ xs.length := by
  unfold GA.cutD
  rw [List.length_take, List.length_drop]
  omega
theorem cutD_mem {α : Type} {xs : List α} {lo hi : Option Int} {c : α} (h : c ∈ GA.cutD xs lo hi) : c ∈ xs := List.mem_of_mem_drop (List.mem_of_mem_take h)
theorem asc_cut {cs : List Nat} {lo hi : Option Int} (h : asc cs = true) : asc (GA.cutD cs lo hi) = true := asc_sub h fun _ m => cutD_mem m
/-! the plain law of names -/
def lettersD : List Nat := tl "abcdefghijklmnopqrstuvwxyz"
def signsD : List Nat := tl "abcdefghijklmnopqrstuvwxyz0123456789."
def alnumD : List Nat := tl "abcdefghijklmnopqrstuvwxyz0123456789"
def keptD : List D := [.str (tl "first"), .str (tl "back"), .str (tl "round"), .str (tl "let"), .str (tl "tree")]
def hdL : List Nat → Bool
  | [] => false
  | c :: _ => decide (c ∈ lettersD)
def lstN (cs : List Nat) : Bool := match cs.getLast? with
  | some c => c != 46
  | none => false
def isNm (cs : List Nat) : Bool := decide (1 ≤ cs.length) && decide (cs.length ≤ 12) && !inD (.str cs) keptD && hdL cs && lstN cs && cs.all (fun c => decide (c ∈ signsD)) && !inL (tl "..") cs
def hasDD : List Nat → Bool
  | a :: b :: r => (a == 46 && b == 46) || hasDD (b :: r)
  | _ => false
theorem inL_dd : ∀ cs : List Nat, inL [46, 46] cs = hasDD cs := by
  have key : ∀ cs : List Nat, ((List.range (cs.length + 1)).any fun i => pre [46, 46] (cs.drop i)) = hasDD cs := by
    intro cs
    induction cs with
    | nil => rfl
    | cons a r ih =>
      rw [List.length_cons, List.range_succ_eq_map, List.any_cons, List.any_map]
      have : ((fun i => pre [46, 46] ((a :: r).drop i)) ∘ Nat.succ) = fun i => pre [46, 46] (r.drop i) := rfl
      rw [this, ih]
      cases r with
      | nil => simp [hasDD, pre]
      | cons b r => simp [hasDD, pre]
  intro cs
  exact key cs
def okP (p : List Nat) : Bool := !(p == []) && p.all (fun c => decide (c ∈ alnumD))
def spG : Bool → List Nat → Bool
  | e, [] => e
  | e, c :: r => if c = 46 then e && spG false r else decide (c ∈ alnumD) && spG true r
theorem spl_dot (x : List Nat) (c : Nat) (r : List Nat) : TL.spl [46] 0 x (c :: r) = if c = 46 then x :: TL.spl [46] 0 [] r else TL.spl [46] 0 (x ++ [c]) r := by
  rw [TL.spl.eq_2]
  have : (TL.pre [46] (c :: r) = true) = (c = 46) := by simp [TL.pre]
  simp only [this]
  rfl
theorem spl_ok : ∀ (cs x : List Nat), (TL.spl [46] 0 x cs).all okP = (x.all (fun c => decide (c ∈ alnumD)) && spG (!(x == [])) cs)
  | [], x => by
    rw [TL.spl.eq_1, List.all_cons, List.all_nil, Bool.and_true]
    unfold okP
    rw [Bool.and_comm]
    rfl
  | c :: r, x => by
    rw [spl_dot]
    by_cases h : c = 46
    · rw [if_pos h, List.all_cons, spl_ok r []]
      simp only [spG, if_pos h]
      unfold okP
      cases x.all (fun c => decide (c ∈ alnumD)) <;> cases (!(x == [])) <;> simp
    · rw [if_neg h, spl_ok r (x ++ [c])]
      simp only [spG, if_neg h]
      rw [List.all_append, List.all_cons, List.all_nil]
      have : (!((x ++ [c]) == [])) = true := by simp
      rw [this]
      cases x.all (fun c => decide (c ∈ alnumD)) <;> cases decide (c ∈ alnumD) <;> simp
theorem mem_signs {c : Nat} : decide (c ∈ signsD) = (decide (c ∈ alnumD) || c == 46) := by
  have h : signsD = alnumD ++ [46] := by decide
  rw [h, Bool.eq_iff_iff]
  simp
theorem dot_alnum : decide (46 ∈ alnumD) = false := by decide
theorem spG_eq : ∀ (cs : List Nat) (e : Bool), cs ≠ [] → spG e cs = (cs.all (fun c => decide (c ∈ signsD)) && !hasDD cs && lstN cs && (e || !(cs.head? == some 46)))
  | [], _, h => (h rfl).elim
  | [c], e, _ => by
    simp only [spG, List.all_cons, List.all_nil, mem_signs, hasDD, lstN, List.getLast?_singleton]
    by_cases h : c = 46
    · subst h; rw [dot_alnum]; cases e <;> rfl
    · rw [if_neg h]
      have : (c == 46) = false := by simpa using h
      simp [this, h, bne]
  | c :: d :: r, e, _ => by
    have ih := fun e => spG_eq (d :: r) e (by simp)
    have hl : lstN (c :: d :: r) = lstN (d :: r) := by unfold lstN; rw [List.getLast?_cons_cons]
    rw [spG, hl, List.all_cons, mem_signs, hasDD]
    by_cases h : c = 46
    · rw [if_pos h, ih]
      subst h
      rw [dot_alnum]
      by_cases hd : d = 46
      · subst hd; cases e <;> simp
      · have : (d == 46) = false := by simpa using hd
        simp [this, hd]
        cases e <;> simp
    · rw [if_neg h, ih]
      have : (c == 46) = false := by simpa using h
      simp [this, h]
      cases decide (c ∈ alnumD) <;> simp
theorem hdL_dot {cs : List Nat} (h : hdL cs = true) : cs ≠ [] ∧ (cs.head? == some 46) = false := by
  cases cs with
  | nil => cases h
  | cons c r =>
    refine ⟨by simp, ?_⟩
    have h : c ∈ lettersD := of_decide_eq_true h
    have h2 : c ≠ 46 := by
      intro z; subst z
      exact absurd h (by decide)
    simpa using h2
/-- the second way of saying it -/
theorem isNm_eq (cs : List Nat) (hl : cs.length ≤ 12) (hk : inD (.str cs) keptD = false) : isNm cs = ((splitD (tl ".") cs).all okP && hdL cs) := by
  have hs : (splitD (tl ".") cs).all okP = spG false cs := by
    have := spl_ok cs []
    show (TL.spl [46] 0 [] cs).all okP = _
    simpa using this
  rw [hs]
  unfold isNm
  rw [hk]
  have hd : inL (tl "..") cs = hasDD cs := inL_dd cs
  rw [hd]
  cases h : hdL cs with
  | false => simp
  | true =>
    obtain ⟨hn, h46⟩ := hdL_dot h
    rw [spG_eq cs false hn, h46]
    have : 1 ≤ cs.length := List.length_pos_iff.mpr hn
    simp only [this, hl, decide_true, Bool.true_and, Bool.and_true, Bool.not_false, Bool.false_or]
    cases lstN cs <;> cases hasDD cs <;> cases cs.all (fun c => decide (c ∈ signsD)) <;> rfl
theorem isNm_kept (cs : List Nat) (hk : inD (.str cs) keptD = true) : isNm cs = false := by unfold isNm; rw [hk]; simp
theorem isNm_long (cs : List Nat) (hl : 12 < cs.length) : isNm cs = false := by
  unfold isNm
  have : decide (cs.length ≤ 12) = false := by simp; omega
  rw [this]; simp
/-! the same data, twice -/
mutual
inductive Sm (A : Ah) : Nat → D → D → Prop
  | non : Sm A 1 .non .non
  | bl (b : Bool) : Sm A 1 (.bl b) (.bl b)
  | int (i : Int) : Sm A 1 (.int i) (.int i)
  | str (cs : List Nat) : Sm A 1 (.str cs) (.str cs)
  | tup {n : Nat} {ds es : List D} : Sms A n ds es → Sm A (n + 1) (.tup ds) (.tup es)
  | lst {n : Nat} {a b : Addr} {ds es : List D} : A a = some (.lst ds) → A b = some (.lst es) → Sms A n ds es → Sm A (n + 1) (.ref a) (.ref b)
inductive Sms (A : Ah) : Nat → List D → List D → Prop
  | nil : Sms A 0 [] []
  | cons {n m : Nat} {d e : D} {ds es : List D} : Sm A n d e → Sms A m ds es → Sms A (n + m) (d :: ds) (e :: es)
end
theorem Sm.pos {A : Ah} {n : Nat} {d e : D} (h : Sm A n d e) : 1 ≤ n := by cases h <;> omega
theorem Sms.len {A : Ah} : ∀ {ds es : List D} {n : Nat}, Sms A n ds es → ds.length = es.length ∧ ds.length ≤ n
  | [], _, _, .nil => ⟨rfl, Nat.le_refl _⟩
  | _ :: _, _, _, .cons h t => by
    obtain ⟨h1, h2⟩ := t.len
    have := h.pos
    rw [List.length_cons, List.length_cons, h1]
    exact ⟨rfl, by omega⟩
theorem Sms.at {A : Ah} : ∀ {ds es : List D} {n i : Nat} (_ : Sms A n ds es), i < ds.length → ∃ (n1 : Nat) (d e : D), ds[i]? = some d ∧ es[i]? = some e ∧ Sm A n1 d e ∧ n1 ≤ n
  | [], _, _, _, .nil, h => nomatch h
  | d :: ds, e :: es, _, 0, .cons h t, _ => ⟨_, d, e, rfl, rfl, h, Nat.le_add_right ..⟩
  | d :: ds, e :: es, _, i + 1, .cons h t, hi => by
    obtain ⟨n1, d', e', h1, h2, h3, h4⟩ := t.at (i := i) (by simpa using hi)
    exact ⟨n1, d', e', h1, h2, h3, by omega⟩
/-- the weight of what begins at i -/
inductive SmsAt (A : Ah) (ds es : List D) : Nat → Nat → Prop
  | mk {i m : Nat} : Sms A m (ds.drop i) (es.drop i) → SmsAt A ds es i m
theorem SmsAt.step {A : Ah} {ds es : List D} {i m : Nat} (h : SmsAt A ds es i m) (hi : i < ds.length) : ∃ (n1 m1 : Nat) (d e : D), ds[i]? = some d ∧ es[i]? = some e ∧ Sm A n1 d e ∧ m = n1 + m1 ∧ SmsAt A ds es (i + 1) m1 := by
  obtain ⟨h⟩ := h
  cases h1 : ds.drop i with
  | nil =>
    have := List.drop_eq_nil_iff.mp h1
    omega
  | cons d r =>
    rw [h1] at h
    cases h2 : es.drop i with
    | nil => rw [h2] at h; cases h
    | cons e r' =>
      rw [h2] at h
      cases h with
      | @cons n1 m1 _ _ _ _ a b =>
        have g1 : ds[i]? = some d := by rw [← List.head?_drop, h1]; rfl
        have g2 : es[i]? = some e := by rw [← List.head?_drop, h2]; rfl
        have g3 : ds.drop (i + 1) = r := by rw [← List.tail_drop, h1]; rfl
        have g4 : es.drop (i + 1) = r' := by rw [← List.tail_drop, h2]; rfl
        exact ⟨n1, m1, d, e, g1, g2, a, rfl, ⟨by rw [g3, g4]; exact b⟩⟩
/-- pairs that wait -/
inductive Stk (A : Ah) : Nat → List D → Prop
  | nil : Stk A 0 []
  | snoc {m n : Nat} {S : List D} {d e : D} : Stk A m S → Sm A n d e → Stk A (m + n) (S ++ [.tup [d, e]])
theorem Stk.len {A : Ah} {T : Nat} {S : List D} (h : Stk A T S) : S.length ≤ T := by
  induction h with
  | nil => exact Nat.le_refl _
  | snoc _ h ih => have := h.pos; rw [List.length_append, List.length_singleton]; omega
theorem atI_of {α : Type} {xs : List α} {i : Nat} {y : α} (h : xs[i]? = some y) : L2.atI xs (i : Int) = some y := by
  have hi : i < xs.length := (List.getElem?_eq_some_iff.mp h).1
  unfold L2.atI L2.ixN
  rw [if_pos (by omega), if_pos (by omega)]
  exact h
theorem decF {p : Prop} [Decidable p] (h : decide p = false) : ¬p := of_decide_eq_false h
/-! plain data with no reference in it, its weight -/
mutual
inductive Pl : Nat → D → Prop
  | non : Pl 1 .non
  | bl (b : Bool) : Pl 1 (.bl b)
  | int (i : Int) : Pl 1 (.int i)
  | str (cs : List Nat) : Pl 1 (.str cs)
  | tup {n : Nat} {ds : List D} : Pls n ds → Pl (n + 1) (.tup ds)
inductive Pls : Nat → List D → Prop
  | nil : Pls 0 []
  | cons {n m : Nat} {d : D} {ds : List D} : Pl n d → Pls m ds → Pls (n + m) (d :: ds)
end
theorem Pl.pos {n : Nat} {d : D} (h : Pl n d) : 1 ≤ n := by cases h <;> omega
theorem Pls.len : ∀ {ds : List D} {n : Nat}, Pls n ds → ds.length ≤ n
  | [], _, .nil => Nat.le_refl _
  | _ :: _, _, .cons h t => by
    have := t.len
    have := h.pos
    rw [List.length_cons]
    omega
inductive PlsAt (ds : List D) : Nat → Nat → Prop
  | mk {i m : Nat} : Pls m (ds.drop i) → PlsAt ds i m
theorem PlsAt.step {ds : List D} {i m : Nat} (h : PlsAt ds i m) (hi : i < ds.length) : ∃ (n1 m1 : Nat) (d : D), ds[i]? = some d ∧ Pl n1 d ∧ m = n1 + m1 ∧ PlsAt ds (i + 1) m1 := by
  obtain ⟨h⟩ := h
  cases h1 : ds.drop i with
  | nil =>
    have := List.drop_eq_nil_iff.mp h1
    omega
  | cons d r =>
    rw [h1] at h
    cases h with
    | @cons n1 m1 _ _ a b =>
      have g1 : ds[i]? = some d := by rw [← List.head?_drop, h1]; rfl
      have g3 : ds.drop (i + 1) = r := by rw [← List.tail_drop, h1]; rfl
      exact ⟨n1, m1, d, g1, a, rfl, ⟨by rw [g3]; exact b⟩⟩
inductive PSt : Nat → List D → Prop
  | nil : PSt 0 []
  | snoc {m n : Nat} {S : List D} {d : D} : PSt m S → Pl n d → PSt (m + n) (S ++ [.tup [d, d]])
theorem PSt.len {T : Nat} {S : List D} (h : PSt T S) : S.length ≤ T := by
  induction h with
  | nil => exact Nat.le_refl _
  | snoc _ h ih => have := h.pos; rw [List.length_append, List.length_singleton]; omega
theorem Pls.app {n m : Nat} {ds es : List D} (h : Pls n ds) (g : Pls m es) : Pls (n + m) (ds ++ es) := by
  induction ds generalizing n with
  | nil => cases h; rw [Nat.zero_add]; exact g
  | cons d r ih => cases h with
    | cons a b => rw [Nat.add_assoc]; exact .cons a (ih b)
/-! the first fault of a lot: a name that is none, or a place out of order -/
def lotG : Option (List Nat) → Nat → List (List Nat) → Option (Sum (List Nat) Nat)
  | _, _, [] => none
  | p, i, c :: r => if isNm c = false then some (.inl c) else if (match p with | some p => !lexL p c | none => false) = true then some (.inr i) else lotG (some c) (i + 1) r
def lotF (L : List (List Nat)) : Option (Sum (List Nat) Nat) := if L = [] then some (.inr 0) else lotG none 0 L
/-! names that are names, texts that are none -/
theorem nm_hd {cs : List Nat} (h : hdL cs = false) : isNm cs = false := by unfold isNm; rw [h]; simp
theorem nm_lst {cs : List Nat} (h : lstN cs = false) : isNm cs = false := by unfold isNm; rw [h]; simp
theorem nm_dd {cs : List Nat} (h : hasDD cs = true) : isNm cs = false := by
  have hd : inL (tl "..") cs = hasDD cs := inL_dd cs
  unfold isNm; rw [hd, h]; simp
theorem nm_sign {cs : List Nat} {e : Nat} (m : e ∈ cs) (h : e ∉ signsD) : isNm cs = false := by
  have : cs.all (fun c => decide (c ∈ signsD)) = false := by
    rw [Bool.eq_false_iff]
    intro z
    exact h (of_decide_eq_true (List.all_eq_true.mp z e m))
  unfold isNm; rw [this]; simp
theorem nm_mk {cs : List Nat} (h1 : 1 ≤ cs.length) (h2 : cs.length ≤ 12) (hk : inD (.str cs) keptD = false) (hh : hdL cs = true) (hl : lstN cs = true) (hs : ∀ c ∈ cs, c ∈ signsD) (hd : hasDD cs = false) : isNm cs = true := by
  have e : inL (tl "..") cs = hasDD cs := inL_dd cs
  have : cs.all (fun c => decide (c ∈ signsD)) = true := List.all_eq_true.mpr fun c m => decide_eq_true (hs c m)
  unfold isNm; rw [e, hd, this, hk, hh, hl]; simp [h1, h2]
theorem nm_len {cs : List Nat} (h : isNm cs = true) : 1 ≤ cs.length ∧ cs.length ≤ 12 := by
  unfold isNm at h
  simp only [Bool.and_eq_true, decide_eq_true_eq] at h
  exact ⟨h.1.1.1.1.1.1, h.1.1.1.1.1.2⟩
theorem nm_sg {cs : List Nat} (h : isNm cs = true) : ∀ c ∈ cs, c ∈ signsD := by
  unfold isNm at h
  simp only [Bool.and_eq_true, List.all_eq_true, decide_eq_true_eq] at h
  exact h.1.2
theorem signs_asc : ∀ c ∈ signsD, c < 128 := by decide
theorem nm_asc {cs : List Nat} (h : isNm cs = true) : asc cs = true := List.all_eq_true.mpr fun c m => decide_eq_true (signs_asc c (nm_sg h c m))
theorem dd_snoc : ∀ {cs : List Nat} {s : Nat}, cs ≠ [] → hasDD cs = false → (lstN cs = true ∨ s ≠ 46) → hasDD (cs ++ [s]) = false
  | [], _, h, _, _ => (h rfl).elim
  | [a], s, _, _, h => by
    show ((a == 46 && s == 46) || hasDD [s]) = false
    rcases h with h | h
    · have : (a == 46) = false := by
        unfold lstN at h
        simpa using h
      rw [this]; rfl
    · have : (s == 46) = false := by simpa using h
      rw [this, Bool.and_false]; rfl
  | a :: b :: r, s, _, hd, h => by
    have hd : ((a == 46 && b == 46) || hasDD (b :: r)) = false := hd
    obtain ⟨h1, h2⟩ := Bool.or_eq_false_iff.mp hd
    have hl : lstN (a :: b :: r) = lstN (b :: r) := by unfold lstN; rw [List.getLast?_cons_cons]
    rw [hl] at h
    show ((a == 46 && b == 46) || hasDD ((b :: r) ++ [s])) = false
    rw [h1, dd_snoc (by simp) h2 h]; rfl
theorem lst_snoc {cs : List Nat} {s : Nat} : lstN (cs ++ [s]) = (s != 46) := by unfold lstN; rw [List.getLast?_concat]
theorem hd_app {cs r : List Nat} (h : hdL cs = true) : hdL (cs ++ r) = true := by
  cases cs with
  | nil => cases h
  | cons c s => exact h
theorem lets_sg : ∀ c ∈ lettersD, c ∈ signsD := by decide
theorem lets_46 : ∀ c ∈ lettersD, (c != 46) = true := by decide
theorem nm_one : ∀ c ∈ lettersD, isNm [c] = true := by decide +kernel
theorem nm_num : ∀ c ∈ lettersD, ∀ k : Nat, k < 120 → isNm ([c] ++ decN k) = true := by decide +kernel
theorem nm_numI {c : Nat} (hc : c ∈ lettersD) {j : Int} (h : 0 ≤ j) (g : j < 120) : isNm ([c] ++ decN j) = true := by
  obtain ⟨k, rfl⟩ := Int.eq_ofNat_of_zero_le h
  exact nm_num c hc k (by omega)
theorem kept_of {cs : List Nat} (h : inD (.str cs) keptD = true) : isNm (cs ++ tl "0") = true := by
  have : tl "first" = cs ∨ tl "back" = cs ∨ tl "round" = cs ∨ tl "let" = cs ∨ tl "tree" = cs := by
    simpa [inD, keptD, D.eqv] using h
  rcases this with h | h | h | h | h <;> (subst h; decide +kernel)
theorem atI_lst {cs : List Nat} (h : cs ≠ []) : ∃ c, L2.atI cs (-1) = some c ∧ lstN cs = (c != 46) := by
  have hl : 0 < cs.length := List.length_pos_iff.mpr h
  refine ⟨cs[cs.length - 1]'(by omega), ?_, ?_⟩
  · unfold L2.atI L2.ixN
    rw [if_neg (by omega), if_pos (by omega)]
    have : (-1 + (cs.length : Int)).toNat = cs.length - 1 := by omega
    rw [this]
    exact List.getElem?_eq_getElem _
  · unfold lstN
    rw [List.getLast?_eq_getElem?, List.getElem?_eq_getElem (by omega)]
structure NmI (e : Prop) (cs : List Nat) : Prop where
  hd : hdL cs = true
  sg : ∀ c ∈ cs, c ∈ signsD
  dd : hasDD cs = false
  ls : e → lstN cs = true
theorem NmI.snoc {e e' : Prop} {cs : List Nat} {c : Nat} (h : NmI e cs) (hn : cs ≠ []) (hc : c ∈ signsD) (h2 : c ≠ 46 ∨ lstN cs = true ∧ ¬e') : NmI e' (cs ++ [c]) where
  hd := hd_app h.hd
  sg := fun d m => by
    rcases List.mem_append.mp m with m | m
    · exact h.sg d m
    · rw [List.mem_singleton.mp m]; exact hc
  dd := dd_snoc hn h.dd (h2.elim .inr fun z => .inl z.1)
  ls := fun z => by
    rw [lst_snoc]
    rcases h2 with h2 | h2
    · simpa using h2
    · exact (h2.2 z).elim
theorem fig_hd : ∀ k : Nat, k < 10 → hdL (decN k) = false ∧ decN k ≠ [] := by decide +kernel
theorem hdL_app {cs r : List Nat} (h : cs ≠ []) : hdL (cs ++ r) = hdL cs := by
  cases cs with
  | nil => exact (h rfl).elim
  | cons c s => rfl
theorem fig_no {j : Int} (h : 0 ≤ j) (g : j < 10) {r : List Nat} : isNm (decN j ++ r) = false := by
  obtain ⟨k, rfl⟩ := Int.eq_ofNat_of_zero_le h
  obtain ⟨h1, h2⟩ := fig_hd k (by omega)
  exact nm_hd (by rw [hdL_app h2]; exact h1)
theorem tl_blank : tl " " = [32] := rfl
theorem tl_feed : tl "\n" = [10] := rfl
/-- a row of requests as data; its first fault -/
def rowD (R : List (List (List Nat))) : List D := R.map fun L => .tup (L.map D.str)
def rowF : List (List (List Nat)) → Option (Sum (List Nat) Nat)
  | [] => none
  | L :: R => match lotF L with
    | some f => some f
    | none => rowF R
/-- the first text that is no name -/
def wordF (L : List (List Nat)) : Option (List Nat) := L.find? fun c => !isNm c
/-- a log of beats as data; its first bad beat -/
def beatD (b : List (List Nat) × List Nat) : D := .tup [.tup (b.1.map D.str), .str b.2]
def beatOk (b : List (List Nat) × List Nat) : Bool := (lotF b.1).isNone && inD (.str b.2) (b.1.map D.str)
def logF : Nat → List (List (List Nat) × List Nat) → Option Nat
  | _, [] => none
  | i, b :: r => if beatOk b = true then logF (i + 1) r else some i
/-- what a log's checking owes: the errors, and what follows of a good one -/
def LogX (P : List (List (List Nat) × List Nat)) (A : Ah) (x : AX) (G : Prop) : Prop := P.length ≤ 100000 ∧ (∀ b ∈ P, b.1.length ≤ 1000 ∧ ∀ c ∈ b.1, c.length ≤ big) ∧
  (300 < P.length → ∀ d A', Ext A A' → A' d = some (.xd [("limit", .int 300), ("what", .str (tl "beats"))]) → x ⟨"TooMany", d⟩ A') ∧ (P.length ≤ 300 → logF 0 P = none → G) ∧
  (P.length ≤ 300 → ∀ i, logF 0 P = some i → ∀ d A', Ext A A' → A' d = some (.xd [("at", .int (i : Nat))]) → x ⟨"BadLog", d⟩ A')
theorem LogX.w {P : List (List (List Nat) × List Nat)} {A : Ah} {x : AX} {G : Prop} (h : LogX P A x G) : ∀ b ∈ P, b.1.length ≤ 100000 ∧ ∀ c ∈ b.1, c.length ≤ big := fun b m => ⟨by have := (h.2.1 b m).1; omega, (h.2.1 b m).2⟩
theorem logF_all : ∀ {P : List (List (List Nat) × List Nat)} {i : Nat}, logF i P = none ↔ ∀ b ∈ P, beatOk b = true
  | [], _ => ⟨fun _ => nofun, fun _ => rfl⟩
  | b :: r, i => by
    rw [logF]
    by_cases h : beatOk b = true
    · rw [if_pos h, logF_all]
      exact ⟨fun g c m => (List.mem_cons.mp m).elim (fun e => e ▸ h) (g c), fun g c m => g c (List.mem_cons_of_mem _ m)⟩
    · rw [if_neg h]
      exact ⟨nofun, fun g => (h (g b List.mem_cons_self)).elim⟩
theorem inD_str {w : List Nat} {L : List (List Nat)} : inD (.str w) (L.map D.str) = true ↔ w ∈ L := by
  unfold inD
  rw [List.any_map, List.any_eq_true]
  constructor
  · rintro ⟨c, h, e⟩
    have : c = w := by simpa [D.eqv] using e
    exact this ▸ h
  · intro h
    exact ⟨w, h, by simp [D.eqv]⟩
theorem inD_strF {w : List Nat} {L : List (List Nat)} : inD (.str w) (L.map D.str) = false ↔ w ∉ L := by
  rw [← Bool.not_eq_true, inD_str]
theorem beatOk_iff {b : List (List Nat) × List Nat} : beatOk b = true ↔ lotF b.1 = none ∧ b.2 ∈ b.1 := by
  unfold beatOk
  rw [Bool.and_eq_true, Option.isNone_iff_eq_none, inD_str]
theorem sc_strs (L : List (List Nat)) : (L.map D.str).all D.sc = true := by
  rw [List.all_eq_true]
  intro d hd
  obtain ⟨c, _, rfl⟩ := List.mem_map.mp hd
  rfl
/-- the mark of a beat: - a g -/
def mkB (c : List Nat) (b : List (List Nat) × List Nat) : Nat := if c = b.2 then 103 else if c ∈ b.1 then 97 else 45
/-- the longest spell of marks, of which this one has lasted n beats -/
def spM : Nat → List Nat → Nat
  | n, [] => n
  | n, c :: r => if c = 45 then max n (spM 0 r) else if c = 103 then max (n + 1) (spM 0 r) else spM (n + 1) r
theorem spM_ge : ∀ (r : List Nat) (n : Nat), n ≤ spM n r
  | [], n => Nat.le_refl _
  | c :: r, n => by
    rw [spM]
    split
    · omega
    · split
      · omega
      · have := spM_ge r (n + 1); omega
theorem spM_le : ∀ (r : List Nat) (n : Nat), spM n r ≤ n + r.length
  | [], n => Nat.le_refl _
  | c :: r, n => by
    rw [spM, List.length_cons]
    have h0 := spM_le r 0
    have h1 := spM_le r (n + 1)
    split
    · omega
    · split <;> omega
/-! lots: ascending, of names -/
theorem lexL_trans {a b c : List Nat} (h : lexL a b = true) (g : lexL b c = true) : lexL a c = true := by
  rw [lexL_eq, decide_eq_true_iff] at h g ⊢
  exact List.lt_trans h g
theorem lexL_irrefl (a : List Nat) : lexL a a = false := by
  rw [lexL_eq]
  exact decide_eq_false (List.lt_irrefl a)
theorem lexL_asymm {a b : List Nat} (h : lexL a b = true) : lexL b a = false := by
  cases e : lexL b a with
  | false => rfl
  | true => have := lexL_trans h e; rw [lexL_irrefl] at this; cases this
theorem lexL_total {a b : List Nat} (h : lexL a b = false) (n : a ≠ b) : lexL b a = true := by
  rw [lexL_eq] at h ⊢
  have h := of_decide_eq_false h
  apply decide_eq_true
  rcases Decidable.em (b < a) with g | g
  · exact g
  · exact (n (List.le_antisymm g h)).elim
/-- strictly ascending -/
abbrev Asc (L : List (List Nat)) : Prop := L.Pairwise fun a b => lexL a b = true
theorem lotG_cons2 (p : Option (List Nat)) (i : Nat) (c : List Nat) (r : List (List Nat)) : lotG p i (c :: r) = if isNm c = false then some (.inl c) else if (match p with | some p => !lexL p c | none => false) = true then some (.inr i) else lotG (some c) (i + 1) r := by cases p <;> rfl
theorem lotG_none : ∀ {r : List (List Nat)} {c : List Nat} {i : Nat}, lotG (some c) i r = none ↔ (∀ d ∈ r, isNm d = true) ∧ Asc (c :: r)
  | [], _, _ => ⟨fun _ => ⟨nofun, List.pairwise_singleton _ _⟩, fun _ => rfl⟩
  | d :: r, c, i => by
    rw [lotG_cons2]
    by_cases h : isNm d = false
    · rw [if_pos h]
      exact ⟨nofun, fun g => by rw [g.1 d List.mem_cons_self] at h; cases h⟩
    · rw [if_neg h]
      have hd : isNm d = true := by simpa using h
      cases hl : lexL c d with
      | false =>
        show (if (!lexL c d) = true then _ else _) = none ↔ _
        rw [hl, if_pos (by decide)]
        exact ⟨nofun, fun g => by have := (List.pairwise_cons.mp g.2).1 d List.mem_cons_self; rw [hl] at this; cases this⟩
      | true =>
        show (if (!lexL c d) = true then _ else _) = none ↔ _
        rw [hl, if_neg (by decide), lotG_none]
        constructor
        · rintro ⟨g1, g2⟩
          refine ⟨fun e m => (List.mem_cons.mp m).elim (fun z => z ▸ hd) (g1 e), List.pairwise_cons.mpr ⟨fun e m => ?_, g2⟩⟩
          rcases List.mem_cons.mp m with rfl | m
          · exact hl
          · exact lexL_trans hl ((List.pairwise_cons.mp g2).1 e m)
        · rintro ⟨g1, g2⟩
          exact ⟨fun e m => g1 e (List.mem_cons_of_mem _ m), (List.pairwise_cons.mp g2).2⟩
theorem lot_iff {L : List (List Nat)} : lotF L = none ↔ L ≠ [] ∧ (∀ c ∈ L, isNm c = true) ∧ Asc L := by
  unfold lotF
  cases L with
  | nil => exact ⟨nofun, fun h => (h.1 rfl).elim⟩
  | cons c r =>
    rw [if_neg (by simp), lotG_cons2]
    by_cases h : isNm c = false
    · rw [if_pos h]
      exact ⟨nofun, fun g => by rw [g.2.1 c List.mem_cons_self] at h; cases h⟩
    · have hc : isNm c = true := by simpa using h
      rw [if_neg h]
      show (if false = true then _ else lotG (some c) 1 r) = none ↔ _
      rw [if_neg (by decide), lotG_none]
      exact ⟨fun g => ⟨by simp, fun d m => (List.mem_cons.mp m).elim (fun z => z ▸ hc) (g.1 d), g.2⟩, fun g => ⟨fun d m => g.2.1 d (List.mem_cons_of_mem _ m), g.2.2⟩⟩
theorem lot_sub {L S : List (List Nat)} (h : lotF L = none) (s : S.Sublist L) (n : S ≠ []) : lotF S = none := by
  obtain ⟨_, h1, h2⟩ := lot_iff.mp h
  exact lot_iff.mpr ⟨n, fun c m => h1 c (s.subset m), h2.sublist s⟩
theorem asc_nodup {L : List (List Nat)} (h : Asc L) : L.Nodup := h.imp fun {a b} g e => by rw [e, lexL_irrefl] at g; cases g
/-- sorted and without doubles -/
theorem srt_asc : ∀ {L : List (List Nat)}, srtL L = true → L.Nodup → Asc L
  | [], _, _ => .nil
  | [_], _, _ => List.pairwise_singleton _ _
  | x :: y :: r, h, n => by
    obtain ⟨h1, h2⟩ := Bool.and_eq_true_iff.mp (show (!lexL y x && srtL (y :: r)) = true from h)
    obtain ⟨n1, n2⟩ := List.nodup_cons.mp n
    have ih := srt_asc h2 n2
    have hxy : lexL x y = true := lexL_total (by simpa using h1) (fun z => n1 (z ▸ List.mem_cons_self))
    refine List.pairwise_cons.mpr ⟨fun e m => ?_, ih⟩
    rcases List.mem_cons.mp m with rfl | m
    · exact hxy
    · exact lexL_trans hxy ((List.pairwise_cons.mp ih).1 e m)
theorem lotG_app : ∀ (X : List (List Nat)) (p : Option (List Nat)) (i : Nat) (Y : List (List Nat)), (∀ c ∈ X, isNm c = true) → Asc (p.toList ++ X) → lotG p i (X ++ Y) = lotG (X.getLast?.or p) (i + X.length) Y
  | [], p, i, Y, _, _ => by simp
  | c :: r, p, i, Y, h, g => by
    rw [List.cons_append, lotG_cons2, if_neg (by rw [h c List.mem_cons_self]; decide)]
    have e : ∀ p', p = some p' → lexL p' c = true := by
      rintro p' rfl
      exact (List.pairwise_cons.mp (show Asc (p' :: c :: r) from g)).1 c List.mem_cons_self
    rw [if_neg (by cases p with
      | none => exact Bool.noConfusion
      | some p => show ¬ (!lexL p c) = true; rw [e p rfl]; decide)]
    have g2 : Asc (c :: r) := by
      cases p with
      | none => exact g
      | some p => exact (List.pairwise_cons.mp (show Asc (p :: c :: r) from g)).2
    have ih := lotG_app r (some c) (i + 1) Y (fun d m => h d (List.mem_cons_of_mem _ m)) g2
    rw [ih, List.length_cons, show i + 1 + r.length = i + (r.length + 1) by omega]
    congr 1
    cases r with
    | nil => rfl
    | cons d s => rw [List.getLast?_cons_cons]; cases h3 : (d :: s).getLast? with
      | none => simp at h3
      | some z => rfl
theorem lotF_app {X Y : List (List Nat)} (h : ∀ c ∈ X, isNm c = true) (g : Asc X) (n : X ++ Y ≠ []) : lotF (X ++ Y) = lotG X.getLast? X.length Y := by
  unfold lotF
  rw [if_neg n, lotG_app X none 0 Y h g, Nat.zero_add, Option.or_none]
theorem lotF_nm {X r : List (List Nat)} {c : List Nat} (h : ∀ c ∈ X, isNm c = true) (g : Asc X) (n : isNm c = false) : lotF (X ++ c :: r) = some (.inl c) := by
  rw [lotF_app h g (by simp), lotG_cons2, if_pos n]
theorem lotF_or {X r : List (List Nat)} {p c : List Nat} (h : ∀ c ∈ X, isNm c = true) (g : Asc X) (l : X.getLast? = some p) (n : isNm c = true) (o : lexL p c = false) : lotF (X ++ c :: r) = some (.inr X.length) := by
  rw [lotF_app h g (by simp), l, lotG_cons2, if_neg (by rw [n]; decide)]
  show (if (!lexL p c) = true then _ else _) = _
  rw [o, if_pos (by decide)]
theorem plsStrs : ∀ L : List (List Nat), Pls L.length (L.map D.str)
  | [] => .nil
  | c :: r => by rw [List.length_cons, Nat.add_comm]; exact .cons (.str c) (plsStrs r)
theorem pls_map {α : Type} (f : α → D) (k : Nat) : ∀ L : List α, (∀ a ∈ L, ∃ n, n ≤ k ∧ Pl n (f a)) → ∃ n, n ≤ k * L.length ∧ Pls n (L.map f)
  | [], _ => ⟨0, Nat.zero_le _, .nil⟩
  | a :: r, h => by
    obtain ⟨n, h1, h2⟩ := h a List.mem_cons_self
    obtain ⟨m, g1, g2⟩ := pls_map f k r fun b m => h b (List.mem_cons_of_mem _ m)
    exact ⟨n + m, by rw [List.length_cons, Nat.mul_succ]; omega, .cons h2 g2⟩
/-- lines of a law -/
structure LotL (L : List (List Nat)) : Prop where
  ok : lotF L = none
  le : L.length ≤ 24
theorem LotL.ne {L : List (List Nat)} (h : LotL L) : L ≠ [] := (lot_iff.mp h.ok).1
theorem LotL.nm {L : List (List Nat)} (h : LotL L) : ∀ c ∈ L, isNm c = true := (lot_iff.mp h.ok).2.1
theorem LotL.asc {L : List (List Nat)} (h : LotL L) : Asc L := (lot_iff.mp h.ok).2.2
/-- a good log over lines -/
structure GoodP (P : List (List (List Nat) × List Nat)) (L : List (List Nat)) : Prop where
  le : P.length ≤ 300
  ok : ∀ b ∈ P, beatOk b = true ∧ b.1.Sublist L
theorem GoodP.logF {P : List (List (List Nat) × List Nat)} {L : List (List Nat)} (h : GoodP P L) {i : Nat} : LW.logF i P = none := logF_all.mpr fun b m => (h.ok b m).1
theorem nm_big {c : List Nat} (h : isNm c = true) : c.length ≤ big := by have := (nm_len h).2; rw [big_eq]; omega
theorem beat_nm {b : List (List Nat) × List Nat} (h : beatOk b = true) : (∀ c ∈ b.1, isNm c = true) ∧ b.2 ∈ b.1 := by
  obtain ⟨h1, h2⟩ := beatOk_iff.mp h
  exact ⟨(lot_iff.mp h1).2.1, h2⟩
theorem GoodP.bd {P : List (List (List Nat) × List Nat)} {L : List (List Nat)} (h : GoodP P L) (hL : LotL L) : ∀ b ∈ P, b.1.length ≤ 1000 ∧ ∀ c ∈ b.1, c.length ≤ big := fun b m => by
  obtain ⟨h1, h2⟩ := h.ok b m
  exact ⟨by have := h2.length_le; have := hL.le; omega, fun c hc => nm_big ((beat_nm h1).1 c hc)⟩
theorem GoodP.pl {P : List (List (List Nat) × List Nat)} {L : List (List Nat)} (h : GoodP P L) (hL : LotL L) : ∃ n, n ≤ 30 * P.length + 1 ∧ Pl n (.tup (P.map beatD)) := by
  have hb : ∀ b ∈ P, ∃ n, n ≤ 30 ∧ Pl n (beatD b) := fun b m => by
    have := (h.ok b m).2.length_le
    have := hL.le
    exact ⟨_, by omega, .tup (.cons (.tup (plsStrs b.1)) (.cons (.str b.2) .nil))⟩
  obtain ⟨n, h1, h2⟩ := pls_map beatD 30 P hb
  exact ⟨n + 1, by omega, .tup h2⟩
theorem GoodP.logX {P : List (List (List Nat) × List Nat)} {L : List (List Nat)} (h : GoodP P L) (hL : LotL L) {A : Ah} {x : AX} {G : Prop} (g : G) : LogX P A x G :=
  ⟨by have := h.le; omega, h.bd hL, fun z => by have := h.le; omega, fun _ _ => g, fun _ i z => by rw [h.logF] at z; cases z⟩
/-- the first fault of a lot of known lines -/
def lowP (p : Option (List Nat)) (c : List Nat) : Bool := match p with | some p => !lexL p c | none => false
def knoG (K : List (List Nat)) : Option (List Nat) → Nat → List (List Nat) → Option (Sum (List Nat) Nat)
  | _, _, [] => none
  | p, i, c :: r => if c ∉ K then some (.inl c) else if lowP p c = true then some (.inr i) else knoG K (some c) (i + 1) r
def knoF (K L : List (List Nat)) : Option (Sum (List Nat) Nat) := if L = [] then some (.inr 0) else knoG K none 0 L
theorem knoG_cons (K : List (List Nat)) (p : Option (List Nat)) (i : Nat) (c : List Nat) (r : List (List Nat)) : knoG K p i (c :: r) = if c ∉ K then some (.inl c) else if lowP p c = true then some (.inr i) else knoG K (some c) (i + 1) r := by cases p <;> rfl
/-- what checking lines owes -/
def LinesX (L : List (List Nat)) (m : Int) (A : Ah) (x : AX) (G : Prop) : Prop := L.length ≤ 100000 ∧ (∀ c ∈ L, c.length ≤ big) ∧
  (L = [] → ∀ d A', Ext A A' → A' d = some (.xd [("at", .int 0)]) → x ⟨"BadLot", d⟩ A') ∧
  (L ≠ [] → m < L.length → ∀ d A', Ext A A' → A' d = some (.xd [("limit", .int m), ("what", .str (tl "lines"))]) → x ⟨"TooMany", d⟩ A') ∧
  (L ≠ [] → (L.length : Int) ≤ m → (lotF L = none → G) ∧ (∀ cs, lotF L = some (.inl cs) → ∀ d A', Ext A A' → A' d = some (.xd [("name", .str cs)]) → x ⟨"BadName", d⟩ A') ∧ (∀ i, lotF L = some (.inr i) → ∀ d A', Ext A A' → A' d = some (.xd [("at", .int (i : Nat))]) → x ⟨"BadLot", d⟩ A'))
/-- lots of a mask, of a size -/
def pkL : List (List Nat) → Nat → List (List Nat)
  | [], _ => []
  | c :: r, m => if m % 2 = 1 then c :: pkL r (m / 2) else pkL r (m / 2)
def mkL (S : List (List Nat)) : List (List Nat) → Nat
  | [] => 0
  | c :: r => (if c ∈ S then 1 else 0) + 2 * mkL S r
def plL (L : List (List Nat)) : Nat → List (List (List Nat) × Nat)
  | 0 => [([], 0)]
  | k + 1 => (plL L k).flatMap fun p => (List.range (L.length - p.2)).map fun j => (p.1 ++ [L.getD (p.2 + j) []], p.2 + j + 1)
theorem pk_sub : ∀ (L : List (List Nat)) (m : Nat), (pkL L m).Sublist L
  | [], _ => .slnil
  | c :: r, m => by
    rw [pkL]
    split
    · exact (pk_sub r _).cons₂ c
    · exact (pk_sub r _).cons c
/-- the first beat whose line is not in its request -/
def zipF : Nat → List (List (List Nat)) → List (List Nat) → Option Nat
  | i, L :: R, w :: W => if w ∈ L then zipF (i + 1) R W else some i
  | _, _, _ => none
/-! good rows, words, logs -/
theorem rowF_none : ∀ {R : List (List (List Nat))}, rowF R = none ↔ ∀ L ∈ R, lotF L = none
  | [] => ⟨fun _ => nofun, fun _ => rfl⟩
  | L :: R => by
    rw [rowF]
    cases h : lotF L with
    | some f => exact ⟨nofun, fun g => by have := g L List.mem_cons_self; rw [h] at this; cases this⟩
    | none => exact ⟨fun g M m => (List.mem_cons.mp m).elim (fun e => e ▸ h) (rowF_none.mp g M), fun g => rowF_none.mpr fun M m => g M (List.mem_cons_of_mem _ m)⟩
theorem wordF_none {W : List (List Nat)} : wordF W = none ↔ ∀ c ∈ W, isNm c = true := by
  unfold wordF
  rw [List.find?_eq_none]
  exact ⟨fun h c m => by simpa using h c m, fun h c m => by simp [h c m]⟩
theorem zipF_good : ∀ {P : List (List (List Nat) × List Nat)} {i : Nat}, (∀ b ∈ P, beatOk b = true) → zipF i (P.map (·.1)) (P.map (·.2)) = none
  | [], _, _ => rfl
  | b :: r, i, h => by
    show (if b.2 ∈ b.1 then zipF (i + 1) (r.map (·.1)) (r.map (·.2)) else some i) = none
    rw [if_pos (beatOk_iff.mp (h b List.mem_cons_self)).2]
    exact zipF_good fun c m => h c (List.mem_cons_of_mem _ m)
theorem zip_back : ∀ P : List (List (List Nat) × List Nat), (P.map (·.1)).zip (P.map (·.2)) = P
  | [] => rfl
  | b :: r => by
    show (b.1, b.2) :: (r.map (·.1)).zip (r.map (·.2)) = _
    rw [zip_back r]
theorem good_row {P : List (List (List Nat) × List Nat)} {L : List (List Nat)} (h : GoodP P L) : rowF (P.map (·.1)) = none := rowF_none.mpr fun M m => by
  obtain ⟨b, hb, rfl⟩ := List.mem_map.mp m
  exact (beatOk_iff.mp (h.ok b hb).1).1
theorem good_word {P : List (List (List Nat) × List Nat)} {L : List (List Nat)} (h : GoodP P L) : wordF (P.map (·.2)) = none := wordF_none.mpr fun c m => by
  obtain ⟨b, hb, rfl⟩ := List.mem_map.mp m
  obtain ⟨h1, h2⟩ := beat_nm (h.ok b hb).1
  exact h1 _ h2
theorem good_rowpl {P : List (List (List Nat) × List Nat)} {L : List (List Nat)} (h : GoodP P L) (hL : LotL L) : ∃ n, n < 400000 ∧ Pl n (.tup (rowD (P.map (·.1)))) := by
  have hb : ∀ b ∈ P.map (·.1), ∃ n, n ≤ 30 ∧ Pl n (D.tup (b.map D.str)) := fun b m => by
    obtain ⟨b, hb, rfl⟩ := List.mem_map.mp m
    have := (h.ok b hb).2.length_le
    have := hL.le
    exact ⟨_, by omega, .tup (plsStrs b.1)⟩
  obtain ⟨n, h1, h2⟩ := pls_map (fun L => D.tup (L.map D.str)) 30 (P.map (·.1)) hb
  have := h.le
  rw [List.length_map] at h1
  exact ⟨n + 1, by omega, .tup h2⟩
theorem lc_row {P : List (List (List Nat) × List Nat)} {L : List (List Nat)} (hP : GoodP P L) {A : Ah} {v : Nat} {Γ : Gt} {q : D → Ah → Prop} (hv : v < Γ.length) (h : ∀ p A', Ext A A' → A' p = some (.lst (rowD (P.map (·.1)))) → q (.ref p) A') :
    lcR ⟨none, (P.map beatD).length, fun i => (P.map beatD).getD i .non⟩ A (agName v) aYes (aOp aIx (aVar v) (aC (.int 0))) [v] Γ q := by
  refine lc_of (it := ⟨none, (P.map beatD).length, fun i => (P.map beatD).getD i .non⟩) (fun i => match (P.map beatD).getD i .non with | .tup [a, _] => a | _ => .non) rfl (by show (P.map beatD).length ≤ big; rw [List.length_map, big_eq]; have := hP.le; omega) (fun i A' k sk hi e hk => ?_) (fun p hp => ?_)
  · have hi : i < P.length := by rw [show _ = (P.map beatD).length from rfl, List.length_map] at hi; exact hi
    have hk : k (match (P.map beatD).getD i .non with | .tup [a, _] => a | _ => .non) A' := hk
    show agName v ((P.map beatD).getD i .non) _ _ _
    rw [map_getD _ hi] at hk ⊢
    generalize P[i] = b at hk ⊢
    obtain ⟨b1, b2⟩ := b
    have hset : ((wipeG Γ [v]).set v (some (beatD (b1, b2))))[v]? = some (some (beatD (b1, b2))) := by
      rw [List.getElem?_set_self]
      show v < ((wipeG Γ []).set v none).length
      rw [List.length_set]; exact hv
    show bsel true _ _
    refine ⟨fun _ => ?_, fun z => Bool.noConfusion z⟩
    show aVar v ((wipeG Γ [v]).set v (some (beatD (b1, b2)))) A' _ _
    unfold aVar
    rw [hset]
    exact ⟨_, atI_zero', hk⟩
  · have : (List.range (P.map beatD).length).map (fun i => match (P.map beatD).getD i .non with | .tup [a, _] => a | _ => .non) = rowD (P.map (·.1)) := by
      rw [map_range_getD beatD (fun d => match d with | .tup [a, _] => a | _ => .non)]
      unfold rowD
      rw [List.map_map]
      rfl
    exact h p _ (.new hp) (by rw [updA_same]; exact congrArg (fun z => some (Cell.lst z)) this)
theorem lc_word {P : List (List (List Nat) × List Nat)} {L : List (List Nat)} (hP : GoodP P L) {A : Ah} {v : Nat} {Γ : Gt} {q : D → Ah → Prop} (hv : v < Γ.length) (h : ∀ p A', Ext A A' → A' p = some (.lst ((P.map (·.2)).map D.str)) → q (.ref p) A') :
    lcR ⟨none, (P.map beatD).length, fun i => (P.map beatD).getD i .non⟩ A (agName v) aYes (aOp aIx (aVar v) (aC (.int 1))) [v] Γ q := by
  refine lc_of (it := ⟨none, (P.map beatD).length, fun i => (P.map beatD).getD i .non⟩) (fun i => match (P.map beatD).getD i .non with | .tup [_, a] => a | _ => .non) rfl (by show (P.map beatD).length ≤ big; rw [List.length_map, big_eq]; have := hP.le; omega) (fun i A' k sk hi e hk => ?_) (fun p hp => ?_)
  · have hi : i < P.length := by rw [show _ = (P.map beatD).length from rfl, List.length_map] at hi; exact hi
    have hk : k (match (P.map beatD).getD i .non with | .tup [_, a] => a | _ => .non) A' := hk
    show agName v ((P.map beatD).getD i .non) _ _ _
    rw [map_getD _ hi] at hk ⊢
    generalize P[i] = b at hk ⊢
    obtain ⟨b1, b2⟩ := b
    have hset : ((wipeG Γ [v]).set v (some (beatD (b1, b2))))[v]? = some (some (beatD (b1, b2))) := by
      rw [List.getElem?_set_self]
      show v < ((wipeG Γ []).set v none).length
      rw [List.length_set]; exact hv
    show bsel true _ _
    refine ⟨fun _ => ?_, fun z => Bool.noConfusion z⟩
    show aVar v ((wipeG Γ [v]).set v (some (beatD (b1, b2)))) A' _ _
    unfold aVar
    rw [hset]
    exact ⟨_, atI_one', hk⟩
  · have : (List.range (P.map beatD).length).map (fun i => match (P.map beatD).getD i .non with | .tup [_, a] => a | _ => .non) = (P.map (·.2)).map D.str := by
      rw [map_range_getD beatD (fun d => match d with | .tup [_, a] => a | _ => .non)]
      rw [List.map_map]
      rfl
    exact h p _ (.new hp) (by rw [updA_same]; exact congrArg (fun z => some (Cell.lst z)) this)
theorem due1 (s : String) (d : D) (h : Pl 1 d) : Pl 4 (.tup [.str (tl s), .tup [d]]) := .tup (.cons (n := 1) (.str _) (.cons (n := 2) (m := 0) (.tup (.cons (n := 1) (m := 0) h .nil)) .nil))
theorem due2 (s : String) (d e : D) (h : Pl 1 d) (g : Pl 1 e) : Pl 5 (.tup [.str (tl s), .tup [d, e]]) := .tup (.cons (n := 1) (.str _) (.cons (n := 3) (m := 0) (.tup (.cons (n := 1) h (.cons (n := 1) (m := 0) g .nil))) .nil))
/-! tables of numbers -/
def accS (xs ys : List Int) (m : Nat) : Nat → Int
  | 0 => 0
  | p + 1 => accS xs ys m p + xs.getD (p + 1) 0 * ys.getD (m - (p + 1)) 0
def fcN : Nat → Nat
  | 0 => 1
  | n + 1 => fcN n * (n + 1)
def Sm1 (v : Int) : Prop := -1000000000000000000000000000000 ≤ v ∧ v ≤ 1000000000000000000000000000000
instance (v : Int) : Decidable (Sm1 v) := by unfold Sm1; infer_instance
theorem Sm1.ok {v : Int} (h : Sm1 v) : SmallI v := small128 (by have := h.1; omega) (by have := h.2; omega)
theorem getD_int {L : List Int} {i : Nat} (h : i < L.length) : L2.atI (L.map D.int) (i : Int) = some (.int (L.getD i 0)) := by
  rw [atI_map D.int h, List.getD_eq_getElem?_getD, List.getElem?_eq_getElem h]; rfl
theorem getD_mem' {L : List Int} {i : Nat} (h : i < L.length) : L.getD i 0 ∈ L := by
  rw [List.getD_eq_getElem?_getD, List.getElem?_eq_getElem h]
  exact List.getElem_mem h
theorem sum_acc (xs ys : List Int) (m : Nat) : ∀ n : Nat, ((List.range n).map fun k => xs.getD (1 + k) 0 * ys.getD (m - (1 + k)) 0).sum = accS xs ys m n
  | 0 => rfl
  | n + 1 => by
    rw [List.range_succ, List.map_append, List.sum_append, sum_acc xs ys m n, accS]
    simp [Nat.add_comm]
/-! bad lines, and what is due of them -/
def BadL (B : List (List Nat)) (m : Nat) (w : List Nat) (v : D) : Prop :=
  (B = [] ∧ w = tl "BadLot" ∧ v = .tup [.int 0]) ∨ (B ≠ [] ∧ m < B.length ∧ w = tl "TooMany" ∧ v = .tup [.str (tl "lines"), .int m]) ∨
  (B ≠ [] ∧ B.length ≤ m ∧ ∃ cs, lotF B = some (.inl cs) ∧ w = tl "BadName" ∧ v = .tup [.str cs]) ∨ (B ≠ [] ∧ B.length ≤ m ∧ ∃ i : Nat, lotF B = some (.inr i) ∧ w = tl "BadLot" ∧ v = .tup [.int i])
theorem dup_lot {L : List (List Nat)} (h : lotF L = none) {a : Nat} (ha : a < L.length) (Y : List (List Nat)) : lotF (L.take (a + 1) ++ L[a] :: Y) = some (.inr (a + 1)) := by
  obtain ⟨_, hn, hA⟩ := lot_iff.mp h
  have := lotF_or (X := L.take (a + 1)) (r := Y) (fun c m => hn c (List.mem_of_mem_take m)) (hA.sublist (List.take_sublist _ L)) (p := L[a]) (c := L[a]) (by rw [List.take_succ, List.getElem?_eq_getElem ha]; exact List.getLast?_concat) (hn _ (List.getElem_mem ha)) (lexL_irrefl _)
  rw [this, List.length_take]
  congr 2
  omega
theorem swap_lot {L : List (List Nat)} (h : lotF L = none) {b : Nat} (hb1 : 1 ≤ b) (hb : b < L.length) (Y : List (List Nat)) : lotF ((L.take (b - 1) ++ [L[b]]) ++ L[b - 1] :: Y) = some (.inr b) := by
  obtain ⟨_, hn, hA⟩ := lot_iff.mp h
  have hsub : (L.take (b - 1) ++ [L[b]]).Sublist L := by
    have h1 : L = L.take (b - 1) ++ L.drop (b - 1) := (List.take_append_drop _ _).symm
    have h3 : [L[b]].Sublist (L.drop (b - 1)) := by
      rw [List.singleton_sublist, List.mem_iff_getElem]
      exact ⟨1, by rw [List.length_drop]; omega, by rw [List.getElem_drop]; congr 1; omega⟩
    have h4 := (List.Sublist.refl (L.take (b - 1))).append h3
    rw [← h1] at h4
    exact h4
  have hlt : lexL L[b - 1] L[b] = true := (List.pairwise_iff_getElem.mp hA) (b - 1) b (by omega) hb (by omega)
  have := lotF_or (X := L.take (b - 1) ++ [L[b]]) (r := Y) (fun c m => hn c (hsub.subset m)) (hA.sublist hsub) (p := L[b]) (c := L[b - 1]) List.getLast?_concat (hn _ (List.getElem_mem _)) (lexL_asymm hlt)
  rw [this, List.length_append, List.length_take, List.length_singleton]
  congr 2
  omega
theorem swap_cat {L : List (List Nat)} {b : Nat} (hb : b < L.length) (hb1 : b - 1 < L.length) : ((L.take (b - 1)).map D.str ++ [D.str L[b], .str L[b - 1]] ++ (L.drop (b + 1)).map D.str) = ((L.take (b - 1) ++ [L[b]]) ++ L[b - 1] :: L.drop (b + 1)).map D.str := by simp
theorem ins_lot {L : List (List Nat)} (h : lotF L = none) (a : Nat) {bad : List Nat} (hb : isNm bad = false) (Y : List (List Nat)) : lotF (L.take a ++ bad :: Y) = some (.inl bad) := by
  obtain ⟨_, hn, hA⟩ := lot_iff.mp h
  exact lotF_nm (fun c m => hn c (List.mem_of_mem_take m)) (hA.sublist (List.take_sublist _ L)) hb
theorem decN_200 : ∀ k : Nat, k < 200 → (decN k).length ≤ 3 := by decide +kernel
theorem linesX_good {L : List (List Nat)} (h : lotF L = none) {m : Nat} (hm : L.length ≤ m) (h24 : L.length ≤ 24) {A : Ah} {x : AX} {G : Prop} (g : G) : LinesX L m A x G := by
  obtain ⟨hne, hnm, _⟩ := lot_iff.mp h
  exact ⟨by omega, fun c hc => nm_big (hnm c hc), fun z => (hne z).elim, fun _ z => by omega, fun _ _ => ⟨fun _ => g, fun cs z => (by rw [h] at z; cases z), fun i z => (by rw [h] at z; cases z)⟩⟩
/-- what bad lines owe -/
theorem linesX_bad {B : List (List Nat)} {m : Nat} {w : List Nat} {v : D} (h : BadL B m w v) (h60 : B.length ≤ 60) (hb : ∀ c ∈ B, c.length ≤ 14) {A : Ah} {x : AX} {G : Prop}
    (hx : ∀ cls fs d A', Ext A A' → A' d = some (.xd fs) → ((cls = "BadLot" ∧ ∃ v0, fs = [(Str.ofString "at", v0)] ∧ w = tl "BadLot" ∧ v = .tup [v0]) ∨ (cls = "TooMany" ∧ ∃ v0 v1, fs = [(Str.ofString "limit", v1), (Str.ofString "what", v0)] ∧ w = tl "TooMany" ∧ v = .tup [v0, v1]) ∨ (cls = "BadName" ∧ ∃ v0, fs = [(Str.ofString "name", v0)] ∧ w = tl "BadName" ∧ v = .tup [v0])) → x ⟨cls, d⟩ A') : LinesX B m A x G := by
  refine ⟨by omega, fun c hc => by have := hb c hc; rw [big_eq]; omega, fun z d A' e1 e2 => ?_, fun z z1 d A' e1 e2 => ?_, fun z z1 => ⟨fun z2 => ?_, fun cs z2 d A' e1 e2 => ?_, fun i z2 d A' e1 e2 => ?_⟩⟩
  · rcases h with ⟨_, rfl, rfl⟩ | ⟨h1, _⟩ | ⟨h1, _⟩ | ⟨h1, _⟩
    · exact hx _ _ d A' e1 e2 (.inl ⟨rfl, _, rfl, rfl, rfl⟩)
    all_goals exact (h1 z).elim
  · rcases h with ⟨h1, _⟩ | ⟨_, _, rfl, rfl⟩ | ⟨_, h1, _⟩ | ⟨_, h1, _⟩
    · exact (z h1).elim
    · exact hx _ _ d A' e1 e2 (.inr (.inl ⟨rfl, _, _, rfl, rfl, rfl⟩))
    all_goals omega
  · rcases h with ⟨h1, _⟩ | ⟨_, h1, _⟩ | ⟨_, _, c, h1, _⟩ | ⟨_, _, c, h1, _⟩
    · exact (z h1).elim
    · omega
    all_goals (rw [z2] at h1; cases h1)
  · rcases h with ⟨h1, _⟩ | ⟨_, h1, _⟩ | ⟨_, _, c, h1, rfl, rfl⟩ | ⟨_, _, c, h1, _⟩
    · exact (z h1).elim
    · omega
    · rw [z2] at h1
      cases h1
      exact hx _ _ d A' e1 e2 (.inr (.inr ⟨rfl, _, rfl, rfl, rfl⟩))
    · rw [z2] at h1; cases h1
  · rcases h with ⟨h1, _⟩ | ⟨_, h1, _⟩ | ⟨_, _, c, h1, _⟩ | ⟨_, _, c, h1, rfl, rfl⟩
    · exact (z h1).elim
    · omega
    · rw [z2] at h1; cases h1
    · rw [z2] at h1
      cases h1
      exact hx _ _ d A' e1 e2 (.inl ⟨rfl, _, rfl, rfl, rfl⟩)
theorem knoG_app {K : List (List Nat)} : ∀ (X : List (List Nat)) (p : Option (List Nat)) (i : Nat) (Y : List (List Nat)), (∀ c ∈ X, c ∈ K) → Asc (p.toList ++ X) → knoG K p i (X ++ Y) = knoG K (X.getLast?.or p) (i + X.length) Y
  | [], p, i, Y, _, _ => by simp
  | c :: r, p, i, Y, h, g => by
    rw [List.cons_append, knoG_cons, if_neg (fun z => z (h c List.mem_cons_self))]
    have e : ∀ p', p = some p' → lexL p' c = true := by
      rintro p' rfl
      exact (List.pairwise_cons.mp (show Asc (p' :: c :: r) from g)).1 c List.mem_cons_self
    have e2 : lowP p c = false := by
      cases p with
      | none => rfl
      | some p => show (!lexL p c) = false; rw [e p rfl]; rfl
    rw [e2, if_neg Bool.false_ne_true]
    have g2 : Asc (c :: r) := by
      cases p with
      | none => exact g
      | some p => exact (List.pairwise_cons.mp (show Asc (p :: c :: r) from g)).2
    have ih := knoG_app r (some c) (i + 1) Y (fun d m => h d (List.mem_cons_of_mem _ m)) g2
    rw [ih, List.length_cons, show i + 1 + r.length = i + (r.length + 1) by omega]
    congr 1
    cases r with
    | nil => rfl
    | cons d s => rw [List.getLast?_cons_cons]; cases h3 : (d :: s).getLast? with
      | none => simp at h3
      | some z => rfl
theorem knoF_app {K X Y : List (List Nat)} (h : ∀ c ∈ X, c ∈ K) (g : Asc X) (n : X ++ Y ≠ []) : knoF K (X ++ Y) = knoG K X.getLast? X.length Y := by
  unfold knoF
  rw [if_neg n, knoG_app X none 0 Y h g, Nat.zero_add, Option.or_none]
theorem knoF_in {K X r : List (List Nat)} {c : List Nat} (h : ∀ c ∈ X, c ∈ K) (g : Asc X) (n : c ∉ K) : knoF K (X ++ c :: r) = some (.inl c) := by
  rw [knoF_app h g (by simp), knoG_cons, if_pos n]
theorem knoF_or {K X r : List (List Nat)} {p c : List Nat} (h : ∀ c ∈ X, c ∈ K) (g : Asc X) (l : X.getLast? = some p) (n : c ∈ K) (o : lexL p c = false) : knoF K (X ++ c :: r) = some (.inr X.length) := by
  have e : lowP (some p) c = true := by show (!lexL p c) = true; rw [o]; rfl
  rw [knoF_app h g (by simp), l, knoG_cons, if_neg (fun z => z n), if_pos e]
theorem dup_kno {K L : List (List Nat)} (h : ∀ c ∈ L, c ∈ K) (hA : Asc L) {a : Nat} (ha : a < L.length) (Y : List (List Nat)) : knoF K (L.take (a + 1) ++ L[a] :: Y) = some (.inr (a + 1)) := by
  have := knoF_or (K := K) (X := L.take (a + 1)) (r := Y) (fun c m => h c (List.mem_of_mem_take m)) (hA.sublist (List.take_sublist _ L)) (p := L[a]) (c := L[a]) (by rw [List.take_succ, List.getElem?_eq_getElem ha]; exact List.getLast?_concat) (h _ (List.getElem_mem ha)) (lexL_irrefl _)
  rw [this, List.length_take]
  congr 2
  omega
theorem swap_kno {K L : List (List Nat)} (h : ∀ c ∈ L, c ∈ K) (hA : Asc L) {b : Nat} (hb1 : 1 ≤ b) (hb : b < L.length) (Y : List (List Nat)) : knoF K ((L.take (b - 1) ++ [L[b]]) ++ L[b - 1] :: Y) = some (.inr b) := by
  have hsub : (L.take (b - 1) ++ [L[b]]).Sublist L := by
    have h1 : L = L.take (b - 1) ++ L.drop (b - 1) := (List.take_append_drop _ _).symm
    have h3 : [L[b]].Sublist (L.drop (b - 1)) := by
      rw [List.singleton_sublist, List.mem_iff_getElem]
      exact ⟨1, by rw [List.length_drop]; omega, by rw [List.getElem_drop]; congr 1; omega⟩
    have h4 := (List.Sublist.refl (L.take (b - 1))).append h3
    rw [← h1] at h4
    exact h4
  have hlt : lexL L[b - 1] L[b] = true := (List.pairwise_iff_getElem.mp hA) (b - 1) b (by omega) hb (by omega)
  have := knoF_or (K := K) (X := L.take (b - 1) ++ [L[b]]) (r := Y) (fun c m => h c (hsub.subset m)) (hA.sublist hsub) (p := L[b]) (c := L[b - 1]) List.getLast?_concat (h _ (List.getElem_mem _)) (lexL_asymm hlt)
  rw [this, List.length_append, List.length_take, List.length_singleton]
  congr 2
  omega
theorem pk_ne : ∀ {L : List (List Nat)} {m : Nat}, 0 < m → m < 2 ^ L.length → pkL L m ≠ []
  | [], m, h, g => by have : m < 1 := g; omega
  | c :: r, m, h, g => by
    rw [List.length_cons, Nat.pow_succ] at g
    rw [pkL]
    by_cases e : m % 2 = 1
    · rw [if_pos e]; exact nofun
    · rw [if_neg e]; exact pk_ne (by omega) (by omega)
theorem pow24p : ∀ k : Nat, k ≤ 24 → 2 ^ k ≤ 16777216 := by decide +kernel
theorem mk_congr {S T : List (List Nat)} : ∀ {L : List (List Nat)}, (∀ c ∈ L, c ∈ S ↔ c ∈ T) → mkL S L = mkL T L
  | [], _ => rfl
  | c :: r, h => by
    rw [mkL, mkL, mk_congr fun d m => h d (List.mem_cons_of_mem _ m)]
    congr 1
    by_cases e : c ∈ S
    · rw [if_pos e, if_pos ((h c List.mem_cons_self).mp e)]
    · rw [if_neg e, if_neg fun z => e ((h c List.mem_cons_self).mpr z)]
theorem mk_pk : ∀ {L : List (List Nat)} {m : Nat}, L.Nodup → m < 2 ^ L.length → mkL (pkL L m) L = m
  | [], m, _, h => by have : m < 1 := h; show 0 = m; omega
  | c :: r, m, hn, h => by
    rw [List.length_cons, Nat.pow_succ] at h
    obtain ⟨h1, h2⟩ := List.nodup_cons.mp hn
    have hc : c ∉ pkL r (m / 2) := fun z => h1 ((pk_sub r _).subset z)
    have ih := mk_pk (L := r) (m := m / 2) h2 (by omega)
    rw [mkL]
    by_cases e : m % 2 = 1
    · have e1 : pkL (c :: r) m = c :: pkL r (m / 2) := by rw [pkL, if_pos e]
      rw [e1, if_pos List.mem_cons_self, mk_congr (S := c :: pkL r (m / 2)) (T := pkL r (m / 2)) fun d hd => ?_, ih]
      · omega
      · exact ⟨fun z => (List.mem_cons.mp z).elim (fun z => (h1 (z ▸ hd)).elim) id, fun z => List.mem_cons_of_mem _ z⟩
    · have e1 : pkL (c :: r) m = pkL r (m / 2) := by rw [pkL, if_neg e]
      rw [e1, if_neg hc, ih]
      omega
theorem kno_good {K S : List (List Nat)} (h : ∀ c ∈ S, c ∈ K) (hA : Asc S) (hn : S ≠ []) : knoF K S = none := by
  have := knoF_app (K := K) (X := S) (Y := []) h hA (by simpa using hn)
  rw [List.append_nil] at this
  rw [this]; rfl
/-! plain data: flat, equal to itself -/
theorem range_filter {α β : Type} (p : α → Bool) (g : α → β) (d : α) : ∀ L : List α, ((List.range L.length).filter fun i => p (L.getD i d)).map (fun i => g (L.getD i d)) = (L.filter p).map g := by
  intro L
  have h : (List.range L.length).map (fun i => L.getD i d) = L := by
    apply List.ext_getElem
    · simp
    · intro i h1 h2
      simp [List.getElem?_eq_getElem h2]
  have : L.filter p = ((List.range L.length).map fun i => L.getD i d).filter p := by rw [h]
  rw [this, List.filter_map, List.map_map]
  rfl
theorem range_map {α β : Type} (g : α → β) (d : α) (L : List α) : (List.range L.length).map (fun i => g (L.getD i d)) = L.map g := by
  apply List.ext_getElem
  · simp
  · intro i h1 h2
    simp only [List.length_map, List.length_range] at h1
    simp [List.getElem?_eq_getElem h1]
theorem wordF_app : ∀ {X : List (List Nat)} {c : List Nat} {r : List (List Nat)}, (∀ d ∈ X, isNm d = true) → isNm c = false → wordF (X ++ c :: r) = some c := by
  intro X c r g h
  unfold wordF
  rw [List.find?_append, (List.find?_eq_none (l := X)).mpr fun d m => by simp [g d m], Option.none_or, List.find?_cons, h]
  rfl
theorem flats_of {n : Nat} : ∀ {ds : List D}, (∀ d ∈ ds, d.flat n = true) → D.flats n ds = true
  | [], _ => by cases n <;> rfl
  | d :: r, h => by
    have h1 := h d List.mem_cons_self
    have h2 := flats_of fun e m => h e (List.mem_cons_of_mem _ m)
    simp [D.flats, h1, h2]
theorem flat_str {n : Nat} {cs : List Nat} (h : asc cs = true) : (D.str cs).flat n = true := by
  have : cs.all (· < 0x110000) = true := List.all_eq_true.mpr fun c m => by
    have := of_decide_eq_true (List.all_eq_true.mp h c m)
    exact decide_eq_true (by omega)
  cases n <;> simpa [D.flat] using this
theorem flat_tup {n : Nat} {ds : List D} (h : ∀ d ∈ ds, d.flat n = true) : (D.tup ds).flat (n + 1) = true := flats_of h
theorem flat_nms {n : Nat} {L : List (List Nat)} (h : ∀ c ∈ L, isNm c = true) : (D.tup (L.map D.str)).flat (n + 1) = true := flat_tup fun d m => by
  obtain ⟨c, hc, rfl⟩ := List.mem_map.mp m
  exact flat_str (nm_asc (h c hc))
mutual
theorem eqv_self : ∀ (n : Nat) (d : D), d.flat n = true → D.eqv d d = true
  | _, .non, _ => rfl
  | _, .bl b, _ => by show (b == b) = true; exact beq_self_eq_true b
  | _, .int i, _ => by show (i == i) = true; exact beq_self_eq_true i
  | _, .str cs, _ => by show (cs == cs) = true; exact beq_self_eq_true cs
  | n, .ref _, h => by simp [D.flat] at h
  | n, .ty _, h => by simp [D.flat] at h
  | n, .lof _, h => by simp [D.flat] at h
  | 0, .tup _, h => by simp [D.flat] at h
  | n + 1, .tup ds, h => eqvs_self n ds h
  | 0, .fl _, h => by simp [D.flat] at h
  | n + 1, .fl ds, h => eqvs_self n ds h
theorem eqvs_self : ∀ (n : Nat) (ds : List D), D.flats n ds = true → D.eqvs ds ds = true
  | _, [], _ => rfl
  | n, d :: r, h => by
    have h1 : d.flat n = true ∧ D.flats n r = true := by simpa [D.flats] using h
    show (D.eqv d d && D.eqvs r r) = true
    rw [eqv_self n d h1.1, eqvs_self n r h1.2]; rfl
end
theorem asc_ext : ∀ {S T : List (List Nat)}, Asc S → Asc T → (∀ c, c ∈ S ↔ c ∈ T) → S = T
  | [], [], _, _, _ => rfl
  | [], d :: T, _, _, h => nomatch ((h d).mpr List.mem_cons_self)
  | c :: S, [], _, _, h => nomatch ((h c).mp List.mem_cons_self)
  | c :: S, d :: T, hS, hT, h => by
    obtain ⟨s1, s2⟩ := List.pairwise_cons.mp hS
    obtain ⟨t1, t2⟩ := List.pairwise_cons.mp hT
    have hcd : c = d := by
      rcases List.mem_cons.mp ((h c).mp List.mem_cons_self) with e | m1
      · exact e
      rcases List.mem_cons.mp ((h d).mpr List.mem_cons_self) with e | m2
      · exact e.symm
      have a1 := t1 c m1
      have a2 := s1 d m2
      rw [lexL_asymm a1] at a2
      cases a2
    subst hcd
    congr 1
    refine asc_ext s2 t2 fun e => ⟨fun m => ?_, fun m => ?_⟩
    · rcases List.mem_cons.mp ((h e).mp (List.mem_cons_of_mem _ m)) with z | z
      · have := s1 e m; rw [z, lexL_irrefl] at this; cases this
      · exact z
    · rcases List.mem_cons.mp ((h e).mpr (List.mem_cons_of_mem _ m)) with z | z
      · have := t1 e m; rw [z, lexL_irrefl] at this; cases this
      · exact z
/-! trees of precedence -/
inductive Kd | first | back | round
deriving DecidableEq
def Kd.cs : Kd → List Nat
  | .first => tl "first"
  | .back => tl "back"
  | .round => tl "round"
inductive Tr
  | leaf (n : List Nat)
  | node (k : Kd) (ts : List Tr)
  | bad (d : D)
mutual
def Tr.d : Tr → D
  | .leaf n => .str n
  | .node k ts => .tup [.str k.cs, .tup (Tr.ds ts)]
  | .bad d => d
def Tr.ds : List Tr → List D
  | [] => []
  | t :: r => t.d :: Tr.ds r
end
theorem Tr.ds_map : ∀ ts : List Tr, Tr.ds ts = ts.map Tr.d
  | [] => rfl
  | t :: r => by rw [Tr.ds, Tr.ds_map r]; rfl
mutual
def Tr.sz : Tr → Nat
  | .leaf _ => 1
  | .node _ ts => Tr.szs ts + 1
  | .bad _ => 1
def Tr.szs : List Tr → Nat
  | [] => 0
  | t :: r => t.sz + Tr.szs r
end
theorem Tr.sz_pos (t : Tr) : 1 ≤ t.sz := by cases t <;> simp [Tr.sz]
theorem Tr.szs_len : ∀ ts : List Tr, ts.length ≤ Tr.szs ts
  | [] => Nat.le_refl _
  | t :: r => by have := Tr.szs_len r; have := t.sz_pos; simp only [List.length_cons, Tr.szs]; omega
theorem Tr.szs_app : ∀ a b : List Tr, Tr.szs (a ++ b) = Tr.szs a + Tr.szs b
  | [], b => by simp [Tr.szs]
  | t :: a, b => by rw [List.cons_append, Tr.szs, Tr.szs, Tr.szs_app a b]; omega
def kindsD : List D := [.str (tl "first"), .str (tl "back"), .str (tl "round")]
/-- what isinstance can be asked of -/
def visD : D → Bool
  | .ref _ => false
  | .ty _ => false
  | .lof _ => false
  | _ => true
def isStrD : D → Bool
  | .str _ => true
  | _ => false
def neTup : D → Bool
  | .tup xs => !xs.isEmpty
  | _ => false
/-- what looks_like_place tells -/
def lkD : D → Bool
  | .tup [a, b] => inD a kindsD && neTup b
  | _ => false
/-- .. and where it can be asked -/
def lkOk : D → Bool
  | .tup [a, b] => a.flat 60 && visD b
  | d => visD d
/-- what is no name and no place -/
def badD (d : D) : Bool := lkOk d && !isStrD d && !lkD d
mutual
/-- the places have children, the rest is none -/
def Tr.sh : Tr → Bool
  | .leaf _ => true
  | .node _ ts => !ts.isEmpty && Tr.shs ts
  | .bad d => badD d
def Tr.shs : List Tr → Bool
  | [] => true
  | t :: r => t.sh && Tr.shs r
end
theorem Tr.shs_iff {ts : List Tr} : Tr.shs ts = true ↔ ∀ t ∈ ts, t.sh = true := by
  induction ts with
  | nil => simp [Tr.shs]
  | cons t r ih => simp [Tr.shs, ih]
/-! the walk -/
inductive Flt
  | name (n : List Nat) | twice (n : List Nat) | lines | tree (p : List Nat) | depth | places
def pathD (p : List Nat) : D := .tup (p.map fun i => D.int (i : Nat))
def Flt.cls : Flt → Str
  | .name _ => "BadName"
  | .twice _ => "Twice"
  | .lines => "TooMany"
  | .tree _ => "BadTree"
  | .depth => "TooMany"
  | .places => "TooMany"
def Flt.fs : Flt → List (Str × D)
  | .name n => [("name", .str n)]
  | .twice n => [("name", .str n)]
  | .lines => [("limit", .int 24), ("what", .str (tl "lines"))]
  | .tree p => [("path", pathD p)]
  | .depth => [("limit", .int 24), ("what", .str (tl "depth"))]
  | .places => [("limit", .int 60), ("what", .str (tl "places"))]
structure Kn where
  names : List (List Nat)
  met : Nat
def leafW (n : List Nat) (s : Kn) : Except Flt Kn := if isNm n = false then .error (.name n) else if n ∈ s.names then .error (.twice n) else if 24 ≤ s.names.length then .error .lines else .ok ⟨s.names ++ [n], s.met⟩
mutual
def Tr.walk : Tr → List Nat → Kn → Except Flt Kn
  | .leaf n, _, s => leafW n s
  | .bad _, p, _ => .error (.tree p)
  | .node _ ts, p, s => if 24 ≤ p.length then .error .depth else if 60 ≤ s.met then .error .places else Tr.walks ts p 0 ⟨s.names, s.met + 1⟩
def Tr.walks : List Tr → List Nat → Nat → Kn → Except Flt Kn
  | [], _, _, s => .ok s
  | t :: r, p, i, s => match t.walk (p ++ [i]) s with
    | .error f => .error f
    | .ok s' => Tr.walks r p (i + 1) s'
end
/-- a stack of trees that wait -/
def walkS : List (Tr × List Nat) → Kn → Except Flt Kn
  | [], s => .ok s
  | (t, p) :: r, s => match t.walk p s with
    | .error f => .error f
    | .ok s' => walkS r s'
def kidS (p : List Nat) : Nat → List Tr → List (Tr × List Nat)
  | _, [] => []
  | i, t :: r => (t, p ++ [i]) :: kidS p (i + 1) r
theorem walkS_app : ∀ (a b : List (Tr × List Nat)) (s : Kn), walkS (a ++ b) s = match walkS a s with | .error f => .error f | .ok s' => walkS b s'
  | [], _, _ => rfl
  | (t, p) :: a, b, s => by
    rw [List.cons_append, walkS, walkS]
    cases t.walk p s with
    | error f => rfl
    | ok s' => exact walkS_app a b s'
theorem walkS_kids (p : List Nat) : ∀ (ts : List Tr) (i : Nat) (s : Kn), walkS (kidS p i ts) s = Tr.walks ts p i s
  | [], _, _ => by rw [kidS, walkS, Tr.walks]
  | t :: r, i, s => by
    rw [kidS, walkS, Tr.walks]
    cases t.walk (p ++ [i]) s with
    | error f => rfl
    | ok s' => exact walkS_kids p r (i + 1) s'
theorem walkS_node {k : Kd} {ts : List Tr} {p : List Nat} {r : List (Tr × List Nat)} {s : Kn} (h1 : p.length < 24) (h2 : s.met < 60) :
    walkS ((.node k ts, p) :: r) s = walkS (kidS p 0 ts ++ r) ⟨s.names, s.met + 1⟩ := by
  rw [walkS, Tr.walk, if_neg (by omega), if_neg (by omega), walkS_app, walkS_kids]
def szS (S : List (Tr × List Nat)) : Nat := Tr.szs (S.map (·.1))
theorem kidS_fst (p : List Nat) : ∀ (ts : List Tr) (i : Nat), (kidS p i ts).map (·.1) = ts
  | [], _ => rfl
  | t :: r, i => by rw [kidS, List.map_cons, kidS_fst p r (i + 1)]
theorem szS_kids (p : List Nat) (k : Kd) (ts : List Tr) (r : List (Tr × List Nat)) : szS (kidS p 0 ts ++ r) + 1 = szS ((.node k ts, p) :: r) := by
  unfold szS
  rw [List.map_append, kidS_fst, Tr.szs_app, List.map_cons, Tr.szs, Tr.sz]
  omega
theorem kidS_get (p : List Nat) : ∀ (ts : List Tr) (i j : Nat) (h : j < ts.length), (kidS p i ts)[j]? = some (ts[j], p ++ [i + j])
  | t :: r, i, 0, _ => rfl
  | t :: r, i, j + 1, h => by
    rw [kidS, List.getElem?_cons_succ, kidS_get p r (i + 1) j (by simpa using h)]
    simp [Nat.add_assoc, Nat.add_comm 1 j]
theorem kidS_len (p : List Nat) : ∀ (ts : List Tr) (i : Nat), (kidS p i ts).length = ts.length
  | [], _ => rfl
  | t :: r, i => by rw [kidS, List.length_cons, List.length_cons, kidS_len p r (i + 1)]
/-- the names that are known, in the dict -/
def Ks (kvs : List (Key × D)) (N : List (List Nat)) : Prop := kvs.map (·.1) = N.map kS
theorem Ks.has {kvs : List (Key × D)} {N : List (List Nat)} (h : Ks kvs N) (n : List Nat) : (getD' kvs (kS n)).isSome = decide (n ∈ N) := by
  have h1 : getD' kvs (kS n) = none ↔ n ∉ N := by
    rw [getD'_none, show kvs.map (·.1) = N.map kS from h, List.mem_map]
    exact ⟨fun z m => z ⟨n, m, rfl⟩, fun z ⟨m, hm, e⟩ => z (kS_inj e ▸ hm)⟩
  by_cases hn : n ∈ N
  · rw [decide_eq_true hn]
    cases e : getD' kvs (kS n) with
    | none => exact absurd hn (h1.mp e)
    | some _ => rfl
  · rw [decide_eq_false hn, h1.mpr hn]; rfl
theorem Ks.len {kvs : List (Key × D)} {N : List (List Nat)} (h : Ks kvs N) : kvs.length = N.length := by
  have := congrArg List.length (show kvs.map (·.1) = N.map kS from h)
  simpa using this
theorem Ks.put {kvs : List (Key × D)} {N : List (List Nat)} (h : Ks kvs N) {n : List Nat} (hn : n ∉ N) (v : D) : Ks (putD kvs (kS n) v) (N ++ [n]) := by
  unfold Ks
  rcases putD_keys (kvs := kvs) (k := kS n) (v := v) with ⟨m, _⟩ | ⟨_, e⟩
  · rw [show kvs.map (·.1) = N.map kS from h, List.mem_map] at m
    obtain ⟨c, hc, e⟩ := m
    exact absurd (kS_inj e ▸ hc) hn
  · rw [e, show kvs.map (·.1) = N.map kS from h, List.map_append]; rfl
/-! leaves -/
mutual
def Tr.tru : Tr → Bool
  | .leaf _ => true
  | .node _ ts => Tr.trus ts
  | .bad _ => false
def Tr.trus : List Tr → Bool
  | [] => true
  | t :: r => t.tru && Tr.trus r
end
theorem Tr.trus_iff {ts : List Tr} : Tr.trus ts = true ↔ ∀ t ∈ ts, t.tru = true := by
  induction ts with
  | nil => simp [Tr.trus]
  | cons t r ih => simp [Tr.trus, ih]
mutual
def Tr.lv : Tr → List (List Nat)
  | .leaf n => [n]
  | .node _ ts => Tr.lvs ts
  | .bad _ => []
def Tr.lvs : List Tr → List (List Nat)
  | [] => []
  | t :: r => t.lv ++ Tr.lvs r
end
theorem Tr.lvs_app : ∀ a b : List Tr, Tr.lvs (a ++ b) = Tr.lvs a ++ Tr.lvs b
  | [], _ => rfl
  | t :: a, b => by rw [List.cons_append, Tr.lvs, Tr.lvs, Tr.lvs_app a b, List.append_assoc]
theorem Tr.lvs_map : ∀ ts : List Tr, Tr.lvs ts = ts.flatMap Tr.lv
  | [] => rfl
  | t :: r => by rw [Tr.lvs, Tr.lvs_map r]; rfl
mutual
theorem Tr.lv_sz : ∀ t : Tr, t.lv.length ≤ t.sz
  | .leaf _ => Nat.le_refl _
  | .node _ ts => by have := Tr.lvs_sz ts; simp only [Tr.lv, Tr.sz]; omega
  | .bad _ => by simp [Tr.lv]
theorem Tr.lvs_sz : ∀ ts : List Tr, (Tr.lvs ts).length ≤ Tr.szs ts
  | [] => Nat.le_refl _
  | t :: r => by have := t.lv_sz; have := Tr.lvs_sz r; simp only [Tr.lvs, Tr.szs, List.length_append]; omega
end
mutual
/-- places; places on a way -/
def Tr.pl : Tr → Nat
  | .leaf _ => 0
  | .node _ ts => Tr.pls ts + 1
  | .bad _ => 0
def Tr.pls : List Tr → Nat
  | [] => 0
  | t :: r => t.pl + Tr.pls r
end
mutual
def Tr.dp : Tr → Nat
  | .leaf _ => 0
  | .node _ ts => Tr.dps ts + 1
  | .bad _ => 0
def Tr.dps : List Tr → Nat
  | [] => 0
  | t :: r => max t.dp (Tr.dps r)
end
mutual
theorem Tr.dp_pl : ∀ t : Tr, t.dp ≤ t.pl
  | .leaf _ => Nat.le_refl _
  | .node _ ts => by have := Tr.dps_pls ts; simp only [Tr.dp, Tr.pl]; omega
  | .bad _ => Nat.le_refl _
theorem Tr.dps_pls : ∀ ts : List Tr, Tr.dps ts ≤ Tr.pls ts
  | [] => Nat.le_refl _
  | t :: r => by have := t.dp_pl; have := Tr.dps_pls r; simp only [Tr.dps, Tr.pls]; omega
end
theorem leafW_mk {n : List Nat} {s : Kn} (h1 : isNm n = true) (h2 : n ∉ s.names) (h3 : s.names.length < 24) : leafW n s = .ok ⟨s.names ++ [n], s.met⟩ := by
  unfold leafW
  rw [if_neg (by rw [h1]; decide), if_neg h2, if_neg (by omega)]
theorem leafW_good {n : List Nat} {s s' : Kn} (h : leafW n s = .ok s') : isNm n = true ∧ n ∉ s.names ∧ s.names.length < 24 ∧ s' = ⟨s.names ++ [n], s.met⟩ := by
  unfold leafW at h
  split at h
  · cases h
  · rename_i h0
    split at h
    · cases h
    · split at h
      · cases h
      · cases h
        exact ⟨by simpa using h0, by assumption, by omega, rfl⟩
mutual
theorem Tr.walk_mk : ∀ (t : Tr) (p : List Nat) (s : Kn), t.tru = true → (∀ n ∈ t.lv, isNm n = true) → (s.names ++ t.lv).Nodup → (s.names ++ t.lv).length ≤ 24 → p.length + t.dp ≤ 24 → s.met + t.pl ≤ 60 →
    t.walk p s = .ok ⟨s.names ++ t.lv, s.met + t.pl⟩
  | .leaf n, p, s, _, h1, h2, h3, _, _ => by
    have h3 : (s.names ++ [n]).length ≤ 24 := h3
    rw [List.length_append, List.length_singleton] at h3
    have h2 : (s.names ++ [n]).Nodup := h2
    rw [List.nodup_append] at h2
    exact leafW_mk (h1 n List.mem_cons_self) (fun m => h2.2.2 n m n (List.mem_singleton.mpr rfl) rfl) (by omega)
  | .node k ts, p, s, h0, h1, h2, h3, h4, h5 => by
    have h4 : p.length + (Tr.dps ts + 1) ≤ 24 := h4
    have h5 : s.met + (Tr.pls ts + 1) ≤ 60 := h5
    rw [Tr.walk, if_neg (by omega), if_neg (by omega)]
    have := Tr.walks_mk ts p 0 ⟨s.names, s.met + 1⟩ h0 h1 h2 h3 (by omega) (by show s.met + 1 + Tr.pls ts ≤ 60; omega)
    rw [this]
    show Except.ok (⟨s.names ++ Tr.lvs ts, s.met + 1 + Tr.pls ts⟩ : Kn) = .ok ⟨s.names ++ Tr.lvs ts, s.met + (Tr.pls ts + 1)⟩
    rw [show s.met + 1 + Tr.pls ts = s.met + (Tr.pls ts + 1) by omega]
  | .bad _, _, _, h, _, _, _, _, _ => by cases h
theorem Tr.walks_mk : ∀ (ts : List Tr) (p : List Nat) (i : Nat) (s : Kn), Tr.trus ts = true → (∀ n ∈ Tr.lvs ts, isNm n = true) → (s.names ++ Tr.lvs ts).Nodup → (s.names ++ Tr.lvs ts).length ≤ 24 → p.length + 1 + Tr.dps ts ≤ 24 → s.met + Tr.pls ts ≤ 60 →
    Tr.walks ts p i s = .ok ⟨s.names ++ Tr.lvs ts, s.met + Tr.pls ts⟩
  | [], _, _, s, _, _, _, _, _, _ => by rw [Tr.walks, Tr.lvs, Tr.pls, List.append_nil]; rfl
  | t :: r, p, i, s, h0, h1, h2, h3, h4, h5 => by
    have h0 : (t.tru && Tr.trus r) = true := h0
    obtain ⟨a1, a2⟩ := (Bool.and_eq_true _ _).mp h0
    have h2 : (s.names ++ (t.lv ++ Tr.lvs r)).Nodup := h2
    rw [← List.append_assoc] at h2
    have h3 : (s.names ++ (t.lv ++ Tr.lvs r)).length ≤ 24 := h3
    rw [← List.append_assoc] at h3
    have h4 : p.length + 1 + max t.dp (Tr.dps r) ≤ 24 := h4
    have h5 : s.met + (t.pl + Tr.pls r) ≤ 60 := h5
    have g := Tr.walk_mk t (p ++ [i]) s a1 (fun n m => h1 n (List.mem_append_left _ m)) (List.nodup_append.mp h2).1 (by rw [List.length_append] at h3; omega) (by rw [List.length_append, List.length_singleton]; omega) (by omega)
    rw [Tr.walks, g]
    show Tr.walks r p (i + 1) ⟨s.names ++ t.lv, s.met + t.pl⟩ = _
    rw [Tr.walks_mk r p (i + 1) ⟨s.names ++ t.lv, s.met + t.pl⟩ a2 (fun n m => h1 n (List.mem_append_right _ m)) h2 h3 (by omega) (by show s.met + t.pl + Tr.pls r ≤ 60; omega)]
    show Except.ok (⟨s.names ++ t.lv ++ Tr.lvs r, s.met + t.pl + Tr.pls r⟩ : Kn) = .ok ⟨s.names ++ (t.lv ++ Tr.lvs r), s.met + (t.pl + Tr.pls r)⟩
    rw [List.append_assoc, show s.met + t.pl + Tr.pls r = s.met + (t.pl + Tr.pls r) by omega]
end
mutual
theorem Tr.walk_ok : ∀ (t : Tr) (p : List Nat) (s s' : Kn), t.walk p s = .ok s' → s.names.Nodup → s.names.length ≤ 24 → s.met ≤ 60 →
    t.tru = true ∧ (∀ n ∈ t.lv, isNm n = true) ∧ s' = ⟨s.names ++ t.lv, s.met + t.pl⟩ ∧ (s.names ++ t.lv).Nodup ∧ (s.names ++ t.lv).length ≤ 24 ∧ s.met + t.pl ≤ 60 ∧ (p.length ≤ 24 → p.length + t.dp ≤ 24)
  | .leaf n, p, s, s', h, hn, hl, hm => by
    obtain ⟨a, b, c, rfl⟩ := leafW_good h
    refine ⟨rfl, fun m hm => (List.mem_singleton.mp hm) ▸ a, rfl, ?_, by show (s.names ++ [n]).length ≤ 24; rw [List.length_append, List.length_singleton]; omega, hm, fun z => z⟩
    show (s.names ++ [n]).Nodup
    rw [List.nodup_append]
    exact ⟨hn, List.pairwise_singleton _ _, fun x hx y hy z => b (by rw [← List.mem_singleton.mp hy, ← z]; exact hx)⟩
  | .node k ts, p, s, s', h, hn, hl, hm => by
    rw [Tr.walk] at h
    split at h
    · cases h
    · split at h
      · cases h
      · obtain ⟨a1, a2, a3, a4, a5, a6, a7⟩ := Tr.walks_ok ts p 0 ⟨s.names, s.met + 1⟩ s' h hn hl (by show s.met + 1 ≤ 60; omega)
        have a6 : s.met + 1 + Tr.pls ts ≤ 60 := a6
        refine ⟨a1, a2, a3.trans ?_, a4, a5, by show s.met + (Tr.pls ts + 1) ≤ 60; omega, fun _ => by show p.length + (Tr.dps ts + 1) ≤ 24; have := a7 (by omega); omega⟩
        show (⟨s.names ++ Tr.lvs ts, s.met + 1 + Tr.pls ts⟩ : Kn) = ⟨s.names ++ Tr.lvs ts, s.met + (Tr.pls ts + 1)⟩
        rw [show s.met + 1 + Tr.pls ts = s.met + (Tr.pls ts + 1) by omega]
  | .bad _, p, s, s', h, _, _, _ => by cases h
theorem Tr.walks_ok : ∀ (ts : List Tr) (p : List Nat) (i : Nat) (s s' : Kn), Tr.walks ts p i s = .ok s' → s.names.Nodup → s.names.length ≤ 24 → s.met ≤ 60 →
    Tr.trus ts = true ∧ (∀ n ∈ Tr.lvs ts, isNm n = true) ∧ s' = ⟨s.names ++ Tr.lvs ts, s.met + Tr.pls ts⟩ ∧ (s.names ++ Tr.lvs ts).Nodup ∧ (s.names ++ Tr.lvs ts).length ≤ 24 ∧ s.met + Tr.pls ts ≤ 60 ∧ (p.length + 1 ≤ 24 → p.length + 1 + Tr.dps ts ≤ 24)
  | [], p, i, s, s', h, hn, hl, hm => by
    rw [Tr.walks] at h
    cases h
    exact ⟨rfl, nofun, by rw [Tr.lvs, Tr.pls, List.append_nil]; rfl, by rw [Tr.lvs, List.append_nil]; exact hn, by rw [Tr.lvs, List.append_nil]; exact hl, hm, fun z => z⟩
  | t :: r, p, i, s, s', h, hn, hl, hm => by
    rw [Tr.walks] at h
    cases e : t.walk (p ++ [i]) s with
    | error f => rw [e] at h; cases h
    | ok s1 =>
      rw [e] at h
      obtain ⟨a1, a2, rfl, a4, a5, a6, a7⟩ := Tr.walk_ok t (p ++ [i]) s s1 e hn hl hm
      obtain ⟨b1, b2, b3, b4, b5, b6, b7⟩ := Tr.walks_ok r p (i + 1) ⟨s.names ++ t.lv, s.met + t.pl⟩ s' h a4 a5 a6
      have b6 : s.met + t.pl + Tr.pls r ≤ 60 := b6
      refine ⟨by show (t.tru && Tr.trus r) = true; rw [a1, b1]; rfl, fun n hn => (List.mem_append.mp hn).elim (a2 n) (b2 n), b3.trans ?_, by rw [Tr.lvs, ← List.append_assoc]; exact b4, by rw [Tr.lvs, ← List.append_assoc]; exact b5, by show s.met + (t.pl + Tr.pls r) ≤ 60; omega, fun z => ?_⟩
      · show (⟨s.names ++ t.lv ++ Tr.lvs r, s.met + t.pl + Tr.pls r⟩ : Kn) = ⟨s.names ++ (t.lv ++ Tr.lvs r), s.met + (t.pl + Tr.pls r)⟩
        rw [List.append_assoc, show s.met + t.pl + Tr.pls r = s.met + (t.pl + Tr.pls r) by omega]
      · have c1 := a7 (by rw [List.length_append, List.length_singleton]; exact z)
        rw [List.length_append, List.length_singleton] at c1
        have c2 := b7 z
        show p.length + 1 + max t.dp (Tr.dps r) ≤ 24
        omega
end
/-- what check_tree takes -/
structure Tr.Ok (t : Tr) : Prop where
  tru : t.tru = true
  nm : ∀ n ∈ t.lv, isNm n = true
  nd : t.lv.Nodup
  lines : t.lv.length ≤ 24
  depth : t.dp ≤ 24
  places : t.pl ≤ 60
theorem Tr.Ok.walk {t : Tr} (h : t.Ok) : t.walk [] ⟨[], 0⟩ = .ok ⟨t.lv, t.pl⟩ := by
  have := t.walk_mk [] ⟨[], 0⟩ h.tru h.nm h.nd h.lines (by have := h.depth; simpa using this) (by have := h.places; simpa using this)
  simpa using this
theorem Tr.ok_of {t : Tr} {s : Kn} (h : t.walk [] ⟨[], 0⟩ = .ok s) : t.Ok := by
  obtain ⟨a1, a2, a3, a4, a5, a6, a7⟩ := t.walk_ok [] ⟨[], 0⟩ s h List.nodup_nil (Nat.zero_le _) (Nat.zero_le _)
  exact ⟨a1, a2, a4, a5, by have := a7 (Nat.zero_le _); simpa using this, by simpa using a6⟩
/-! names in their order -/
def srtN (L : List (List Nat)) : List (List Nat) := L.mergeSort fun a b => !lexL b a
theorem srtN_perm (L : List (List Nat)) : (srtN L).Perm L := List.mergeSort_perm _ _
theorem srtN_asc {L : List (List Nat)} (h : L.Nodup) : Asc (srtN L) := by
  have h1 : (srtN L).Pairwise fun a b => (!lexL b a) = true := List.pairwise_mergeSort (fun a b c h1 h2 => by
    have h1 : lexL b a = false := by simpa using h1
    have h2 : lexL c b = false := by simpa using h2
    cases e : lexL c a with
    | false => rfl
    | true =>
      by_cases e2 : b = a
      · subst e2; rw [e] at h2; cases h2
      · have := lexL_total h1 e2
        rw [lexL_trans e this] at h2; cases h2) (fun a b => by
    cases e : lexL b a with
    | false => rfl
    | true => rw [lexL_asymm e]; rfl) L
  have hn : (srtN L).Nodup := (srtN_perm L).nodup_iff.mpr h
  exact (h1.and hn).imp fun {a b} ⟨x, y⟩ => lexL_total (by simpa using x) (Ne.symm y)
theorem srtN_eq {L S : List (List Nat)} (h : L.Nodup) (hS : Asc S) (hm : ∀ c, c ∈ S ↔ c ∈ L) : S = srtN L :=
  asc_ext hS (srtN_asc h) fun c => (hm c).trans (srtN_perm L).mem_iff.symm
theorem srtN_of {L ys : List (List Nat)} (h : L.Nodup) (hp : ys.Perm L) (hs : srtL ys = true) : ys = srtN L :=
  srtN_eq h (srt_asc hs (hp.nodup_iff.mpr h)) fun c => hp.mem_iff
/-! struck to a lot -/
mutual
def Tr.stk (L : List (List Nat)) : Tr → Option Tr
  | .leaf n => if n ∈ L then some (.leaf n) else none
  | .node k ts => match Tr.stks L ts with
    | [] => none
    | t :: r => some (.node k (t :: r))
  | .bad _ => none
def Tr.stks (L : List (List Nat)) : List Tr → List Tr
  | [] => []
  | t :: r => match t.stk L with
    | none => Tr.stks L r
    | some u => u :: Tr.stks L r
end
def optD : Option Tr → D
  | none => .non
  | some t => t.d
theorem Tr.stks_map (L : List (List Nat)) : ∀ ts : List Tr, Tr.stks L ts = ts.filterMap (Tr.stk L)
  | [] => rfl
  | t :: r => by
    rw [Tr.stks, List.filterMap_cons]
    cases t.stk L with
    | none => exact Tr.stks_map L r
    | some u => rw [Tr.stks_map L r]
theorem tru_non {t : Tr} (h : t.tru = true) : t.d.isNon = false := by
  cases t with
  | leaf n => rfl
  | node k ts => rfl
  | bad d => cases h
theorem tru_d {t : Tr} (h : t.tru = true) : (∃ n, t = .leaf n) ∨ ∃ k ts, t = .node k ts ∧ Tr.trus ts = true := by
  cases t with
  | leaf n => exact .inl ⟨n, rfl⟩
  | node k ts => exact .inr ⟨k, ts, rfl, h⟩
  | bad d => cases h
mutual
theorem walk_names : ∀ {t : Tr} {p : List Nat} {s s' : Kn}, t.walk p s = .ok s' → s'.names = s.names ++ t.lv
  | .leaf n, p, s, s', h => by
    obtain ⟨_, _, _, rfl⟩ := leafW_good h
    rfl
  | .node k ts, p, s, s', h => by
    rw [Tr.walk] at h
    split at h
    · cases h
    · split at h
      · cases h
      · exact walks_names (s := ⟨s.names, s.met + 1⟩) h
  | .bad _, p, s, s', h => by cases h
theorem walks_names : ∀ {ts : List Tr} {p : List Nat} {i : Nat} {s s' : Kn}, Tr.walks ts p i s = .ok s' → s'.names = s.names ++ Tr.lvs ts
  | [], p, i, s, s', h => by
    rw [Tr.walks] at h
    cases h
    rw [Tr.lvs, List.append_nil]
  | t :: r, p, i, s, s', h => by
    rw [Tr.walks] at h
    cases e : t.walk (p ++ [i]) s with
    | error f => rw [e] at h; cases h
    | ok s1 =>
      rw [e] at h
      rw [walks_names h, walk_names e, Tr.lvs, List.append_assoc]
end
/-! paths in a tree -/
def Tr.get : Tr → List Nat → Option Tr
  | t, [] => some t
  | .node _ ts, i :: p => match ts[i]? with
    | some c => c.get p
    | none => none
  | .leaf _, _ :: _ => none
  | .bad _, _ :: _ => none
def Tr.put : Tr → List Nat → Tr → Tr
  | _, [], u => u
  | .node k ts, i :: p, u => match ts[i]? with
    | some c => .node k (ts.set i (c.put p u))
    | none => .node k ts
  | .leaf n, _ :: _, _ => .leaf n
  | .bad d, _ :: _, _ => .bad d
theorem Tr.get_snoc : ∀ (t : Tr) (p : List Nat) (i : Nat), t.get (p ++ [i]) = match t.get p with | some (.node _ ts) => ts[i]? | _ => none
  | .leaf _, [], i => rfl
  | .bad _, [], i => rfl
  | .node k ts, [], i => by
    show (match ts[i]? with | some c => c.get [] | none => none) = ts[i]?
    cases ts[i]? <;> rfl
  | .leaf _, _ :: _, _ => rfl
  | .bad _, _ :: _, _ => rfl
  | .node k ts, j :: p, i => by
    rw [List.cons_append, Tr.get, Tr.get]
    cases ts[j]? with
    | none => rfl
    | some c => exact c.get_snoc p i
theorem Tr.get_app : ∀ (t : Tr) (p q : List Nat), t.get (p ++ q) = (t.get p).bind fun u => u.get q
  | t, [], q => by cases t <;> rfl
  | .leaf _, _ :: _, q => rfl
  | .bad _, _ :: _, q => rfl
  | .node k ts, i :: p, q => by
    rw [List.cons_append, Tr.get, Tr.get]
    cases ts[i]? with
    | none => rfl
    | some c => exact c.get_app p q
theorem Tr.put_app : ∀ (t : Tr) (p q : List Nat) (u v : Tr), t.get p = some v → t.put (p ++ q) u = t.put p (v.put q u)
  | t, [], q, u, v, h => by
    cases t <;> cases h <;> rfl
  | .leaf _, _ :: _, q, u, v, h => by cases h
  | .bad _, _ :: _, q, u, v, h => by cases h
  | .node k ts, i :: p, q, u, v, h => by
    rw [Tr.get] at h
    rw [List.cons_append, Tr.put, Tr.put]
    cases e : ts[i]? with
    | none => rfl
    | some c =>
      rw [e] at h
      show Tr.node k (ts.set i (c.put (p ++ q) u)) = .node k (ts.set i (c.put p (v.put q u)))
      rw [c.put_app p q u v h]
theorem Tr.get_tru : ∀ {t : Tr} {p : List Nat} {u : Tr}, t.tru = true → t.get p = some u → u.tru = true
  | t, [], u, h, e => by cases t <;> cases e <;> exact h
  | .leaf _, _ :: _, _, _, e => by cases e
  | .bad _, _ :: _, _, _, e => by cases e
  | .node k ts, i :: p, u, h, e => by
    rw [Tr.get] at e
    cases e1 : ts[i]? with
    | none => rw [e1] at e; cases e
    | some c =>
      rw [e1] at e
      exact Tr.get_tru (Tr.trus_iff.mp h c (List.mem_of_getElem? e1)) e
/-! the leaves with their paths -/
mutual
def Tr.lvr : Tr → List (List Nat × List Nat)
  | .leaf n => [(n, [])]
  | .node _ ts => Tr.lvrs 0 ts
  | .bad _ => []
def Tr.lvrs : Nat → List Tr → List (List Nat × List Nat)
  | _, [] => []
  | i, t :: r => t.lvr.map (fun x => (x.1, i :: x.2)) ++ Tr.lvrs (i + 1) r
end
mutual
theorem Tr.lvr_fst : ∀ t : Tr, t.lvr.map (·.1) = t.lv
  | .leaf _ => rfl
  | .node _ ts => Tr.lvrs_fst 0 ts
  | .bad _ => rfl
theorem Tr.lvrs_fst : ∀ (i : Nat) (ts : List Tr), (Tr.lvrs i ts).map (·.1) = Tr.lvs ts
  | _, [] => rfl
  | i, t :: r => by
    rw [Tr.lvrs, List.map_append, List.map_map, Tr.lvrs_fst (i + 1) r, Tr.lvs, ← t.lvr_fst]
    rfl
end
mutual
theorem Tr.lvr_get : ∀ {t : Tr} {n q : List Nat}, (n, q) ∈ t.lvr → t.get q = some (.leaf n)
  | .leaf m, n, q, h => by
    cases List.mem_singleton.mp h
    rfl
  | .node k ts, n, q, h => by
    obtain ⟨j, q', e, c, hc, hg⟩ := Tr.lvrs_get (i := 0) h
    subst e
    rw [Nat.zero_add, Tr.get, hc]
    exact hg
  | .bad _, _, _, h => by cases h
theorem Tr.lvrs_get : ∀ {ts : List Tr} {i : Nat} {n q : List Nat}, (n, q) ∈ Tr.lvrs i ts → ∃ j q', q = (i + j) :: q' ∧ ∃ c, ts[j]? = some c ∧ c.get q' = some (.leaf n)
  | [], _, _, _, h => by cases h
  | t :: r, i, n, q, h => by
    rcases List.mem_append.mp h with h | h
    · obtain ⟨⟨n', q'⟩, hm, e⟩ := List.mem_map.mp h
      cases e
      exact ⟨0, q', rfl, t, rfl, Tr.lvr_get hm⟩
    · obtain ⟨j, q', e, c, hc, hg⟩ := Tr.lvrs_get h
      exact ⟨j + 1, q', by rw [e]; congr 1; omega, c, hc, hg⟩
end
/-! the walk of a tree with another thing in a leaf's place -/
theorem Tr.put_cons {k : Kd} {ts : List Tr} {j : Nat} {c u : Tr} {q : List Nat} (h : ts[j]? = some c) : (Tr.node k ts).put (j :: q) u = .node k (ts.set j (c.put q u)) := by
  rw [Tr.put, h]
mutual
theorem Tr.walk_put : ∀ {t : Tr} {p n q : List Nat} {X Y : List (List Nat × List Nat)} {s s' : Kn} {u : Tr} {f : Flt}, t.walk p s = .ok s' → t.lvr = X ++ (n, q) :: Y →
    (∀ m, u.walk (p ++ q) ⟨s.names ++ X.map (·.1), m⟩ = .error f) → (t.put q u).walk p s = .error f
  | .leaf m, p, n, q, X, Y, s, s', u, f, _, e, h => by
    have e : [(m, [])] = X ++ (n, q) :: Y := e
    cases X with
    | nil =>
      cases e
      have := h s.met
      rw [List.append_nil, List.map_nil, List.append_nil] at this
      exact this
    | cons x r => cases r <;> cases e
  | .node k ts, p, n, q, X, Y, s, s', u, f, hw, e, h => by
    rw [Tr.walk] at hw
    split at hw
    · cases hw
    · rename_i h1
      split at hw
      · cases hw
      · rename_i h2
        obtain ⟨j, q', e2, c, hc, hp⟩ := Tr.walks_put (i := 0) (u := u) (f := f) hw e h
        rw [e2, Nat.zero_add, Tr.put_cons hc, Tr.walk, if_neg h1, if_neg h2]
        exact hp
  | .bad _, _, _, _, X, _, _, _, _, _, _, e, _ => by
    have e : [] = X ++ _ :: _ := e
    cases X <;> cases e
theorem Tr.walks_put : ∀ {ts : List Tr} {p n q : List Nat} {i : Nat} {X Y : List (List Nat × List Nat)} {s s' : Kn} {u : Tr} {f : Flt}, Tr.walks ts p i s = .ok s' → Tr.lvrs i ts = X ++ (n, q) :: Y →
    (∀ m, u.walk (p ++ q) ⟨s.names ++ X.map (·.1), m⟩ = .error f) → ∃ j q', q = (i + j) :: q' ∧ ∃ c, ts[j]? = some c ∧ Tr.walks (ts.set j (c.put q' u)) p i s = .error f
  | [], _, _, _, _, X, _, _, _, _, _, _, e, _ => by
    have e : [] = X ++ _ :: _ := e
    cases X <;> cases e
  | t :: r, p, n, q, i, X, Y, s, s', u, f, hw, e, h => by
    rw [Tr.walks] at hw
    have e : t.lvr.map (fun x => (x.1, i :: x.2)) ++ Tr.lvrs (i + 1) r = X ++ (n, q) :: Y := e
    cases e1 : t.walk (p ++ [i]) s with
    | error f => rw [e1] at hw; cases hw
    | ok s1 =>
      rw [e1] at hw
      rcases List.append_eq_append_iff.mp e with ⟨a, ha, hb⟩ | ⟨a, ha, hb⟩
      · -- behind this child
        obtain ⟨j, q', e2, c, hc, hp⟩ := Tr.walks_put (X := a) (Y := Y) (n := n) (u := u) (f := f) (s := s1) (i := i + 1) (ts := r) (p := p) hw hb (fun m => by
          have := h m
          rw [ha, List.map_append, List.map_map] at this
          have hn : s1.names = s.names ++ t.lvr.map (·.1) := by
            rw [t.lvr_fst]
            exact walk_names e1
          rw [hn, List.append_assoc]
          exact this)
        refine ⟨j + 1, q', by rw [e2]; congr 1; omega, c, hc, ?_⟩
        rw [List.set_cons_succ, Tr.walks, e1]
        exact hp
      · cases a with
        | nil =>
          rw [List.append_nil] at ha
          have hb : (n, q) :: Y = Tr.lvrs (i + 1) r := hb
          obtain ⟨j, q', e2, c, hc, hp⟩ := Tr.walks_put (X := []) (Y := Y) (n := n) (u := u) (f := f) (s := s1) (i := i + 1) (ts := r) (p := p) hw hb.symm (fun m => by
            have := h m
            rw [← ha, List.map_map] at this
            have hn : s1.names = s.names ++ t.lvr.map (·.1) := by
              rw [t.lvr_fst]
              exact walk_names e1
            rw [hn, List.map_nil, List.append_nil]
            exact this)
          refine ⟨j + 1, q', by rw [e2]; congr 1; omega, c, hc, ?_⟩
          rw [List.set_cons_succ, Tr.walks, e1]
          exact hp
        | cons x a =>
          rw [List.cons_append] at hb
          injection hb with hx hb
          subst hx
          obtain ⟨X', Y', hXY, hX, hY⟩ := List.map_eq_append_iff.mp ha
          obtain ⟨z, a', hza, hz, ha'⟩ := List.map_eq_cons_iff.mp hY
          obtain ⟨n', q'⟩ := z
          cases hz
          refine ⟨0, q', by simp, t, rfl, ?_⟩
          rw [List.set_cons_zero, Tr.walks]
          have := Tr.walk_put (t := t) (p := p ++ [i]) (n := n') (q := q') (X := X') (Y := a') (s := s) (s' := s1) (u := u) (f := f) e1 (by rw [hXY, hza]) (fun m => by
            have := h m
            rw [← hX, List.map_map] at this
            rw [List.append_assoc]
            exact this)
          rw [this]
end
/-! the rows of a tree -/
abbrev Nrow := Tr × Int × List Nat
mutual
def Tr.nod (par : Int) (p : List Nat) (k : Nat) : Tr → List Nrow
  | .leaf n => [(.leaf n, par, p)]
  | .node kd ts => (.node kd ts, par, p) :: Tr.nods (k : Int) p 0 (k + 1) ts
  | .bad d => [(.bad d, par, p)]
def Tr.nods (par : Int) (p : List Nat) (i k : Nat) : List Tr → List Nrow
  | [] => []
  | t :: r => t.nod par (p ++ [i]) k ++ Tr.nods par p (i + 1) (k + t.sz) r
end
def Tr.rows (t : Tr) : List Nrow := t.nod (-1) [] 0
def rowE (r : Nrow) : D := .fl [r.1.d, .int r.2.1, pathD r.2.2]
mutual
theorem Tr.nod_len : ∀ (t : Tr) (par : Int) (p : List Nat) (k : Nat), (t.nod par p k).length = t.sz
  | .leaf _, _, _, _ => rfl
  | .node _ ts, par, p, k => by rw [Tr.nod, List.length_cons, Tr.nods_len ts, Tr.sz]
  | .bad _, _, _, _ => rfl
theorem Tr.nods_len : ∀ (ts : List Tr) (par : Int) (p : List Nat) (i k : Nat), (Tr.nods par p i k ts).length = Tr.szs ts
  | [], _, _, _, _ => rfl
  | t :: r, par, p, i, k => by rw [Tr.nods, List.length_append, t.nod_len, Tr.nods_len r, Tr.szs]
end
def leafRow : Nrow → Option (List Nat × List Nat)
  | (.leaf n, _, q) => some (n, q)
  | _ => none
mutual
theorem Tr.nod_lvr : ∀ (t : Tr) (par : Int) (p : List Nat) (k : Nat), (t.nod par p k).filterMap leafRow = t.lvr.map fun x => (x.1, p ++ x.2)
  | .leaf n, _, p, _ => by simp [Tr.nod, leafRow, Tr.lvr]
  | .node _ ts, par, p, k => by
    rw [Tr.nod, List.filterMap_cons]
    exact Tr.nods_lvr ts k p 0 (k + 1)
  | .bad _, _, _, _ => by simp [Tr.nod, leafRow, Tr.lvr]
theorem Tr.nods_lvr : ∀ (ts : List Tr) (par : Int) (p : List Nat) (i k : Nat), (Tr.nods par p i k ts).filterMap leafRow = (Tr.lvrs i ts).map fun x => (x.1, p ++ x.2)
  | [], _, _, _, _ => rfl
  | t :: r, par, p, i, k => by
    rw [Tr.nods, List.filterMap_append, t.nod_lvr, Tr.nods_lvr r, Tr.lvrs, List.map_append, List.map_map]
    congr 1
    apply List.map_congr_left
    intro x _
    simp
end
theorem Tr.rows_lvr (t : Tr) : t.rows.filterMap leafRow = t.lvr := by
  unfold Tr.rows
  rw [t.nod_lvr]
  simp
mutual
theorem Tr.nod_tru : ∀ {t : Tr} {par : Int} {p : List Nat} {k : Nat}, t.tru = true → ∀ r ∈ t.nod par p k, r.1.tru = true
  | .leaf n, _, _, _, _, r, h => by rw [List.mem_singleton.mp h]; rfl
  | .node _ ts, par, p, k, ht, r, h => by
    rcases List.mem_cons.mp h with rfl | h
    · exact ht
    · exact Tr.nods_tru ht r h
  | .bad _, _, _, _, h, _, _ => by cases h
theorem Tr.nods_tru : ∀ {ts : List Tr} {par : Int} {p : List Nat} {i k : Nat}, Tr.trus ts = true → ∀ r ∈ Tr.nods par p i k ts, r.1.tru = true
  | [], _, _, _, _, _, _, h => by cases h
  | t :: r, par, p, i, k, ht, x, h => by
    have ht : (t.tru && Tr.trus r) = true := ht
    obtain ⟨h1, h2⟩ := (Bool.and_eq_true _ _).mp ht
    rcases List.mem_append.mp h with h | h
    · exact Tr.nod_tru h1 x h
    · exact Tr.nods_tru h2 x h
end
def isLeaf : Tr → Bool
  | .leaf _ => true
  | _ => false
theorem leaf_rows : ∀ R : List Nrow, (∀ r ∈ R, r.1.tru = true) → (R.filter fun r => isLeaf r.1).map (fun r => r.1.d) = (R.filterMap leafRow).map fun x => D.str x.1
  | [], _ => rfl
  | (t, par, p) :: R, h => by
    have ih := leaf_rows R fun r m => h r (List.mem_cons_of_mem _ m)
    have ht : t.tru = true := h _ List.mem_cons_self
    cases t with
    | leaf n => rw [List.filter_cons_of_pos (by rfl), List.map_cons, List.filterMap_cons_some (b := (n, p)) (by rfl), List.map_cons, ih]; rfl
    | node k ts => rw [List.filter_cons_of_neg (by exact Bool.false_ne_true), List.filterMap_cons_none (by rfl), ih]
    | bad d => cases ht
theorem tru_leaf {t : Tr} (h : t.tru = true) : isStrD t.d = isLeaf t := by
  cases t with
  | leaf n => rfl
  | node k ts => rfl
  | bad d => cases h
def Tr.pth (t : Tr) (n : List Nat) : List Nat := match t.lvr.find? fun x => decide (x.1 = n) with
  | some x => x.2
  | none => []
/-- a stack of rows that wait -/
def nodS : List Nrow → Nat → List Nrow
  | [], _ => []
  | (t, par, p) :: r, k => t.nod par p k ++ nodS r (k + t.sz)
def kidN (par : Int) (p : List Nat) : Nat → List Tr → List Nrow
  | _, [] => []
  | i, t :: r => (t, par, p ++ [i]) :: kidN par p (i + 1) r
theorem nodS_kids (par : Int) (p : List Nat) (r : List Nrow) : ∀ (ts : List Tr) (i k : Nat), nodS (kidN par p i ts ++ r) k = Tr.nods par p i k ts ++ nodS r (k + Tr.szs ts)
  | [], i, k => by rw [kidN, List.nil_append, Tr.nods, List.nil_append, Tr.szs, Nat.add_zero]
  | t :: ts, i, k => by rw [kidN, List.cons_append, nodS, nodS_kids par p r ts, Tr.nods, List.append_assoc, Tr.szs, Nat.add_assoc]
theorem kidN_get (par : Int) (p : List Nat) : ∀ (ts : List Tr) (i j : Nat) (h : j < ts.length), (kidN par p i ts)[j]? = some (ts[j], par, p ++ [i + j])
  | t :: r, i, 0, _ => rfl
  | t :: r, i, j + 1, h => by
    rw [kidN, List.getElem?_cons_succ, kidN_get par p r (i + 1) j (by simpa using h)]
    simp [Nat.add_assoc, Nat.add_comm 1 j]
theorem kidN_len (par : Int) (p : List Nat) : ∀ (ts : List Tr) (i : Nat), (kidN par p i ts).length = ts.length
  | [], _ => rfl
  | t :: r, i => by rw [kidN, List.length_cons, List.length_cons, kidN_len par p r (i + 1)]
theorem nodS_len : ∀ (S : List Nrow) (k : Nat), (nodS S k).length = Tr.szs (S.map (·.1))
  | [], _ => rfl
  | (t, par, p) :: r, k => by rw [nodS, List.length_append, t.nod_len, nodS_len r, List.map_cons, Tr.szs]
theorem kidN_tru {par : Int} {p : List Nat} : ∀ {ts : List Tr} {i : Nat}, Tr.trus ts = true → ∀ r ∈ kidN par p i ts, r.1.tru = true
  | [], _, _, _, h => by cases h
  | t :: ts, i, ht, x, h => by
    have ht : (t.tru && Tr.trus ts) = true := ht
    obtain ⟨h1, h2⟩ := (Bool.and_eq_true _ _).mp ht
    rcases List.mem_cons.mp h with rfl | h
    · exact h1
    · exact kidN_tru h2 x h
theorem kidN_path {par : Int} {p : List Nat} : ∀ {ts : List Tr} {i : Nat}, ∀ r ∈ kidN par p i ts, r.2.2.length = p.length + 1
  | [], _, _, h => by cases h
  | t :: ts, i, x, h => by
    rcases List.mem_cons.mp h with rfl | h
    · show (p ++ [i]).length = _
      rw [List.length_append]; rfl
    · exact kidN_path x h
theorem pathD_snoc (p : List Nat) (i : Nat) : pathD (p ++ [i]) = .tup (p.map (fun i => D.int (i : Nat)) ++ [.int (i : Nat)]) := by
  unfold pathD; rw [List.map_append]; rfl
theorem tyn_vis (A : Ah) {d : D} (h : visD d = true) : ∃ s, tyn A d = some s ∧ isB s "str" = isStrD d := by
  cases d <;> first | exact ⟨_, rfl, rfl⟩ | cases h
theorem tr_visT {t : Tr} (h : t.tru = true) : visD t.d = true := by
  cases t with
  | leaf n => rfl
  | node k ts => rfl
  | bad d => cases h
theorem rows_tru {T : Tr} (h : T.tru = true) : ∀ r ∈ T.rows, r.1.tru = true := Tr.nod_tru h
theorem rows_len (T : Tr) : T.rows.length = T.sz := T.nod_len _ _ _
theorem get_succ {T : Tr} {p : List Nat} {u : Tr} {i : Nat} (h : T.get p = some u) (hi : i < p.length) : ∃ k ts c, T.get (p.take i) = some (.node k ts) ∧ ts[p[i]]? = some c ∧ T.get (p.take (i + 1)) = some c := by
  have h1 : p.take (i + 1) = p.take i ++ [p[i]] := by rw [List.take_succ, List.getElem?_eq_getElem hi]; rfl
  have h2 : T.get (p.take (i + 1) ++ p.drop (i + 1)) = some u := by rw [List.take_append_drop]; exact h
  rw [Tr.get_app] at h2
  rw [h1, Tr.get_snoc] at h2 ⊢
  cases e : T.get (p.take i) with
  | none => rw [e] at h2; cases h2
  | some v =>
    rw [e] at h2
    cases v with
    | leaf n => cases h2
    | bad d => cases h2
    | node k ts =>
      cases e2 : ts[p[i]]? with
      | none =>
        have h2 : (ts[p[i]]?).bind (fun u => u.get (p.drop (i + 1))) = some u := h2
        rw [e2] at h2; cases h2
      | some c => exact ⟨k, ts, c, rfl, e2, e2⟩
theorem atI_ds {ts : List Tr} {i : Nat} {c : Tr} (h : ts[i]? = some c) : L2.atI (Tr.ds ts) (i : Int) = some c.d := by
  rw [Tr.ds_map]
  obtain ⟨hi, e⟩ := List.getElem?_eq_some_iff.mp h
  rw [atI_map _ hi, e]
def isAt (n : List Nat) : Nrow → Bool
  | (.leaf m, _, _) => decide (m = n)
  | _ => false
def rowP : Option Nrow → List Nat
  | some r => r.2.2
  | none => []
theorem rows_find (n : List Nat) : ∀ R : List Nrow, (match (R.filterMap leafRow).find? (fun x => decide (x.1 = n)) with | some x => x.2 | none => []) = rowP (R.find? (isAt n))
  | [] => rfl
  | (t, par, p) :: R => by
    have ih := rows_find n R
    cases t with
    | leaf m =>
      rw [List.filterMap_cons_some (b := (m, p)) (by rfl), List.find?_cons, List.find?_cons]
      show (match (match decide (m = n) with | true => some (m, p) | false => _) with | some x => x.2 | none => []) = rowP (match decide (m = n) with | true => _ | false => _)
      cases decide (m = n) with
      | true => rfl
      | false => exact ih
    | node k ts => rw [List.filterMap_cons_none (by rfl), List.find?_cons]; exact ih
    | bad d => rw [List.filterMap_cons_none (by rfl), List.find?_cons]; exact ih
theorem Tr.pth_rows (T : Tr) (n : List Nat) : T.pth n = rowP (T.rows.find? (isAt n)) := by
  rw [← rows_find, T.rows_lvr]; rfl
theorem szs_mem : ∀ {ts : List Tr} {t : Tr}, t ∈ ts → t.sz ≤ Tr.szs ts
  | u :: r, t, h => by
    rcases List.mem_cons.mp h with rfl | h
    · exact Nat.le_add_right _ _
    · exact Nat.le_trans (szs_mem h) (Nat.le_add_left _ _)
theorem put_step {T : Tr} {p : List Nat} {v u : Tr} {i : Nat} (h : T.get p = some v) (hi : i < p.length) : ∃ k ts c, T.get (p.take i) = some (.node k ts) ∧ ts[p[i]]? = some c ∧ T.get (p.take (i + 1)) = some c ∧
    (Tr.node k ts).put (p.drop i) u = .node k (ts.set p[i] (c.put (p.drop (i + 1)) u)) := by
  obtain ⟨k, ts, c, h1, h2, h3⟩ := get_succ h hi
  exact ⟨k, ts, c, h1, h2, h3, by rw [List.drop_eq_getElem_cons hi, Tr.put_cons h2]⟩
theorem get_sz : ∀ {T : Tr} {p : List Nat} {v : Tr}, T.get p = some v → v.sz ≤ T.sz ∧ p.length ≤ T.sz
  | t, [], v, h => by cases t <;> cases h <;> exact ⟨Nat.le_refl _, Nat.zero_le _⟩
  | .leaf _, _ :: _, _, h => by cases h
  | .bad _, _ :: _, _, h => by cases h
  | .node k ts, i :: p, v, h => by
    rw [Tr.get] at h
    cases e : ts[i]? with
    | none => rw [e] at h; cases h
    | some c =>
      rw [e] at h
      have ⟨a, b⟩ := get_sz h
      have := (szs_mem (List.mem_of_getElem? e))
      have hs : (Tr.node k ts).sz = Tr.szs ts + 1 := rfl
      rw [hs, List.length_cons]
      exact ⟨by omega, by omega⟩
theorem set_cut {ts : List Tr} {j : Nat} (h : j < ts.length) (c : Tr) : cutD (Tr.ds ts) none (some (j : Int)) ++ [c.d] ++ cutD (Tr.ds ts) (some ((j : Int) + 1)) none = Tr.ds (ts.set j c) := by
  rw [cut_to, show ((j : Int) + 1) = ((j + 1 : Nat) : Int) by omega, cut_from, Tr.ds_map, Tr.ds_map, List.map_set]
  rw [List.set_eq_take_append_cons_drop, if_pos (by rw [List.length_map]; exact h), List.append_assoc]
  rfl
mutual
/-- texts that can be measured -/
def Tr.lit : Tr → Prop
  | .leaf n => n.length ≤ big
  | .node _ ts => Tr.lits ts
  | .bad _ => True
def Tr.lits : List Tr → Prop
  | [] => True
  | t :: r => t.lit ∧ Tr.lits r
end
def TreeX (T : Tr) (A : Ah) (x : AX) (G : Prop) : Prop := T.sh = true ∧ T.lit ∧ T.sz ≤ 1000000 ∧ (∀ s, T.walk [] ⟨[], 0⟩ = .ok s → G) ∧ ∀ f, T.walk [] ⟨[], 0⟩ = .error f → Rz A x f.cls f.fs
/-! written numbers -/
theorem decN_nat (k : Nat) : decN k = (Nat.toDigits 10 k).map Char.toNat := by
  unfold decN
  have : toString ((k : Nat) : Int) = k.repr := rfl
  rw [this, Str.ofString_eq_toList, Nat.toList_repr]
theorem dec_dig {k c : Nat} (h : c ∈ decN k) : 48 ≤ c ∧ c ≤ 57 := by
  rw [decN_nat] at h
  obtain ⟨d, hd, rfl⟩ := List.mem_map.mp h
  have := Nat.isDigit_of_mem_toDigits (b := 10) (by decide) (by decide) hd
  simp only [Char.isDigit, Bool.and_eq_true, decide_eq_true_eq] at this
  exact ⟨this.1, this.2⟩
theorem dec_ne (k : Nat) : decN k ≠ [] := by
  rw [decN_nat]
  simp [Nat.toDigits_ne_nil]
theorem dec_len {k m : Nat} (hm : 0 < m) (h : k < 10 ^ m) : (decN k).length ≤ m := by
  rw [decN_nat, List.length_map]
  exact (Nat.length_toDigits_le_iff (by decide) hm).mpr h
theorem map_inj {α β : Type} {f : α → β} (hf : ∀ a b, f a = f b → a = b) : ∀ {l m : List α}, l.map f = m.map f → l = m
  | [], [], _ => rfl
  | a :: l, b :: m, h => by
    rw [List.map_cons, List.map_cons] at h
    injection h with h1 h2
    rw [hf a b h1, map_inj hf h2]
theorem dec_inj {j k : Nat} (h : decN j = decN k) : j = k := by
  rw [decN_nat, decN_nat] at h
  have h := map_inj (fun a b e => Char.toNat_inj.mp e) h
  rw [← Nat.ofDigitChars_ten_toDigits (n := j), h, Nat.ofDigitChars_ten_toDigits]
theorem dec_signs {k c : Nat} (h : c ∈ decN k) : c ∈ signsD ∧ c ≠ 46 ∧ c ∉ lettersD := by
  have ⟨a, b⟩ := dec_dig h
  have : ∀ c : Nat, 48 ≤ c → c ≤ 57 → c ∈ signsD ∧ c ≠ 46 ∧ c ∉ lettersD := by
    intro c h1 h2
    have : c = 48 ∨ c = 49 ∨ c = 50 ∨ c = 51 ∨ c = 52 ∨ c = 53 ∨ c = 54 ∨ c = 55 ∨ c = 56 ∨ c = 57 := by omega
    rcases this with rfl | rfl | rfl | rfl | rfl | rfl | rfl | rfl | rfl | rfl <;> decide
  exact this c a b
/-- without a full stop: no two beside each other -/
theorem dd_none {cs : List Nat} (h : 46 ∉ cs) : hasDD cs = false := by
  cases e : hasDD cs with
  | false => rfl
  | true =>
    exfalso
    have : ∀ cs : List Nat, hasDD cs = true → 46 ∈ cs := by
      intro cs
      induction cs with
      | nil => intro h; cases h
      | cons a r ih =>
        intro h
        cases r with
        | nil => cases h
        | cons b r =>
          rw [hasDD] at h
          by_cases e : a = 46
          · rw [e]; exact List.mem_cons_self
          · refine List.mem_cons_of_mem _ (ih ?_)
            simpa [e] using h
    exact h (this cs e)
theorem kept_not {cs : List Nat} (h : ∀ w ∈ [tl "first", tl "back", tl "round", tl "let", tl "tree"], cs ≠ w) : inD (.str cs) keptD = false := by
  have e : keptD = [tl "first", tl "back", tl "round", tl "let", tl "tree"].map D.str := rfl
  rw [e, inD_strF]
  exact fun m => h cs m rfl
theorem nm_ld {c d : Nat} {r : List Nat} (hc : c ∈ lettersD) (hd : 48 ≤ d ∧ d ≤ 57) (hr : ∀ x ∈ r, x ∈ signsD) (hlen : r.length ≤ 10) (hl : lstN (c :: d :: r) = true) (hdd : hasDD (c :: d :: r) = false) : isNm (c :: d :: r) = true := by
  refine nm_mk (by simp) (by simp; omega) (kept_not fun w hw e => ?_) (by simpa [hdL] using hc) hl (fun x hx => ?_) hdd
  · have h2 : w[1]? = some d := by rw [← e]; rfl
    have : ∀ w ∈ [tl "first", tl "back", tl "round", tl "let", tl "tree"], ∀ d, w[1]? = some d → 97 ≤ d := by decide
    have := this w hw d h2
    omega
  · rcases List.mem_cons.mp hx with rfl | hx
    · exact lets_sg _ hc
    · rcases List.mem_cons.mp hx with rfl | hx
      · have : ∀ c : Nat, 48 ≤ c → c ≤ 57 → c ∈ signsD := by
          intro c h1 h2
          have : c = 48 ∨ c = 49 ∨ c = 50 ∨ c = 51 ∨ c = 52 ∨ c = 53 ∨ c = 54 ∨ c = 55 ∨ c = 56 ∨ c = 57 := by omega
          rcases this with rfl | rfl | rfl | rfl | rfl | rfl | rfl | rfl | rfl | rfl <;> decide
        exact this x hd.1 hd.2
      · exact hr x hx
theorem lst_dig {c : Nat} {k : Nat} : lstN (c :: decN k) = true := by
  obtain ⟨d, r, e⟩ := List.exists_cons_of_ne_nil (dec_ne k)
  unfold lstN
  rw [e, List.getLast?_cons_cons, ← e]
  cases h : (decN k).getLast? with
  | none => rw [List.getLast?_eq_none_iff] at h; exact absurd h (dec_ne k)
  | some x =>
    have := (dec_signs (List.mem_of_getLast? h)).2.1
    simpa using this
theorem dec_cons (k : Nat) : ∃ d r, decN k = d :: r ∧ 48 ≤ d ∧ d ≤ 57 ∧ ∀ x ∈ r, x ∈ signsD ∧ x ≠ 46 := by
  obtain ⟨d, r, e⟩ := List.exists_cons_of_ne_nil (dec_ne k)
  have h := dec_dig (k := k) (c := d) (by rw [e]; exact List.mem_cons_self)
  exact ⟨d, r, e, h.1, h.2, fun x hx => by
    have := dec_signs (k := k) (c := x) (by rw [e]; exact List.mem_cons_of_mem _ hx)
    exact ⟨this.1, this.2.1⟩⟩
/-- a letter and a number -/
theorem nm_num10 {c k : Nat} (hc : c ∈ lettersD) (hk : k < 10 ^ 11) : isNm (c :: decN k) = true := by
  obtain ⟨d, r, e, h1, h2, h3⟩ := dec_cons k
  have hl := dec_len (by decide) hk
  have hlst := lst_dig (c := c) (k := k)
  rw [e] at hl hlst ⊢
  refine nm_ld hc ⟨h1, h2⟩ (fun x hx => (h3 x hx).1) (by simpa using hl) hlst (dd_none ?_)
  intro m
  rcases List.mem_cons.mp m with z | m
  · rw [← z] at hc; exact absurd hc (by decide)
  · rcases List.mem_cons.mp m with z | m
    · omega
    · exact (h3 _ m).2 rfl
/-- .. a full stop and a letter behind -/
theorem nm_numdot {c k l : Nat} (hc : c ∈ lettersD) (hk : k < 10 ^ 9) (hl : l ∈ lettersD) : isNm (c :: (decN k ++ [46, l])) = true := by
  obtain ⟨d, r, e, h1, h2, h3⟩ := dec_cons k
  have hl9 := dec_len (by decide) hk
  rw [e] at hl9 ⊢
  have hlen : r.length ≤ 8 := by simpa using hl9
  have l46 : l ≠ 46 := by intro z; rw [z] at hl; exact absurd hl (by decide)
  refine nm_ld hc ⟨h1, h2⟩ (fun x hx => ?_) (by simp; omega) ?_ ?_
  · rcases List.mem_append.mp hx with hx | hx
    · exact (h3 x hx).1
    · rcases List.mem_cons.mp hx with rfl | hx
      · decide
      · rw [List.mem_singleton.mp hx]; exact lets_sg _ hl
  · unfold lstN
    have : (c :: d :: (r ++ [46, l])) = (c :: d :: r ++ [46]) ++ [l] := by simp
    show (match (c :: d :: (r ++ [46, l])).getLast? with | some c => c != 46 | none => false) = true
    rw [this, List.getLast?_concat]
    simpa using l46
  · have e1 : (c :: d :: (r ++ [46, l])) = ((c :: d :: r) ++ [46]) ++ [l] := by simp
    show hasDD (c :: d :: (r ++ [46, l])) = false
    have n46 : 46 ∉ (c :: d :: r) := by
      intro m
      rcases List.mem_cons.mp m with z | m
      · rw [← z] at hc; exact absurd hc (by decide)
      · rcases List.mem_cons.mp m with z | m
        · omega
        · exact (h3 _ m).2 rfl
    rw [e1]
    refine dd_snoc (by simp) ?_ (.inr l46)
    refine dd_snoc (by simp) (dd_none n46) (.inl ?_)
    unfold lstN
    cases h : (c :: d :: r).getLast? with
    | none => simp at h
    | some x =>
      have hx := List.mem_of_getLast? h
      show (x != 46) = true
      simp only [bne_iff_ne, ne_eq]
      intro z; rw [z] at hx; exact n46 hx
/-! what is drawn -/
theorem perm_strs {ys : List D} {L : List (List Nat)} (h : ys.Perm (L.map D.str)) : ∃ Y : List (List Nat), ys = Y.map D.str ∧ Y.Perm L := by
  let back : D → List Nat := fun d => match d with | .str c => c | _ => []
  refine ⟨ys.map back, ?_, ?_⟩
  · have : ∀ y ∈ ys, D.str (back y) = y := fun y hy => by
      obtain ⟨c, _, rfl⟩ := List.mem_map.mp (h.mem_iff.mp hy)
      rfl
    rw [List.map_map]
    conv => lhs; rw [← List.map_id ys]
    exact List.map_congr_left fun y hy => (this y hy).symm
  · have := h.map back
    rw [List.map_map] at this
    have e : L.map (back ∘ D.str) = L := by
      conv => rhs; rw [← List.map_id L]
      exact List.map_congr_left fun _ _ => rfl
    rwa [e] at this
def KindL (Ks : List D) : Prop := Ks ≠ [] ∧ Ks.length ≤ 3 ∧ ∀ y ∈ Ks, ∃ k : Kd, y = .str k.cs
theorem kinds3 : KindL [.str (tl "first"), .str (tl "back"), .str (tl "round")] := ⟨by decide, by decide, fun y hy => by
  rcases List.mem_cons.mp hy with rfl | hy
  · exact ⟨.first, rfl⟩
  · rcases List.mem_cons.mp hy with rfl | hy
    · exact ⟨.back, rfl⟩
    · exact ⟨.round, List.mem_singleton.mp hy⟩⟩
theorem KindL.items {Ks : List D} (h : KindL Ks) (A : Ah) : Items A (.fl Ks) Ks := .inr (.inr (.inr rfl))
theorem KindL.big {Ks : List D} (h : KindL Ks) : Ks.length ≤ big := by have := h.2.1; rw [big_eq]; omega
/-- a forest on the way to a tree -/
structure Fo (ys : List (List Nat)) (F : List Tr) (w : Nat) : Prop where
  tru : Tr.trus F = true
  sh : Tr.shs F = true
  lv : Tr.lvs F = ys
  bd : Tr.pls F + F.length + w ≤ 25
  ne : F ≠ []
theorem Tr.pls_app : ∀ a b : List Tr, Tr.pls (a ++ b) = Tr.pls a + Tr.pls b
  | [], b => by simp [Tr.pls]
  | t :: a, b => by rw [List.cons_append, Tr.pls, Tr.pls, Tr.pls_app a b]; omega
theorem trus_app {a b : List Tr} : Tr.trus (a ++ b) = true ↔ Tr.trus a = true ∧ Tr.trus b = true := by
  simp only [Tr.trus_iff, List.mem_append]
  exact ⟨fun h => ⟨fun t m => h t (.inl m), fun t m => h t (.inr m)⟩, fun h t m => m.elim (h.1 t) (h.2 t)⟩
theorem shs_app {a b : List Tr} : Tr.shs (a ++ b) = true ↔ Tr.shs a = true ∧ Tr.shs b = true := by
  simp only [Tr.shs_iff, List.mem_append]
  exact ⟨fun h => ⟨fun t m => h t (.inl m), fun t m => h t (.inr m)⟩, fun h t m => m.elim (h.1 t) (h.2 t)⟩
theorem fo_start (ys : List (List Nat)) {w : Nat} (h : ys.length + w ≤ 25) (hn : ys ≠ []) : Fo ys (ys.map .leaf) w := by
  have h1 : ∀ ys : List (List Nat), Tr.trus (ys.map .leaf) = true ∧ Tr.shs (ys.map .leaf) = true ∧ Tr.lvs (ys.map .leaf) = ys ∧ Tr.pls (ys.map .leaf) = 0 := by
    intro ys
    induction ys with
    | nil => exact ⟨rfl, rfl, rfl, rfl⟩
    | cons c r ih =>
      obtain ⟨a, b, c1, d⟩ := ih
      refine ⟨?_, ?_, ?_, ?_⟩
      · show (true && Tr.trus (r.map .leaf)) = true; rw [a]; rfl
      · show (true && Tr.shs (r.map .leaf)) = true; rw [b]; rfl
      · show [c] ++ Tr.lvs (r.map .leaf) = c :: r; rw [c1]; rfl
      · show 0 + Tr.pls (r.map .leaf) = 0; rw [d]
  obtain ⟨a, b, c, d⟩ := h1 ys
  exact ⟨a, b, c, by rw [d, List.length_map]; omega, by simpa using hn⟩
/-- some beside each other are joined -/
theorem Fo.join {ys : List (List Nat)} {X M Y : List Tr} {w : Nat} (h : Fo ys (X ++ M ++ Y) w) (hm : 2 ≤ M.length) (k : Kd) : Fo ys (X ++ [.node k M] ++ Y) w := by
  obtain ⟨h1, h2, h3, h4, h5⟩ := h
  obtain ⟨a1, a2⟩ := trus_app.mp h1
  obtain ⟨a0, a1⟩ := trus_app.mp a1
  obtain ⟨b1, b2⟩ := shs_app.mp h2
  obtain ⟨b0, b1⟩ := shs_app.mp b1
  have hM : M ≠ [] := by intro z; subst z; simp at hm
  rw [Tr.pls_app, Tr.pls_app, List.length_append, List.length_append] at h4
  refine ⟨trus_app.mpr ⟨trus_app.mpr ⟨a0, by show (Tr.trus M && true) = true; rw [a1]; rfl⟩, a2⟩, shs_app.mpr ⟨shs_app.mpr ⟨b0, ?_⟩, b2⟩, ?_, ?_, by simp⟩
  · show ((!M.isEmpty && Tr.shs M) && true) = true
    rw [b1]
    cases M with
    | nil => exact absurd rfl hM
    | cons _ _ => rfl
  · rw [← h3, Tr.lvs_app, Tr.lvs_app, Tr.lvs_app, Tr.lvs_app]
    show Tr.lvs X ++ (Tr.lvs M ++ []) ++ Tr.lvs Y = _
    rw [List.append_nil]
  · rw [Tr.pls_app, Tr.pls_app, List.length_append, List.length_append]
    show Tr.pls X + (Tr.pls M + 1 + 0) + Tr.pls Y + (X.length + 1 + Y.length) + w ≤ 25
    omega
/-- one is put into a place -/
theorem Fo.wrap {ys : List (List Nat)} {X Y : List Tr} {t : Tr} {w : Nat} (h : Fo ys (X ++ [t] ++ Y) (w + 1)) (k : Kd) : Fo ys (X ++ [.node k [t]] ++ Y) w := by
  obtain ⟨h1, h2, h3, h4, h5⟩ := h
  obtain ⟨a1, a2⟩ := trus_app.mp h1
  obtain ⟨a0, a1⟩ := trus_app.mp a1
  obtain ⟨b1, b2⟩ := shs_app.mp h2
  obtain ⟨b0, b1⟩ := shs_app.mp b1
  rw [Tr.pls_app, Tr.pls_app, List.length_append, List.length_append] at h4
  have h4 : Tr.pls X + (t.pl + 0) + Tr.pls Y + (X.length + 1 + Y.length) + (w + 1) ≤ 25 := h4
  refine ⟨trus_app.mpr ⟨trus_app.mpr ⟨a0, by show (Tr.trus [t] && true) = true; rw [a1]; rfl⟩, a2⟩, shs_app.mpr ⟨shs_app.mpr ⟨b0, ?_⟩, b2⟩, ?_, ?_, by simp⟩
  · show ((true && Tr.shs [t]) && true) = true
    rw [b1]; rfl
  · rw [← h3, Tr.lvs_app, Tr.lvs_app, Tr.lvs_app, Tr.lvs_app]
    show Tr.lvs X ++ (Tr.lvs [t] ++ []) ++ Tr.lvs Y = _
    rw [List.append_nil]
  · rw [Tr.pls_app, Tr.pls_app, List.length_append, List.length_append]
    show Tr.pls X + (t.pl + 0 + 1 + 0) + Tr.pls Y + (X.length + 1 + Y.length) + w ≤ 25
    omega
theorem set_split {F : List Tr} {j : Nat} (h : j < F.length) (u : Tr) : F = F.take j ++ [F[j]] ++ F.drop (j + 1) ∧ F.set j u = F.take j ++ [u] ++ F.drop (j + 1) := by
  refine ⟨?_, ?_⟩
  · conv => lhs; rw [← List.take_append_drop j F, List.drop_eq_getElem_cons h]
    simp
  · rw [List.set_eq_take_append_cons_drop, if_pos h]; simp
theorem Fo.wrapAt {ys : List (List Nat)} {F : List Tr} {w j : Nat} (h : Fo ys F (w + 1)) (hj : j < F.length) (k : Kd) : Fo ys (F.set j (.node k [F[j]])) w := by
  obtain ⟨e1, e2⟩ := set_split hj (.node k [F[j]])
  rw [e2]
  exact Fo.wrap (by rw [← e1]; exact h) k
theorem Fo.joinAt {ys : List (List Nat)} {F : List Tr} {w s m : Nat} (h : Fo ys F w) (hm : 2 ≤ m) (hs : s + m ≤ F.length) (k : Kd) : Fo ys (F.take s ++ [.node k ((F.drop s).take m)] ++ F.drop (s + m)) w := by
  have e1 : F = F.take s ++ (F.drop s).take m ++ F.drop (s + m) := by
    conv => lhs; rw [← List.take_append_drop s F, ← List.take_append_drop m (F.drop s), List.drop_drop]
    simp
  exact Fo.join (by rw [← e1]; exact h) (by rw [List.length_take, List.length_drop]; omega) k
theorem Fo.done {ys L : List (List Nat)} {t : Tr} {w : Nat} (h : Fo ys [t] w) (hp : ys.Perm L) (hd : L.Nodup) (hm : ∀ n ∈ L, isNm n = true) (hl : L.length ≤ 24) : t.Ok ∧ t.sh = true ∧ t.lv.Perm L ∧ t.pl ≤ 24 := by
  obtain ⟨h1, h2, h3, h4, h5⟩ := h
  have h1 : (t.tru && true) = true := h1
  have h2 : (t.sh && true) = true := h2
  have h3 : t.lv ++ [] = ys := h3
  have h4 : t.pl + 0 + 1 + w ≤ 25 := h4
  rw [Bool.and_true] at h1 h2
  rw [List.append_nil] at h3
  subst h3
  have := t.dp_pl
  exact ⟨⟨h1, fun n hn => hm n (hp.mem_iff.mp hn), hp.nodup_iff.mpr hd, by rw [hp.length_eq]; exact hl, by omega, by omega⟩, h2, hp, by omega⟩
theorem Tr.sz_eq : ∀ {t : Tr}, t.tru = true → t.sz = t.lv.length + t.pl := by
  have key : (∀ t : Tr, t.tru = true → t.sz = t.lv.length + t.pl) := fun t => Tr.rec (motive_1 := fun t => t.tru = true → t.sz = t.lv.length + t.pl) (motive_2 := fun ts => Tr.trus ts = true → Tr.szs ts = (Tr.lvs ts).length + Tr.pls ts)
    (fun n _ => rfl) (fun k ts ih h => by have := ih h; show Tr.szs ts + 1 = (Tr.lvs ts).length + (Tr.pls ts + 1); omega) (fun d h => by cases h)
    (fun _ => rfl) (fun t r ih1 ih2 h => by
      have h : (t.tru && Tr.trus r) = true := h
      obtain ⟨a, b⟩ := (Bool.and_eq_true _ _).mp h
      have := ih1 a
      have := ih2 b
      show t.sz + Tr.szs r = (t.lv ++ Tr.lvs r).length + (t.pl + Tr.pls r)
      rw [List.length_append]; omega) t
  exact fun {t} => key t
theorem Tr.Ok.sz {t : Tr} (h : t.Ok) : t.sz ≤ 84 := by rw [Tr.sz_eq h.tru]; have := h.lines; have := h.places; omega
theorem lit_of : ∀ {t : Tr}, t.tru = true → (∀ n ∈ t.lv, isNm n = true) → t.lit := by
  have key : ∀ t : Tr, t.tru = true → (∀ n ∈ t.lv, isNm n = true) → t.lit := fun t => Tr.rec (motive_1 := fun t => t.tru = true → (∀ n ∈ t.lv, isNm n = true) → t.lit) (motive_2 := fun ts => Tr.trus ts = true → (∀ n ∈ Tr.lvs ts, isNm n = true) → Tr.lits ts)
    (fun n _ h => nm_big (h n List.mem_cons_self)) (fun k ts ih h g => ih h g) (fun d h => by cases h)
    (fun _ _ => trivial) (fun t r ih1 ih2 h g => by
      have h : (t.tru && Tr.trus r) = true := h
      obtain ⟨a, b⟩ := (Bool.and_eq_true _ _).mp h
      exact ⟨ih1 a fun n m => g n (List.mem_append_left _ m), ih2 b fun n m => g n (List.mem_append_right _ m)⟩) t
  exact fun {t} => key t
theorem Tr.Ok.lit {t : Tr} (h : t.Ok) : t.lit := lit_of h.tru h.nm
theorem Tr.Ok.treeX {t : Tr} (h : t.Ok) (hs : t.sh = true) {A : Ah} {x : AX} {G : Prop} (g : G) : TreeX t A x G :=
  ⟨hs, h.lit, (by have := h.sz; omega), fun _ _ => g, fun f e => (by rw [h.walk] at e; cases e)⟩
theorem treeX_bad {t : Tr} {f : Flt} (hs : t.sh = true) (hl : t.lit) (hz : t.sz ≤ 1000000) (e : t.walk [] ⟨[], 0⟩ = .error f) {A : Ah} {x : AX} {G : Prop} (g : Rz A x f.cls f.fs) : TreeX t A x G :=
  ⟨hs, hl, hz, fun s z => (by rw [e] at z; cases z), fun f' z => (by rw [e] at z; cases z; exact g)⟩
def chainT (ks : List Kd) (t : Tr) : Tr := ks.foldl (fun t k => .node k [t]) t
theorem sub_idx {α : Type} (xs : List α) (d : α) : ∀ (ns : List Nat) (k : Nat), ns.Pairwise (· < ·) → (∀ i ∈ ns, k ≤ i ∧ i < xs.length) → (ns.map fun i => xs.getD i d).Sublist (xs.drop k)
  | [], _, _, _ => List.nil_sublist _
  | n :: r, k, hp, hm => by
    obtain ⟨p1, p2⟩ := List.pairwise_cons.mp hp
    obtain ⟨a, b⟩ := hm n List.mem_cons_self
    have ih := sub_idx xs d r (n + 1) p2 fun i hi => ⟨p1 i hi, (hm i (List.mem_cons_of_mem _ hi)).2⟩
    have h1 : (xs.drop n).Sublist (xs.drop k) := List.drop_sublist_drop_left xs a
    refine List.Sublist.trans ?_ h1
    rw [List.map_cons, List.drop_eq_getElem_cons b]
    have e : xs.getD n d = xs[n] := by rw [List.getD_eq_getElem?_getD, List.getElem?_eq_getElem b]; rfl
    rw [e]
    exact ih.cons_cons _
theorem perm_ints {ys : List D} {L : List Int} (h : ys.Perm (L.map D.int)) : ∃ Y : List Int, ys = Y.map D.int ∧ Y.Perm L := by
  let back : D → Int := fun d => match d with | .int c => c | _ => 0
  refine ⟨ys.map back, ?_, ?_⟩
  · have : ∀ y ∈ ys, D.int (back y) = y := fun y hy => by
      obtain ⟨c, _, rfl⟩ := List.mem_map.mp (h.mem_iff.mp hy)
      rfl
    rw [List.map_map]
    conv => lhs; rw [← List.map_id ys]
    exact List.map_congr_left fun y hy => (this y hy).symm
  · have := h.map back
    rw [List.map_map] at this
    have e : L.map (back ∘ D.int) = L := by
      conv => rhs; rw [← List.map_id L]
      exact List.map_congr_left fun _ _ => rfl
    rwa [e] at this
theorem kinds2a : KindL [.str (tl "back"), .str (tl "round")] := ⟨by decide, by decide, fun y hy => by
  rcases List.mem_cons.mp hy with rfl | hy
  · exact ⟨.back, rfl⟩
  · exact ⟨.round, List.mem_singleton.mp hy⟩⟩
theorem kinds2b : KindL [.str (tl "first"), .str (tl "back")] := ⟨by decide, by decide, fun y hy => by
  rcases List.mem_cons.mp hy with rfl | hy
  · exact ⟨.first, rfl⟩
  · exact ⟨.back, List.mem_singleton.mp hy⟩⟩
theorem kinds2c : KindL [.str (tl "round"), .str (tl "round"), .str (tl "first")] := ⟨by decide, by decide, fun y hy => by
  rcases List.mem_cons.mp hy with rfl | hy
  · exact ⟨.round, rfl⟩
  · rcases List.mem_cons.mp hy with rfl | hy
    · exact ⟨.round, rfl⟩
    · exact ⟨.first, List.mem_singleton.mp hy⟩⟩
/-! names that are drawn -/
def msD : List Nat := tl "mmmmmmmmmmm"
def letN (k : Nat) : Nat := lettersD.getD k 0
theorem letN_mem : ∀ k, k < 26 → letN k ∈ lettersD := by decide
theorem letN_inj : ∀ k, k < 26 → ∀ j, j < 26 → letN k = letN j → k = j := by decide +kernel
theorem letN_at {k : Nat} (h : k < 26) : L2.atI lettersD (k : Int) = some (letN k) := by
  have hk : k < lettersD.length := h
  have : lettersD[k]? = some (letN k) := by unfold letN; rw [List.getD_eq_getElem?_getD, List.getElem?_eq_getElem hk]; rfl
  exact atI_of this
def nmP (w a k : Nat) (c : List Nat) : Prop :=
  (w = 0 ∧ c = [letN (a % 3 + k)]) ∨ (w = 1 ∧ c = 119 :: decN (a + 7 * k : Nat)) ∨ (w = 2 ∧ c = msD.take a ++ [letN k] ++ msD.drop a) ∨ (w = 3 ∧ ∃ x ∈ lettersD, ∃ j, j < 10 ^ 6 ∧ c = x :: (decN (j : Nat) ++ [46, letN k]))
theorem nmP_a : ∀ a, a < 12 → ∀ k, k < 24 → isNm (msD.take a ++ [letN k] ++ msD.drop a) = true := by decide +kernel
theorem nmP_b : ∀ a, a < 12 → ∀ k, k < 24 → ∀ j, j < 24 → (msD.take a ++ [letN k] ++ msD.drop a) = (msD.take a ++ [letN j] ++ msD.drop a) → k = j := by
  intro a _ k hk j hj h
  have h := List.append_cancel_right h
  have h := List.append_cancel_left h
  exact letN_inj k (by omega) j (by omega) (List.singleton_inj.mp h)
theorem nmP_len : ∀ a, a < 12 → ∀ k, (msD.take a ++ [letN k] ++ msD.drop a).length = 12 := by
  intro a ha k
  have : msD.length = 11 := rfl
  rw [List.length_append, List.length_append, List.length_take, List.length_drop, List.length_singleton]
  omega
theorem nmP_nm {w a k : Nat} {c : List Nat} (ha : a < 12) (hk : k < 24) (h : nmP w a k c) : isNm c = true := by
  rcases h with ⟨_, rfl⟩ | ⟨_, rfl⟩ | ⟨_, rfl⟩ | ⟨_, x, hx, j, hj, rfl⟩
  · exact nm_one _ (letN_mem _ (by omega))
  · exact nm_num10 (by decide) (by omega)
  · exact nmP_a a ha k hk
  · exact nm_numdot hx (by omega) (letN_mem _ (by omega))
theorem nmP_inj {w a k k' : Nat} {c : List Nat} (ha : a < 12) (hk : k < 24) (hk' : k' < 24) (h : nmP w a k c) (h' : nmP w a k' c) : k = k' := by
  rcases h with ⟨h0, e⟩ | ⟨h0, e⟩ | ⟨h0, e⟩ | ⟨h0, x, hx, j, hj, e⟩ <;> rcases h' with ⟨h0', e'⟩ | ⟨h0', e'⟩ | ⟨h0', e'⟩ | ⟨h0', x', hx', j', hj', e'⟩ <;> first | (exfalso; omega) | skip
  · rw [e] at e'
    have := letN_inj _ (by omega) _ (by omega) (List.singleton_inj.mp e')
    omega
  · rw [e] at e'
    injection e' with _ e'
    have := dec_inj e'
    omega
  · rw [e] at e'
    exact nmP_b a ha k hk k' hk' e'
  · rw [e] at e'
    have h1 : (x :: (decN (j : Nat) ++ [46, letN k])) = (x :: (decN (j : Nat) ++ [46])) ++ [letN k] := by simp
    have h2 : (x' :: (decN (j' : Nat) ++ [46, letN k'])) = (x' :: (decN (j' : Nat) ++ [46])) ++ [letN k'] := by simp
    rw [h1, h2] at e'
    have := (List.append_inj' e' rfl).2
    exact letN_inj _ (by omega) _ (by omega) (List.singleton_inj.mp this)
theorem nmP_zz {w a k : Nat} {c : List Nat} (ha : a < 12) (hk : k < 24) (h : nmP w a k c) : c ≠ tl "zz.zz" := by
  rcases h with ⟨_, rfl⟩ | ⟨_, rfl⟩ | ⟨_, rfl⟩ | ⟨_, x, hx, j, hj, rfl⟩
  · intro z; have := congrArg List.length z; simp at this; exact absurd this (by decide)
  · intro z
    injection z with z _
    exact absurd z (by decide)
  · intro z
    have := congrArg List.length z
    rw [nmP_len a ha] at this
    exact absurd this (by decide)
  · intro z
    obtain ⟨d, r, e, h1, h2, _⟩ := dec_cons j
    rw [e] at z
    have z : (x :: d :: (r ++ [46, letN k])) = 122 :: 122 :: [46, 122, 122] := z
    injection z with _ z
    injection z with z _
    omega
theorem nmP_x {w a k k' : Nat} {c : List Nat} (ha : a < 12) (hk : k < 24) (hk' : k' < 24) (h : nmP w a k c) : ¬ nmP w a k' (c ++ [120]) := by
  intro h'
  rcases h with ⟨h0, e⟩ | ⟨h0, e⟩ | ⟨h0, e⟩ | ⟨h0, x, hx, j, hj, e⟩ <;> rcases h' with ⟨h0', e'⟩ | ⟨h0', e'⟩ | ⟨h0', e'⟩ | ⟨h0', x', hx', j', hj', e'⟩ <;> first | (exfalso; omega) | skip
  · rw [e] at e'; have := congrArg List.length e'; simp at this
  · rw [e] at e'
    have e' : 119 :: (decN (a + 7 * k : Nat) ++ [120]) = 119 :: decN (a + 7 * k' : Nat) := e'
    injection e' with _ e'
    have := dec_dig (k := a + 7 * k') (c := 120) (by rw [← e']; simp)
    omega
  · have := congrArg List.length e'
    rw [List.length_append, e, nmP_len a ha, nmP_len a ha] at this
    simp at this
  · rw [e] at e'
    have h1 : (x :: (decN (j : Nat) ++ [46, letN k]) ++ [120]) = (x :: (decN (j : Nat) ++ [46])) ++ [letN k, 120] := by simp
    have h2 : (x' :: (decN (j' : Nat) ++ [46, letN k'])) = (x' :: decN (j' : Nat)) ++ [46, letN k'] := by simp
    rw [h1, h2] at e'
    have := (List.append_inj' e' rfl).2
    injection this with z _
    have := letN_mem k (by omega)
    rw [z] at this
    exact absurd this (by decide)
/-- no such name, none with x behind another -/
structure NoX (L : List (List Nat)) : Prop where
  zz : tl "zz.zz" ∉ L
  x : ∀ c ∈ L, c ++ [120] ∉ L
theorem NoX.of {L M : List (List Nat)} (h : NoX L) (s : ∀ c, c ∈ M → c ∈ L) : NoX M := ⟨fun m => h.zz (s _ m), fun c hc m => h.x c (s _ hc) (s _ m)⟩
theorem nmP_all {w a : Nat} {F : List (List Nat)} (ha : a < 12) (hl : F.length ≤ 24) (h : ∀ (i : Nat) (c : List Nat), F[i]? = some c → nmP w a i c) : F.Nodup ∧ (∀ c ∈ F, isNm c = true) ∧ NoX F := by
  have lt : ∀ {i : Nat} {c : List Nat}, F[i]? = some c → i < 24 := fun e => by have := (List.getElem?_eq_some_iff.mp e).1; omega
  refine ⟨?_, fun c hc => ?_, ⟨fun hc => ?_, fun c hc hx => ?_⟩⟩
  · rw [List.nodup_iff_pairwise_ne, List.pairwise_iff_getElem]
    intro i j hi hj hij e
    have h1 := h i F[i] (List.getElem?_eq_getElem hi)
    have h2 := h j F[j] (List.getElem?_eq_getElem hj)
    rw [e] at h1
    have := nmP_inj ha (by omega) (by omega) h1 h2
    omega
  · obtain ⟨i, hi⟩ := List.mem_iff_getElem?.mp hc
    exact nmP_nm ha (lt hi) (h i c hi)
  · obtain ⟨i, hi⟩ := List.mem_iff_getElem?.mp hc
    exact nmP_zz ha (lt hi) (h i _ hi) rfl
  · obtain ⟨i, hi⟩ := List.mem_iff_getElem?.mp hc
    obtain ⟨j, hj⟩ := List.mem_iff_getElem?.mp hx
    exact nmP_x ha (lt hi) (lt hj) (h i c hi) (h j _ hj)
theorem log_small : ∀ k : Nat, k < 2 ^ 20 → ((k : Nat) : Int).natAbs.log2 < 1920 := by
  intro k hk
  rw [Int.natAbs_natCast]
  by_cases h : k = 0
  · subst h; decide
  · have := (Nat.log2_lt h (k := 20)).mpr hk
    omega
/-! struck by a rule; a leaf removed -/
mutual
def Tr.stp (f : List Nat → Bool) : Tr → Option Tr
  | .leaf n => if f n = true then some (.leaf n) else none
  | .node k ts => match Tr.stps f ts with
    | [] => none
    | t :: r => some (.node k (t :: r))
  | .bad _ => none
def Tr.stps (f : List Nat → Bool) : List Tr → List Tr
  | [] => []
  | t :: r => match t.stp f with
    | none => Tr.stps f r
    | some u => u :: Tr.stps f r
end
mutual
theorem Tr.stk_stp (L : List (List Nat)) : ∀ t : Tr, t.stk L = t.stp fun c => decide (c ∈ L)
  | .leaf n => by
    rw [Tr.stk, Tr.stp]
    by_cases h : n ∈ L
    · rw [if_pos h, if_pos (by exact decide_eq_true h)]
    · rw [if_neg h, if_neg (by simpa using h)]
  | .node k ts => by rw [Tr.stk, Tr.stp, Tr.stks_stps L ts]; try (cases Tr.stps (fun c => decide (c ∈ L)) ts <;> rfl)
  | .bad _ => by rw [Tr.stk, Tr.stp]
theorem Tr.stks_stps (L : List (List Nat)) : ∀ ts : List Tr, Tr.stks L ts = Tr.stps (fun c => decide (c ∈ L)) ts
  | [] => by rw [Tr.stks, Tr.stps]
  | t :: r => by
    rw [Tr.stks, Tr.stps, Tr.stk_stp L t, Tr.stks_stps L r]; try (cases t.stp (fun c => decide (c ∈ L)) <;> rfl)
end
def ndO (k : Kd) : List Tr → Option Tr
  | [] => none
  | t :: r => some (.node k (t :: r))
theorem Tr.stp_node (f : List Nat → Bool) (k : Kd) (ts : List Tr) : (Tr.node k ts).stp f = ndO k (Tr.stps f ts) := by
  rw [Tr.stp]
  cases Tr.stps f ts <;> rfl
theorem Tr.stps_cons (f : List Nat → Bool) (t : Tr) (r : List Tr) : Tr.stps f (t :: r) = (t.stp f).toList ++ Tr.stps f r := by
  rw [Tr.stps]
  cases t.stp f <;> rfl
theorem ndO_bind (k : Kd) (f : List Nat → Bool) : ∀ ts : List Tr, (ndO k ts).bind (Tr.stp f) = ndO k (Tr.stps f ts)
  | [] => by rw [Tr.stps]; rfl
  | t :: r => Tr.stp_node f k (t :: r)
mutual
theorem Tr.stp_stp (f g : List Nat → Bool) : ∀ t : Tr, (t.stp f).bind (Tr.stp g) = t.stp fun c => f c && g c
  | .leaf n => by
    rw [Tr.stp, Tr.stp]
    cases e : f n with
    | false => rfl
    | true =>
      show Tr.stp g (.leaf n) = _
      rw [Tr.stp, Bool.true_and]
  | .node k ts => by
    rw [Tr.stp_node, ndO_bind, Tr.stp_node, Tr.stps_stps f g ts]
  | .bad _ => rfl
theorem Tr.stps_stps (f g : List Nat → Bool) : ∀ ts : List Tr, Tr.stps g (Tr.stps f ts) = Tr.stps (fun c => f c && g c) ts
  | [] => by rw [Tr.stps, Tr.stps, Tr.stps]
  | t :: r => by
    have h1 := Tr.stp_stp f g t
    rw [Tr.stps, Tr.stps_cons (fun c => f c && g c), ← h1, ← Tr.stps_stps f g r]
    cases t.stp f with
    | none => rfl
    | some u => show Tr.stps g (u :: Tr.stps f r) = (u.stp g).toList ++ _; rw [Tr.stps_cons]
end
mutual
theorem Tr.stp_congr {f g : List Nat → Bool} : ∀ {t : Tr}, (∀ n ∈ t.lv, f n = g n) → t.stp f = t.stp g
  | .leaf n, h => by rw [Tr.stp, Tr.stp, h n List.mem_cons_self]
  | .node k ts, h => by rw [Tr.stp_node, Tr.stp_node, Tr.stps_congr h]
  | .bad _, _ => rfl
theorem Tr.stps_congr {f g : List Nat → Bool} : ∀ {ts : List Tr}, (∀ n ∈ Tr.lvs ts, f n = g n) → Tr.stps f ts = Tr.stps g ts
  | [], _ => by rw [Tr.stps, Tr.stps]
  | t :: r, h => by
    rw [Tr.stps_cons, Tr.stps_cons, Tr.stp_congr fun n m => h n (List.mem_append_left _ m), Tr.stps_congr fun n m => h n (List.mem_append_right _ m)]
end
mutual
theorem Tr.stp_all {f : List Nat → Bool} : ∀ {t : Tr}, t.tru = true → t.sh = true → (∀ n ∈ t.lv, f n = true) → t.stp f = some t
  | .leaf n, _, _, h => by rw [Tr.stp, if_pos (h n List.mem_cons_self)]
  | .node k ts, h1, h2, h => by
    have h2 : (!ts.isEmpty && Tr.shs ts) = true := h2
    obtain ⟨a, b⟩ := (Bool.and_eq_true _ _).mp h2
    rw [Tr.stp_node, Tr.stps_all h1 b h]
    cases ts with
    | nil => cases a
    | cons _ _ => rfl
  | .bad _, h, _, _ => by cases h
theorem Tr.stps_all {f : List Nat → Bool} : ∀ {ts : List Tr}, Tr.trus ts = true → Tr.shs ts = true → (∀ n ∈ Tr.lvs ts, f n = true) → Tr.stps f ts = ts
  | [], _, _, _ => by rw [Tr.stps]
  | t :: r, h1, h2, h => by
    have h1 : (t.tru && Tr.trus r) = true := h1
    obtain ⟨a1, a2⟩ := (Bool.and_eq_true _ _).mp h1
    have h2 : (t.sh && Tr.shs r) = true := h2
    obtain ⟨b1, b2⟩ := (Bool.and_eq_true _ _).mp h2
    rw [Tr.stps_cons, Tr.stp_all a1 b1 fun n m => h n (List.mem_append_left _ m), Tr.stps_all a2 b2 fun n m => h n (List.mem_append_right _ m)]
    rfl
end
def optL : Option Tr → List (List Nat)
  | none => []
  | some t => t.lv
/-- what is left is right again -/
structure Left (f : List Nat → Bool) (ts us : List Tr) : Prop where
  tru : Tr.trus us = true
  sh : Tr.shs us = true
  lv : Tr.lvs us = (Tr.lvs ts).filter f
  pl : Tr.pls us ≤ Tr.pls ts
  dp : Tr.dps us ≤ Tr.dps ts
  sz : Tr.szs us ≤ Tr.szs ts
mutual
theorem Tr.stp_left (f : List Nat → Bool) : ∀ t : Tr, t.tru = true → Left f [t] (t.stp f).toList
  | .leaf n, _ => by
    rw [Tr.stp]
    cases e : f n with
    | false => exact ⟨rfl, rfl, by show [] = List.filter f [n]; rw [List.filter_cons_of_neg (by rw [e]; decide)]; rfl, Nat.zero_le _, Nat.zero_le _, Nat.zero_le _⟩
    | true => exact ⟨rfl, rfl, by show [n] = List.filter f [n]; rw [List.filter_cons_of_pos e]; rfl, Nat.le_refl _, Nat.le_refl _, Nat.le_refl _⟩
  | .node k ts, h => by
    obtain ⟨a, b, c, d, e, g⟩ := Tr.stps_left f ts h
    rw [Tr.stp_node]
    cases hs : Tr.stps f ts with
    | nil =>
      rw [hs] at c
      exact ⟨rfl, rfl, by show [] = List.filter f (Tr.lvs ts ++ []); rw [List.append_nil, ← c]; rfl, Nat.zero_le _, Nat.zero_le _, Nat.zero_le _⟩
    | cons u r =>
      rw [hs] at a b c d e g
      refine ⟨by show (Tr.trus (u :: r) && true) = true; rw [a]; rfl, by show ((true && Tr.shs (u :: r)) && true) = true; rw [b]; rfl, ?_, ?_, ?_, ?_⟩
      · show Tr.lvs (u :: r) ++ [] = List.filter f (Tr.lvs ts ++ []); rw [List.append_nil, List.append_nil]; exact c
      · show Tr.pls (u :: r) + 1 + 0 ≤ Tr.pls ts + 1 + 0; omega
      · show max (Tr.dps (u :: r) + 1) 0 ≤ max (Tr.dps ts + 1) 0; omega
      · show Tr.szs (u :: r) + 1 + 0 ≤ Tr.szs ts + 1 + 0; omega
  | .bad _, h => by cases h
theorem Tr.stps_left (f : List Nat → Bool) : ∀ ts : List Tr, Tr.trus ts = true → Left f ts (Tr.stps f ts)
  | [], _ => by rw [Tr.stps]; exact ⟨rfl, rfl, rfl, Nat.le_refl _, Nat.le_refl _, Nat.le_refl _⟩
  | t :: r, h => by
    have h : (t.tru && Tr.trus r) = true := h
    obtain ⟨h1, h2⟩ := (Bool.and_eq_true _ _).mp h
    obtain ⟨a1, b1, c1, d1, e1, g1⟩ := Tr.stp_left f t h1
    obtain ⟨a2, b2, c2, d2, e2, g2⟩ := Tr.stps_left f r h2
    rw [Tr.stps_cons]
    refine ⟨trus_app.mpr ⟨a1, a2⟩, shs_app.mpr ⟨b1, b2⟩, ?_, ?_, ?_, ?_⟩
    · rw [Tr.lvs_app, c1, c2]
      show List.filter f (t.lv ++ []) ++ _ = List.filter f (t.lv ++ Tr.lvs r)
      rw [List.append_nil, List.filter_append]
    · rw [Tr.pls_app]
      have d1 : Tr.pls (t.stp f).toList ≤ t.pl + 0 := d1
      show _ ≤ t.pl + Tr.pls r
      omega
    · have e1 : Tr.dps (t.stp f).toList ≤ max t.dp 0 := e1
      show _ ≤ max t.dp (Tr.dps r)
      cases hs : t.stp f with
      | none => show Tr.dps (Tr.stps f r) ≤ _; omega
      | some u =>
        rw [hs] at e1
        have e1 : max u.dp 0 ≤ max t.dp 0 := e1
        show max u.dp (Tr.dps (Tr.stps f r)) ≤ _
        omega
    · rw [Tr.szs_app]
      have g1 : Tr.szs (t.stp f).toList ≤ t.sz + 0 := g1
      show _ ≤ t.sz + Tr.szs r
      omega
end
theorem lv_ne : ∀ {t : Tr}, t.tru = true → t.sh = true → t.lv ≠ []
  | .leaf n, _, _ => by intro z; cases z
  | .node k [], _, h => by cases h
  | .node k (t :: r), h1, h2 => by
    have h1 : (t.tru && Tr.trus r) = true := h1
    have h2 : (t.sh && Tr.shs r) = true := h2
    have := lv_ne ((Bool.and_eq_true _ _).mp h1).1 ((Bool.and_eq_true _ _).mp h2).1
    intro z
    exact this (List.append_eq_nil_iff.mp z).1
  | .bad _, h, _ => by cases h
/-- struck: a right tree of the lines that are left -/
theorem Tr.stp_ok {f : List Nat → Bool} {t u : Tr} (h : t.Ok) (e : t.stp f = some u) : u.Ok ∧ u.sh = true ∧ u.lv = t.lv.filter f := by
  obtain ⟨a, b, c, d, e2, g⟩ := Tr.stp_left f t h.tru
  rw [e] at a b c d e2 g
  have a : (u.tru && true) = true := a
  have b : (u.sh && true) = true := b
  have c : u.lv ++ [] = List.filter f (t.lv ++ []) := c
  have d : u.pl + 0 ≤ t.pl + 0 := d
  have e2 : max u.dp 0 ≤ max t.dp 0 := e2
  rw [Bool.and_true] at a b
  rw [List.append_nil, List.append_nil] at c
  refine ⟨⟨a, fun n m => ?_, ?_, ?_, ?_, ?_⟩, b, c⟩
  · rw [c] at m; exact h.nm n (List.mem_filter.mp m).1
  · rw [c]; exact h.nd.sublist List.filter_sublist
  · rw [c]; exact Nat.le_trans (List.length_filter_le _ _) h.lines
  · have := h.depth; omega
  · have := h.places; omega
theorem Tr.stp_some {f : List Nat → Bool} {t : Tr} (h : t.Ok) {n : List Nat} (hn : n ∈ t.lv) (hf : f n = true) : ∃ u, t.stp f = some u := by
  cases e : t.stp f with
  | some u => exact ⟨u, rfl⟩
  | none =>
    have c := (Tr.stp_left f t h.tru).lv
    rw [e] at c
    have c : [] = List.filter f (t.lv ++ []) := c
    rw [List.append_nil] at c
    have : n ∈ List.filter f t.lv := List.mem_filter.mpr ⟨hn, hf⟩
    rw [← c] at this
    cases this
/-! a leaf is taken out, with the places that this empties -/
def Tr.rem : Tr → List Nat → Option Tr
  | _, [] => none
  | .node k ts, i :: p => match ts[i]? with
    | some c => match c.rem p with
      | some u => some (.node k (ts.set i u))
      | none => ndO k (ts.eraseIdx i)
    | none => none
  | .leaf _, _ :: _ => none
  | .bad _, _ :: _ => none
theorem Tr.rem_cons {k : Kd} {ts : List Tr} {j : Nat} {c : Tr} {q : List Nat} (h : ts[j]? = some c) : (Tr.node k ts).rem (j :: q) = match c.rem q with | some u => some (.node k (ts.set j u)) | none => ndO k (ts.eraseIdx j) := by
  rw [Tr.rem, h]
/-- somewhere below something stays: only there it is changed -/
theorem Tr.rem_app {p q : List Nat} : ∀ {t v w : Tr}, t.get p = some v → v.rem q = some w → t.rem (p ++ q) = some (t.put p w) := by
  induction p with
  | nil => intro t v w h e; cases t <;> cases h <;> exact e
  | cons i p ih =>
    intro t v w h e
    cases t with
    | leaf n => cases h
    | bad d => cases h
    | node k ts =>
      rw [Tr.get] at h
      cases e1 : ts[i]? with
      | none => rw [e1] at h; cases h
      | some c =>
        rw [e1] at h
        have h : c.get p = some v := h
        rw [List.cons_append, Tr.rem_cons e1, ih h e, Tr.put_cons e1]
mutual
theorem Tr.rem_stp : ∀ {t : Tr} {n q : List Nat}, (n, q) ∈ t.lvr → t.tru = true → t.sh = true → t.lv.Nodup → t.rem q = t.stp fun c => !decide (c = n)
  | .leaf m, n, q, h, _, _, _ => by
    cases List.mem_singleton.mp h
    rw [Tr.stp, if_neg (by simp), Tr.rem]
  | .node k ts, n, q, h, h1, h2, h3 => by
    have h2 : (!ts.isEmpty && Tr.shs ts) = true := h2
    obtain ⟨j, q', e, c, hc, hg⟩ := Tr.rems_stps (i := 0) h h1 ((Bool.and_eq_true _ _).mp h2).2 h3
    rw [Nat.zero_add] at e
    subst e
    rw [Tr.rem_cons hc, Tr.stp_node, hg]
    cases c.rem q' with
    | none => rfl
    | some u =>
      have hj := (List.getElem?_eq_some_iff.mp hc).1
      show _ = ndO k (ts.set j u)
      cases ts with
      | nil => cases hj
      | cons a b => cases j <;> rfl
  | .bad _, _, _, h, _, _, _ => by cases h
theorem Tr.rems_stps : ∀ {ts : List Tr} {i : Nat} {n q : List Nat}, (n, q) ∈ Tr.lvrs i ts → Tr.trus ts = true → Tr.shs ts = true → (Tr.lvs ts).Nodup → ∃ j q', q = (i + j) :: q' ∧ ∃ c, ts[j]? = some c ∧ Tr.stps (fun c => !decide (c = n)) ts = match c.rem q' with | some u => ts.set j u | none => ts.eraseIdx j
  | [], _, _, _, h, _, _, _ => by cases h
  | t :: r, i, n, q, h, h1, h2, h3 => by
    have h1 : (t.tru && Tr.trus r) = true := h1
    obtain ⟨a1, a2⟩ := (Bool.and_eq_true _ _).mp h1
    have h2 : (t.sh && Tr.shs r) = true := h2
    obtain ⟨b1, b2⟩ := (Bool.and_eq_true _ _).mp h2
    have h3 : (t.lv ++ Tr.lvs r).Nodup := h3
    obtain ⟨n1, n2, n3⟩ := List.nodup_append.mp h3
    rw [Tr.stps_cons]
    rcases List.mem_append.mp h with h | h
    · obtain ⟨⟨n', q'⟩, hm, e⟩ := List.mem_map.mp h
      cases e
      refine ⟨0, q', rfl, t, rfl, ?_⟩
      have hn : n' ∈ t.lv := by rw [← t.lvr_fst]; exact List.mem_map.mpr ⟨_, hm, rfl⟩
      rw [← Tr.rem_stp hm a1 b1 n1, Tr.stps_all a2 b2 (fun m hmm => by
        have : m ≠ n' := fun z => n3 n' hn m hmm z.symm
        simpa using this)]
      cases t.rem q' <;> rfl
    · obtain ⟨j, q', e, c, hc, hg⟩ := Tr.rems_stps h a2 b2 n2
      have hn : n ∈ Tr.lvs r := by rw [← Tr.lvrs_fst (i + 1) r]; exact List.mem_map.mpr ⟨_, h, rfl⟩
      refine ⟨j + 1, q', by rw [e]; congr 1; omega, c, hc, ?_⟩
      rw [hg, Tr.stp_all a1 b1 (fun m hmm => by
        have : m ≠ n := fun z => n3 m hmm n hn z
        simpa using this)]
      cases c.rem q' <;> rfl
end
theorem pth_mem {T : Tr} {n : List Nat} (h : n ∈ T.lv) : (n, T.pth n) ∈ T.lvr := by
  rw [← T.lvr_fst] at h
  obtain ⟨⟨m, q⟩, hm, e⟩ := List.mem_map.mp h
  have e : m = n := e
  subst e
  unfold Tr.pth
  cases hf : T.lvr.find? fun x => decide (x.1 = m) with
  | none => exact absurd (List.find?_eq_none.mp hf _ hm) (by simp)
  | some x =>
    have := List.mem_of_find?_eq_some hf
    have h2 := List.find?_some hf
    have h2 : x.1 = m := of_decide_eq_true h2
    obtain ⟨a, b⟩ := x
    have h2 : a = m := h2
    subst h2
    exact this
/-! weights -/
mutual
theorem Tr.plain : ∀ t : Tr, t.tru = true → ∃ n, n ≤ 4 * t.sz ∧ Pl n t.d
  | .leaf n, _ => ⟨1, by show 1 ≤ 4 * 1; decide, .str n⟩
  | .node k ts, h => by
    obtain ⟨n, h1, h2⟩ := Tr.plains ts h
    exact ⟨_, by show 1 + (n + 1 + 0) + 1 ≤ 4 * (Tr.szs ts + 1); omega, .tup (.cons (.str _) (.cons (.tup h2) .nil))⟩
  | .bad _, h => by cases h
theorem Tr.plains : ∀ ts : List Tr, Tr.trus ts = true → ∃ n, n ≤ 4 * Tr.szs ts ∧ Pls n (Tr.ds ts)
  | [], _ => ⟨0, Nat.le_refl _, .nil⟩
  | t :: r, h => by
    have h : (t.tru && Tr.trus r) = true := h
    obtain ⟨a1, a2⟩ := (Bool.and_eq_true _ _).mp h
    obtain ⟨n, h1, h2⟩ := Tr.plain t a1
    obtain ⟨m, h3, h4⟩ := Tr.plains r a2
    exact ⟨n + m, by show _ ≤ 4 * (t.sz + Tr.szs r); omega, .cons h2 h4⟩
end
theorem plPath (p : List Nat) : Pl (p.length + 1) (pathD p) := by
  have h : ∀ p : List Nat, Pls p.length (p.map fun i => D.int (i : Nat)) := fun p => by
    induction p with
    | nil => exact .nil
    | cons i r ih => have := Pls.cons (.int (i : Nat)) ih; rw [Nat.add_comm] at this; exact this
  exact .tup (h p)
/-! chains -/
def chainR : List Kd → Tr → Tr
  | [], t => t
  | k :: r, t => .node k [chainR r t]
theorem chainT_R (ks : List Kd) (t : Tr) : chainT ks t = chainR ks.reverse t := by
  unfold chainT
  rw [List.foldl_eq_foldr_reverse]
  induction ks.reverse with
  | nil => rfl
  | cons k r ih => rw [List.foldr_cons, ih]; rfl
theorem chain_facts (n : List Nat) : ∀ ks : List Kd, (chainR ks (.leaf n)).tru = true ∧ (chainR ks (.leaf n)).sh = true ∧ (chainR ks (.leaf n)).lv = [n] ∧ (chainR ks (.leaf n)).pl = ks.length ∧ (chainR ks (.leaf n)).dp = ks.length ∧ (chainR ks (.leaf n)).sz = ks.length + 1 ∧ (n.length ≤ big → (chainR ks (.leaf n)).lit)
  | [] => ⟨rfl, rfl, rfl, rfl, rfl, rfl, fun h => h⟩
  | k :: r => by
    obtain ⟨a, b, c, d, e, g, h⟩ := chain_facts n r
    refine ⟨?_, ?_, ?_, ?_, ?_, ?_, fun z => ⟨h z, trivial⟩⟩
    · show ((chainR r (.leaf n)).tru && true) = true; rw [a]; rfl
    · show (true && ((chainR r (.leaf n)).sh && true)) = true; rw [b]; rfl
    · show (chainR r (.leaf n)).lv ++ [] = [n]; rw [c]; rfl
    · show (chainR r (.leaf n)).pl + 0 + 1 = r.length + 1; rw [d]
    · show max (chainR r (.leaf n)).dp 0 + 1 = r.length + 1; rw [e]; omega
    · show (chainR r (.leaf n)).sz + 0 + 1 = r.length + 1 + 1; rw [g]
theorem chain_depth (t : Tr) : ∀ (ks : List Kd) (p : List Nat) (s : Kn), p.length ≤ 24 → 24 < p.length + ks.length → s.met + (24 - p.length) ≤ 60 → (chainR ks t).walk p s = .error .depth
  | [], p, s, h1, h2, _ => by rw [List.length_nil] at h2; omega
  | k :: r, p, s, h1, h2, h3 => by
    rw [chainR, Tr.walk]
    rw [List.length_cons] at h2
    by_cases h : 24 ≤ p.length
    · rw [if_pos h]
    · rw [if_neg h, if_neg (by omega), Tr.walks, chain_depth t r (p ++ [0]) _ (by rw [List.length_append, List.length_singleton]; omega) (by rw [List.length_append, List.length_singleton]; omega) (by rw [List.length_append, List.length_singleton]; show s.met + 1 + (24 - (p.length + 1)) ≤ 60; omega)]
theorem chain_places (t : Tr) : ∀ (ks : List Kd) (p : List Nat) (s : Kn), p.length + ks.length ≤ 24 → s.met ≤ 60 → 60 < s.met + ks.length → (chainR ks t).walk p s = .error .places
  | [], p, s, h1, h2, h3 => by rw [List.length_nil] at h3; omega
  | k :: r, p, s, h1, h2, h3 => by
    rw [chainR, Tr.walk]
    rw [List.length_cons] at h1 h3
    by_cases h : 60 ≤ s.met
    · rw [if_neg (by omega), if_pos h]
    · rw [if_neg (by omega), if_neg h, Tr.walks, chain_places t r (p ++ [0]) _ (by rw [List.length_append, List.length_singleton]; omega) (by show s.met + 1 ≤ 60; omega) (by show 60 < s.met + 1 + r.length; omega)]
theorem chain_walk {n : List Nat} {ks : List Kd} {p : List Nat} {s : Kn} (h1 : isNm n = true) (h2 : n ∉ s.names) (h3 : s.names.length < 24) (h4 : p.length + ks.length ≤ 24) (h5 : s.met + ks.length ≤ 60) (hn : s.names.Nodup) : (chainR ks (.leaf n)).walk p s = .ok ⟨s.names ++ [n], s.met + ks.length⟩ := by
  obtain ⟨a, b, c, d, e, g, _⟩ := chain_facts n ks
  have := Tr.walk_mk (chainR ks (.leaf n)) p s a (by rw [c]; intro m hm; rw [List.mem_singleton.mp hm]; exact h1) (by rw [c, List.nodup_append]; exact ⟨hn, List.pairwise_singleton _ _, fun x hx y hy z => h2 (by rw [← List.mem_singleton.mp hy, ← z]; exact hx)⟩) (by rw [c, List.length_append, List.length_singleton]; omega) (by rw [e]; exact h4) (by rw [d]; exact h5)
  rw [this, c, d]
theorem chain3 (k : Kd) {a b c : List Kd} (ha : a.length = 20) (hb : b.length = 20) (hc : c.length = 20) : (Tr.node k [chainR a (.leaf (tl "a")), chainR b (.leaf (tl "b")), chainR c (.leaf (tl "c"))]).walk [] ⟨[], 0⟩ = .error .places := by
  have w1 : (chainR a (.leaf (tl "a"))).walk ([] ++ [0]) ⟨[], 1⟩ = .ok ⟨[tl "a"], 21⟩ := by
    have := chain_walk (n := tl "a") (ks := a) (p := [] ++ [0]) (s := ⟨[], 1⟩) (by decide) (by decide) (by decide) (by rw [ha]; decide) (by rw [ha]; decide) (by decide)
    rw [this, ha]; rfl
  have w2 : (chainR b (.leaf (tl "b"))).walk ([] ++ [0 + 1]) ⟨[tl "a"], 21⟩ = .ok ⟨[tl "a", tl "b"], 41⟩ := by
    have := chain_walk (n := tl "b") (ks := b) (p := [] ++ [0 + 1]) (s := ⟨[tl "a"], 21⟩) (by decide) (by decide) (by decide) (by rw [hb]; decide) (by rw [hb]; decide) (by decide)
    rw [this, hb]; rfl
  have w3 : (chainR c (.leaf (tl "c"))).walk ([] ++ [0 + 1 + 1]) ⟨[tl "a", tl "b"], 41⟩ = .error .places :=
    chain_places _ c _ _ (by rw [hc]; decide) (by decide) (by rw [hc]; decide)
  rw [Tr.walk, if_neg (by decide), if_neg (by decide), Tr.walks]
  show (match (chainR a (.leaf (tl "a"))).walk ([] ++ [0]) ⟨[], 1⟩ with | .error f => _ | .ok s' => _) = _
  rw [w1]
  show Tr.walks _ _ _ _ = _
  rw [Tr.walks, w2]
  show Tr.walks _ _ _ _ = _
  rw [Tr.walks, w3]
theorem chain3_sh (k : Kd) {a b c : List Kd} (ha : a.length = 20) (hb : b.length = 20) (hc : c.length = 20) : (Tr.node k [chainR a (.leaf (tl "a")), chainR b (.leaf (tl "b")), chainR c (.leaf (tl "c"))]).sh = true ∧ (Tr.node k [chainR a (.leaf (tl "a")), chainR b (.leaf (tl "b")), chainR c (.leaf (tl "c"))]).lit ∧ (Tr.node k [chainR a (.leaf (tl "a")), chainR b (.leaf (tl "b")), chainR c (.leaf (tl "c"))]).sz = 64 := by
  obtain ⟨_, s1, _, _, _, z1, l1⟩ := chain_facts (tl "a") a
  obtain ⟨_, s2, _, _, _, z2, l2⟩ := chain_facts (tl "b") b
  obtain ⟨_, s3, _, _, _, z3, l3⟩ := chain_facts (tl "c") c
  refine ⟨?_, ⟨l1 (Nat.le_of_ble_eq_true rfl), l2 (Nat.le_of_ble_eq_true rfl), l3 (Nat.le_of_ble_eq_true rfl), trivial⟩, ?_⟩
  · show (true && ((chainR a (.leaf (tl "a"))).sh && ((chainR b (.leaf (tl "b"))).sh && ((chainR c (.leaf (tl "c"))).sh && true)))) = true
    rw [s1, s2, s3]; rfl
  · show (chainR a (.leaf (tl "a"))).sz + ((chainR b (.leaf (tl "b"))).sz + ((chainR c (.leaf (tl "c"))).sz + 0)) + 1 = 64
    rw [z1, z2, z3, ha, hb, hc]
theorem edge3 (k : Kd) {a b c : List Kd} (ha : a.length = 20) (hb : b.length = 19) (hc : c.length = 20) : (Tr.node k [chainR a (.leaf (tl "b")), chainR b (.leaf (tl "c")), chainR c (.leaf (tl "a"))]).Ok ∧ (Tr.node k [chainR a (.leaf (tl "b")), chainR b (.leaf (tl "c")), chainR c (.leaf (tl "a"))]).sh = true ∧ (Tr.node k [chainR a (.leaf (tl "b")), chainR b (.leaf (tl "c")), chainR c (.leaf (tl "a"))]).lv = [tl "b", tl "c", tl "a"] := by
  obtain ⟨t1, s1, v1, p1, d1, _, _⟩ := chain_facts (tl "b") a
  obtain ⟨t2, s2, v2, p2, d2, _, _⟩ := chain_facts (tl "c") b
  obtain ⟨t3, s3, v3, p3, d3, _, _⟩ := chain_facts (tl "a") c
  have e : (Tr.node k [chainR a (.leaf (tl "b")), chainR b (.leaf (tl "c")), chainR c (.leaf (tl "a"))]).lv = [tl "b", tl "c", tl "a"] := by
    show (chainR a (.leaf (tl "b"))).lv ++ ((chainR b (.leaf (tl "c"))).lv ++ ((chainR c (.leaf (tl "a"))).lv ++ [])) = _
    rw [v1, v2, v3]; rfl
  refine ⟨⟨?_, by rw [e]; decide, by rw [e]; decide, by rw [e]; decide, ?_, ?_⟩, ?_, e⟩
  · show ((chainR a (.leaf (tl "b"))).tru && ((chainR b (.leaf (tl "c"))).tru && ((chainR c (.leaf (tl "a"))).tru && true))) = true
    rw [t1, t2, t3]; rfl
  · show max (chainR a (.leaf (tl "b"))).dp (max (chainR b (.leaf (tl "c"))).dp (max (chainR c (.leaf (tl "a"))).dp 0)) + 1 ≤ 24
    rw [d1, d2, d3]; omega
  · show (chainR a (.leaf (tl "b"))).pl + ((chainR b (.leaf (tl "c"))).pl + ((chainR c (.leaf (tl "a"))).pl + 0)) + 1 ≤ 60
    rw [p1, p2, p3]; omega
  · show (true && ((chainR a (.leaf (tl "b"))).sh && ((chainR b (.leaf (tl "c"))).sh && ((chainR c (.leaf (tl "a"))).sh && true)))) = true
    rw [s1, s2, s3]; rfl
theorem edge1 {a : List Kd} (ha : a.length = 24) : (chainR a (.leaf (tl "a"))).Ok ∧ (chainR a (.leaf (tl "a"))).sh = true ∧ (chainR a (.leaf (tl "a"))).lv = [tl "a"] := by
  obtain ⟨t1, s1, v1, p1, d1, _, _⟩ := chain_facts (tl "a") a
  exact ⟨⟨t1, by rw [v1]; decide, by rw [v1]; decide, by rw [v1]; decide, by rw [d1]; omega, by rw [p1]; omega⟩, s1, v1⟩
/-- lines w0, w1, .. -/
def wL (m : Nat) : List (List Nat) := (List.range m).map fun (k : Nat) => 119 :: decN (k : Nat)
theorem walks_lines : ∀ (L : List (List Nat)) (p : List Nat) (i : Nat) (s : Kn), (∀ c ∈ L, isNm c = true) → (s.names ++ L).Nodup → s.names.length ≤ 24 → 24 < (s.names ++ L).length → Tr.walks (L.map .leaf) p i s = .error .lines
  | [], p, i, s, _, _, h3, h4 => by rw [List.append_nil] at h4; omega
  | c :: r, p, i, s, h1, h2, h3, h4 => by
    have hc := h1 c List.mem_cons_self
    have hn : c ∉ s.names := fun m => (List.nodup_append.mp h2).2.2 c m c List.mem_cons_self rfl
    rw [List.map_cons, Tr.walks, Tr.walk]
    by_cases h : s.names.length < 24
    · rw [leafW_mk hc hn h]
      exact walks_lines r p (i + 1) ⟨s.names ++ [c], s.met⟩ (fun d m => h1 d (List.mem_cons_of_mem _ m)) (by rw [List.append_assoc]; exact h2) (by rw [List.length_append, List.length_singleton]; omega) (by rw [List.append_assoc]; exact h4)
    · have : leafW c s = .error .lines := by unfold leafW; rw [if_neg (by rw [hc]; decide), if_neg hn, if_pos (by omega)]
      rw [this]
theorem w25 (k : Kd) : (Tr.node k ((wL 25).map .leaf)).walk [] ⟨[], 0⟩ = .error .lines := by
  rw [Tr.walk, if_neg (by decide), if_neg (by decide)]
  exact walks_lines _ _ _ _ (by decide +kernel) (by decide +kernel) (by decide) (by decide +kernel)
theorem w25_lit (k : Kd) : (Tr.node k ((wL 25).map .leaf)).sh = true ∧ (Tr.node k ((wL 25).map .leaf)).lit ∧ (Tr.node k ((wL 25).map .leaf)).sz = 26 := by
  refine ⟨rfl, ?_, rfl⟩
  have h : ∀ L : List (List Nat), (∀ c ∈ L, c.length ≤ big) → Tr.lits (L.map .leaf) := fun L => by
    induction L with
    | nil => intro _; trivial
    | cons c r ih => exact fun h => ⟨h c List.mem_cons_self, ih fun d m => h d (List.mem_cons_of_mem _ m)⟩
  exact h _ fun c hc => nm_big ((by decide +kernel : ∀ c ∈ wL 25, isNm c = true) c hc)
theorem w24 (k : Kd) : (Tr.node k ((wL 24).map .leaf)).Ok ∧ (Tr.node k ((wL 24).map .leaf)).sh = true ∧ (Tr.node k ((wL 24).map .leaf)).lv = wL 24 := by
  have e : (Tr.node k ((wL 24).map .leaf)).lv = wL 24 := rfl
  exact ⟨⟨rfl, by rw [e]; decide +kernel, by rw [e]; decide +kernel, by rw [e]; decide +kernel, Nat.le_of_ble_eq_true rfl, Nat.le_of_ble_eq_true rfl⟩, rfl, e⟩
theorem nox_edge : NoX [tl "a"] ∧ NoX [tl "b", tl "c", tl "a"] ∧ NoX (wL 24) := ⟨⟨by decide, by decide⟩, ⟨by decide, by decide⟩, ⟨by decide +kernel, by decide +kernel⟩⟩
def sp_is_name : ASp := fun ds A q x => ∃ cs, ds = [.str cs] ∧ cs.length ≤ big ∧ q (.bl (isNm cs)) A
def sp_looks_like_place : ASp := fun ds A q x => ∃ d, ds = [d] ∧ lkOk d = true ∧ q (.bl (lkD d)) A
def sp_leaves_under : ASp := fun ds A q x => ∃ T : Tr, ds = [T.d] ∧ T.tru = true ∧ T.sz ≤ 1000000 ∧ q (.fl (T.lv.map D.str)) A
def sp__law_mix : ASp := fun ds A q x => ∃ i, ds = [.int i] ∧ ∀ j, 0 ≤ j → j < 18446744073709551557 → q (.int j) A
def spO__law_lotof : ASp := fun ds A q x => ∃ (L : List (List Nat)) (n : Int), ds = [.tup (L.map D.str), .int n] ∧ L.length ≤ 100000 ∧ ∀ S A', S.Sublist L → Ext A A' → (0 < n → n < 2 ^ L.length → S ≠ []) → q (.tup (S.map D.str)) A'
def sp__law_lotof : ASp := fun ds A q x => ∃ (L : List (List Nat)) (n : Int), ds = [.tup (L.map D.str), .int n] ∧ L.length ≤ 100000 ∧ ∀ S, S.Sublist L → (0 < n → n < 2 ^ L.length → S ≠ []) → q (.tup (S.map D.str)) A
def sp__law_nodes : ASp := fun ds A q x => ∃ T : Tr, ds = [T.d] ∧ T.tru = true ∧ T.sz ≤ 990 ∧ q (.fl (T.rows.map rowE)) A
def sp__law_at : ASp := fun ds A q x => ∃ (T : Tr) (p : List Nat) (u : Tr), ds = [T.d, pathD p] ∧ T.get p = some u ∧ q u.d A
def sp__law_put : ASp := fun ds A q x => ∃ (T : Tr) (p : List Nat) (v u : Tr), ds = [T.d, pathD p, u.d] ∧ T.get p = some v ∧ T.sz ≤ 1000000 ∧ q (T.put p u).d A
def spO__law_equal : ASp := fun ds A q x => ∃ d n, ds = [d, d] ∧ Pl n d ∧ n < 400000 ∧ ∀ A', Ext A A' → q (.bl true) A'
def sp__law_equal : ASp := fun ds A q x => ∃ d n, ds = [d, d] ∧ Pl n d ∧ n < 400000 ∧ q (.bl true) A
def hsp__law_error : HSp := fun a ε ds A q x => ds = [.ref a] ∧ ((∃ v0 : D, ε.cls = "BadName" ∧ A ε.d = some (.xd [("name", v0)]) ∧ q (.tup [.str (tl "BadName"), .tup [v0]]) A) ∨
  (∃ v0 : D, ε.cls = "Twice" ∧ A ε.d = some (.xd [("name", v0)]) ∧ q (.tup [.str (tl "Twice"), .tup [v0]]) A) ∨
  (∃ v0 v1 : D, ε.cls = "TooMany" ∧ A ε.d = some (.xd [("limit", v1), ("what", v0)]) ∧ q (.tup [.str (tl "TooMany"), .tup [v0, v1]]) A) ∨
  (∃ v0 : D, ε.cls = "BadTree" ∧ A ε.d = some (.xd [("path", v0)]) ∧ q (.tup [.str (tl "BadTree"), .tup [v0]]) A) ∨
  (∃ v0 : D, ε.cls = "BadLot" ∧ A ε.d = some (.xd [("at", v0)]) ∧ q (.tup [.str (tl "BadLot"), .tup [v0]]) A) ∨
  (∃ v0 : D, ε.cls = "NoSuchLine" ∧ A ε.d = some (.xd [("name", v0)]) ∧ q (.tup [.str (tl "NoSuchLine"), .tup [v0]]) A))
def sp__law_store : ASp := fun ds A q x => ∃ is : List Int, ds = [.lof (is.map D.int)] ∧ ∀ l A', St A' l 0 → q (.ref l) A'
def sp__law_take : ASp := fun ds A q x => ∃ l n many, ds = [.ref l, .int many] ∧ St A l n ∧ n ≤ 1000000000000000000 ∧ many ≤ 1000000000000000000000000000000 ∧ ∀ j A', 0 ≤ j → (j < many ∨ j = 0) → Kp l A A' → St A' l (n + 1) → q (.int j) A'
def sp__law_order : ASp := fun ds A q x => ∃ T : Tr, ds = [T.d] ∧ T.tru = true ∧ T.sz ≤ 990 ∧ q (.tup (T.lv.map D.str)) A
def sp__law_path : ASp := fun ds A q x => ∃ (T : Tr) (n : List Nat), ds = [T.d, .str n] ∧ T.tru = true ∧ T.sz ≤ 990 ∧ q (pathD (T.pth n)) A
def sp_refuse_leaf : ASp := fun ds A q x => ∃ (n : List Nat) (p : Addr) (kvs : List (Key × D)) (s : Kn), ds = [.str n, .ref p] ∧ n.length ≤ big ∧ A p = some (.dic kvs) ∧ Ks kvs s.names ∧
  (∀ s', leafW n s = .ok s' → q .non A) ∧ ∀ f, leafW n s = .error f → Rz A x f.cls f.fs
def placeW (d : D) (p : List Nat) (m : Nat) : Except Flt Unit := if lkD d = false then .error (.tree p) else if 24 ≤ p.length then .error .depth else if 60 ≤ m then .error .places else .ok ()
def sp_refuse_place : ASp := fun ds A q x => ∃ (d : D) (p : List Nat) (m : Nat), ds = [d, pathD p, .int (m : Nat)] ∧ lkOk d = true ∧
  (placeW d p m = .ok () → q .non A) ∧ ∀ f, placeW d p m = .error f → Rz A x f.cls f.fs
def sp_check_lot : ASp := fun ds A q x => ∃ (K L : List (List Nat)), ds = [.tup (K.map D.str), .tup (L.map D.str)] ∧ L.length ≤ 100000 ∧ (knoF K L = none → q (.tup (L.map D.str)) A) ∧
  (∀ cs, knoF K L = some (.inl cs) → Rz A x "NoSuchLine" [("name", .str cs)]) ∧ ∀ i, knoF K L = some (.inr i) → Rz A x "BadLot" [("at", .int (i : Nat))]
def sp__law_pick : ASp := fun ds A q x => ∃ l n d xs, ds = [.ref l, d] ∧ St A l n ∧ n ≤ 1000000000000000000 ∧ Items A d xs ∧ d ≠ .ref l ∧ xs ≠ [] ∧ xs.length ≤ big ∧ ∀ y A', y ∈ xs → Kp l A A' → St A' l (n + 1) → q y A'
def sp__law_shuffle : ASp := fun ds A q x => ∃ (l : Addr) (n : Nat) (d : D) (xs : List D), ds = [.ref l, d] ∧ St A l n ∧ n ≤ 100000000000000 ∧ ((∃ p, d = .ref p ∧ A p = some (.lst xs)) ∨ d = .tup xs ∨ d = .fl xs) ∧ d ≠ .ref l ∧ xs.length ≤ 100000 ∧
  ∀ (p : Addr) (ys : List D) A', ys.Perm xs → p ≠ l → A p = none → A' p = some (.lst ys) → Kp l A A' → St A' l (n + xs.length) → q (.ref p) A'
def sp__law_without : ASp := fun ds A q x => ∃ (T w : Tr) (n : List Nat), ds = [T.d, .str n] ∧ T.tru = true ∧ T.sz ≤ 990 ∧ n ∈ T.lv ∧ T.rem (T.pth n) = some w ∧ q w.d A
def sp_check_tree : ASp := fun ds A q x => ∃ T : Tr, ds = [T.d] ∧ TreeX T A x (q T.d A)
def sp__law_some : ASp := fun ds A q x => ∃ (l : Addr) (n : Nat) (d : D) (xs : List D) (many : Nat), ds = [.ref l, d, .int (many : Nat)] ∧ St A l n ∧ n ≤ 1000000000000 ∧ (d = .tup xs ∨ d = .fl xs) ∧ xs.length ≤ 100000 ∧
  ∀ (ys : List D) A', ys.Sublist xs → ys.length = min many xs.length → Go l A A' (n + xs.length) → q (.fl ys) A'
def sp__law_tree : ASp := fun ds A q x => ∃ (l : Addr) (n : Nat) (L : List (List Nat)), ds = [.ref l, .tup (L.map D.str)] ∧ St A l n ∧ n ≤ 100000000000 ∧ L ≠ [] ∧ L.length ≤ 24 ∧ L.Nodup ∧ (∀ c ∈ L, isNm c = true) ∧
  ∀ (T : Tr) A', T.Ok → T.sh = true → T.lv.Perm L → T.pl ≤ 24 → Go l A A' (n + 300) → q T.d A'
def sp__law_chain : ASp := fun ds A q x => ∃ (l : Addr) (n many : Nat) (t : Tr), ds = [.ref l, .int (many : Nat), t.d] ∧ St A l n ∧ n ≤ 1000000000000 ∧ many ≤ 1000 ∧ ∀ (ks : List Kd) A', ks.length = many → Go l A A' (n + many) → q (chainT ks t).d A'
def sp__law_names : ASp := fun ds A q x => ∃ (l : Addr) (n many : Nat), ds = [.ref l, .int (many : Nat)] ∧ St A l n ∧ n ≤ 100000000000 ∧ 1 ≤ many ∧ many ≤ 24 ∧
  ∀ (L : List (List Nat)) A', L.length = many → Asc L → (∀ c ∈ L, isNm c = true) → NoX L → Go l A A' (n + 60) → q (.tup (L.map D.str)) A'
def sp__law_leftover : ASp := fun ds A q x => ∃ (T w : Tr) (L : List (List Nat)), ds = [T.d, .tup (L.map D.str)] ∧ T.Ok ∧ T.sh = true ∧ T.stk L = some w ∧ q w.d A
def sp_lines_of : ASp := fun ds A q x => ∃ T : Tr, ds = [T.d] ∧ TreeX T A x (q (.tup ((srtN T.lv).map D.str)) A)
def sp__law_lot : ASp := fun ds A q x => ∃ (l : Addr) (n : Nat) (L : List (List Nat)), ds = [.ref l, .tup (L.map D.str)] ∧ St A l n ∧ n ≤ 100000000000 ∧ L ≠ [] ∧ L.length ≤ 24 ∧
  ∀ (S : List (List Nat)) A', S.Sublist L → S ≠ [] → Go l A A' (n + 26) → q (.tup (S.map D.str)) A'
def sp__law_edge : ASp := fun ds A q x => ∃ (l : Addr) (n : Nat), ds = [.ref l] ∧ St A l n ∧ n ≤ 100000000000 ∧ ∀ (T : Tr) A', T.Ok → T.sh = true → NoX T.lv → Go l A A' (n + 70) → q T.d A'
def Flt.vs : Flt → List D
  | .name n => [.str n]
  | .twice n => [.str n]
  | .lines => [.str (tl "lines"), .int 24]
  | .tree p => [pathD p]
  | .depth => [.str (tl "depth"), .int 24]
  | .places => [.str (tl "places"), .int 60]
def sp__law_wrongnest : ASp := fun ds A q x => ∃ (l : Addr) (n : Nat) (T : Tr), ds = [.ref l, T.d] ∧ St A l n ∧ n ≤ 10000000000 ∧ T.Ok ∧ T.sh = true ∧
  ∀ (t : Tr) (f : Flt) A', t.sh = true → t.lit → t.sz ≤ 1000 → t.walk [] ⟨[], 0⟩ = .error f → (∀ p, f = .tree p → p.length ≤ 1000) → Go l A A' (n + 100) → q (.fl [t.d, .str (tl f.cls), .tup f.vs]) A'
def sp__law_grove : ASp := fun ds A q x => ∃ (l : Addr) (n most : Nat), ds = [.ref l, .int (most : Nat)] ∧ St A l n ∧ n ≤ 10000000000 ∧ 1 ≤ most ∧ most ≤ 24 ∧ ∀ (T : Tr) A', T.Ok → T.sh = true → NoX T.lv → Go l A A' (n + 400) → q T.d A'
def kCls : Sum (List Nat) Nat → Str
  | .inl _ => "NoSuchLine"
  | .inr _ => "BadLot"
def kVal : Sum (List Nat) Nat → D
  | .inl c => .str c
  | .inr i => .int (i : Nat)
def sp__law_wronglot : ASp := fun ds A q x => ∃ (l : Addr) (n : Nat) (L : List (List Nat)), ds = [.ref l, .tup (L.map D.str)] ∧ St A l n ∧ n ≤ 10000000000 ∧ L ≠ [] ∧ L.length ≤ 24 ∧ Asc L ∧ (∀ c ∈ L, isNm c = true) ∧ NoX L ∧
  ∀ (M : List (List Nat)) (e : Sum (List Nat) Nat) A', M.length ≤ 100 → knoF L M = some e → Go l A A' (n + 100) → q (.fl [.tup (M.map D.str), .str (tl (kCls e)), .tup [kVal e]]) A'
def sp__law_world : ASp := fun ds A q x => ∃ (l : Addr), ds = [.ref l] ∧ St A l 0 ∧
  ∀ (T O : Tr) (lot inner M : List (List Nat)) (e : Sum (List Nat) Nat) (t : Tr) (f : Flt) A', T.Ok → T.sh = true → O.Ok → O.sh = true → O.lv.Perm T.lv → lot.Sublist (srtN T.lv) → lot ≠ [] → inner.Sublist lot → inner ≠ [] →
    M.length ≤ 100 → knoF (srtN T.lv) M = some e → t.sh = true → t.lit → t.sz ≤ 1000 → t.walk [] ⟨[], 0⟩ = .error f → (∀ p, f = .tree p → p.length ≤ 1000) →
    q (.fl [T.d, O.d, .tup ((srtN T.lv).map D.str), .tup (lot.map D.str), .tup (inner.map D.str), .fl [.tup (M.map D.str), .str (tl (kCls e)), .tup [kVal e]], .fl [t.d, .str (tl f.cls), .tup f.vs]]) A'
def spr_struck : Nat → ASp := fun n ds A q x => ∃ (T : Tr) (L : List (List Nat)), ds = [T.d, .tup (L.map D.str)] ∧ T.tru = true ∧ T.dp < n ∧ T.sz ≤ 1000000 ∧ q (optD (T.stk L)) A
def sp_struck : ASp := spr_struck 30
def sp_strike : ASp := fun ds A q x => ∃ (T : Tr) (L : List (List Nat)), ds = [T.d, .tup (L.map D.str)] ∧ L.length ≤ 100000 ∧ TreeX T A x ((knoF (srtN T.lv) L = none → q (optD (T.stk L)) A) ∧
  (∀ cs, knoF (srtN T.lv) L = some (.inl cs) → Rz A x "NoSuchLine" [("name", .str cs)]) ∧ ∀ i, knoF (srtN T.lv) L = some (.inr i) → Rz A x "BadLot" [("at", .int (i : Nat))])
/-- what the law tells of a strike -/
def triedD (T : Tr) (L : List (List Nat)) : D := match T.walk [] ⟨[], 0⟩ with
  | .error f => .tup [.str (tl f.cls), .tup f.vs]
  | .ok _ => match knoF (srtN T.lv) L with
    | some e => .tup [.str (tl (kCls e)), .tup [kVal e]]
    | none => .tup [.str (tl ""), optD (T.stk L)]
def sp__law_tried : ASp := fun ds A q x => ∃ (T : Tr) (L : List (List Nat)), ds = [T.d, .tup (L.map D.str)] ∧ L.length ≤ 100000 ∧ T.sh = true ∧ T.lit ∧ T.sz ≤ 1000000 ∧ q (triedD T L) A
theorem tried_ok {T : Tr} {L : List (List Nat)} (h : T.Ok) {w : Tr} (hw : T.stk L = some w) (hA : Asc L) (hL : ∀ c ∈ L, c ∈ T.lv) (hn : L ≠ []) : triedD T L = .tup [.str (tl ""), w.d] := by
  unfold triedD
  rw [h.walk]
  show (match knoF (srtN T.lv) L with | some e => _ | none => _) = _
  rw [kno_good (K := srtN T.lv) (fun c m => (srtN_perm T.lv).mem_iff.mpr (hL c m)) hA hn, hw]
  rfl
theorem told_pl {w : Tr} (h : w.Ok) : ∃ n, Pl n (.tup [.str (tl ""), w.d]) ∧ n < 400000 := by
  obtain ⟨n, h1, h2⟩ := w.plain h.tru
  have := h.sz
  exact ⟨_, .tup (.cons (.str _) (.cons h2 .nil)), by omega⟩
theorem stk_some {T : Tr} {L : List (List Nat)} (h : T.Ok) (hL : ∀ c ∈ L, c ∈ T.lv) (hn : L ≠ []) : ∃ w, T.stk L = some w ∧ w.Ok ∧ w.sh = true ∧ w.lv = T.lv.filter fun c => decide (c ∈ L) := by
  obtain ⟨c, hc⟩ := List.exists_mem_of_ne_nil _ hn
  obtain ⟨w, hw⟩ := Tr.stp_some (f := fun c => decide (c ∈ L)) h (hL c hc) (by simpa using hc)
  obtain ⟨a, b, d⟩ := Tr.stp_ok h hw
  exact ⟨w, by rw [Tr.stk_stp]; exact hw, a, b, d⟩
def sp__law_struckright : ASp := fun ds A q x => ∃ (T : Tr) (lines lot inner : List (List Nat)), ds = [T.d, .tup (lines.map D.str), .tup (lot.map D.str), .tup (inner.map D.str)] ∧ T.Ok ∧ T.sh = true ∧ lines = srtN T.lv ∧ lot.Sublist lines ∧ lot ≠ [] ∧ inner.Sublist lot ∧ inner ≠ [] ∧ q (.bl true) A
def sp_law : ASp := fun ds A q x => ∃ is : List Int, ds = [.lof (is.map D.int)] ∧ ∀ A', q (.bl true) A'
def as_is_name_8 : AS := (aIf (aTest (aOp aNiS (aVar 1) (aC (.str (tl "abcdefghijklmnopqrstuvwxyz0123456789."))))) (aRet (aC (.bl false))) aNext)
def as_is_name_10 : AS := (aRet (aOp aNiS (aC (.str (tl ".."))) (aVar 0)))
def as_is_name_7 : AS := (aSeq (aFor (aIter (aVar 0)) (agName 1) as_is_name_8) as_is_name_10)
def as_is_name_5 : AS := (aSeq (aIf (aOrT (aTest (aOp aNiS (aOp aIx (aVar 0) (aC (.int 0))) (aC (.str (tl "abcdefghijklmnopqrstuvwxyz"))))) (aTest (aOp aEq (aOp aIx (aVar 0) (aNeg (aC (.int 1)))) (aC (.str (tl ".")))))) (aRet (aC (.bl false))) aNext) as_is_name_7)
def as_is_name_3 : AS := (aSeq (aIf (aTest (aOp aInS (aVar 0) (aC (.tup [.str (tl "first"), .str (tl "back"), .str (tl "round"), .str (tl "let"), .str (tl "tree")])))) (aRet (aC (.bl false))) aNext) as_is_name_5)
def as_is_name : AS := (aSeq (aIf (aNotT (aTest (aChain aLe aLe (aC (.int 1)) (aBlt aLen (aCons (aVar 0) aNil)) (aC (.int 12))))) (aRet (aC (.bl false))) aNext) as_is_name_3)

theorem pure_is_name (ds : List D) (A : Ah) (q : D → Ah → Prop) (x : AX) : sp_is_name ds A q x → as_is_name (endsA q x) (startA ["name", "sign"] ds) A := by
  rintro ⟨cs, rfl, hb, h⟩
  have no : isNm cs = false → q (.bl false) A := fun e => e ▸ h
  (conv => whnf)
  refine ⟨hb, ?_⟩
  (conv => whnf)
  have rest : 1 ≤ cs.length → cs.length ≤ 12 → as_is_name_3 (endsA q x) [some (.str cs), none] A := by
    intro l1 l2
    (conv => whnf)
    refine ⟨rfl, by decide, ?_⟩
    (conv => whnf)
    refine ⟨fun hk => no (isNm_kept _ hk), fun hk => ?_⟩
    have hk : inD (.str cs) keptD = false := hk
    (conv => whnf)
    obtain ⟨c, r, rfl⟩ : ∃ c r, cs = c :: r := by
      cases cs with
      | nil => cases l1
      | cons c r => exact ⟨c, r, rfl⟩
    refine ⟨hb, c, atI_zero, ?_⟩
    (conv => whnf)
    refine ⟨fun hh => ?_, fun hh => ?_⟩
    · (conv => whnf)
      refine ⟨fun _ => ?_, nofun⟩
      refine no ?_
      have : hdL (c :: r) = false := by
        have hh : (!decide (c ∈ lettersD)) = true := hh
        simpa [hdL] using hh
      unfold isNm; rw [this]; simp
    have hh : hdL (c :: r) = true := by
      have hh : (!decide (c ∈ lettersD)) = false := hh
      simpa [hdL] using hh
    obtain ⟨z, e1, _⟩ := atI_last (cs := c :: r) (by simp)
    (conv => whnf)
    refine ⟨hb, z, e1, ?_⟩
    have hz : (c :: r).getLast? = some z := by
      have : L2.atI (c :: r) (-1) = (c :: r).getLast? := by
        unfold L2.atI L2.ixN
        rw [if_neg (by omega), if_pos (by simp; omega), Option.bind_some, List.getLast?_eq_getElem?]
        congr 1
        simp
        omega
      rw [← this]; exact e1
    (conv => whnf)
    refine ⟨fun h46 => ?_, fun h46 => ?_⟩
    · refine no ?_
      have h46 : z = 46 := by
        have := of_decide_eq_true h46
        injection this
      have : lstN (c :: r) = false := by unfold lstN; rw [hz, h46]; rfl
      unfold isNm; rw [this]; simp
    have h46 : lstN (c :: r) = true := by
      have := of_decide_eq_false h46
      have hz46 : z ≠ 46 := fun e => this (by rw [e]; rfl)
      unfold lstN; rw [hz]
      simpa using hz46
    (conv => whnf)
    refine ⟨fun i Γ A' => A' = A ∧ (∃ s, Γ = [some (.str (c :: r)), s]) ∧ ∀ k, k < i → (c :: r).getD k 0 ∈ signsD, ⟨rfl, ⟨none, rfl⟩, nofun⟩, fun _ _ _ _ _ => trivial, ?_, ?_⟩
    · rintro i Γ A' (hi : i < (c :: r).length) ⟨rfl, ⟨s, rfl⟩, hall⟩
      (conv => whnf)
      refine ⟨fun hs => ?_, fun hs => ?_⟩
      · refine no ?_
        have hs : ((c :: r).getD i 0) ∉ signsD := by
          have hs : (!decide ((c :: r).getD i 0 ∈ signsD)) = true := hs
          simpa using hs
        have hm : (c :: r).getD i 0 ∈ (c :: r) := by
          rw [List.getD_eq_getElem?_getD, List.getElem?_eq_getElem hi]; exact List.getElem_mem _
        have : (c :: r).all (fun c => decide (c ∈ signsD)) = false := by
          rw [List.all_eq_false]
          exact ⟨_, hm, by simpa using hs⟩
        unfold isNm; rw [this]; simp
      · have hs : ((c :: r).getD i 0) ∈ signsD := by
          have hs : (!decide ((c :: r).getD i 0 ∈ signsD)) = false := hs
          simpa using hs
        (conv => whnf)
        refine ⟨rfl, ⟨_, rfl⟩, fun k hk => ?_⟩
        rcases Nat.lt_succ_iff_lt_or_eq.mp hk with hk | rfl
        · exact hall k hk
        · exact hs
    · rintro Γ A' ⟨rfl, ⟨s, rfl⟩, hall⟩
      have hall : ∀ k, k < (c :: r).length → (c :: r).getD k 0 ∈ signsD := hall
      (conv => whnf)
      have : isNm (c :: r) = !inL (tl "..") (c :: r) := by
        have ha : (c :: r).all (fun c => decide (c ∈ signsD)) = true := by
          rw [List.all_eq_true]
          intro y hy
          obtain ⟨k, hk, rfl⟩ := List.mem_iff_getElem.mp hy
          have := hall k hk
          rw [List.getD_eq_getElem?_getD, List.getElem?_eq_getElem hk] at this
          simpa using this
        unfold isNm
        rw [ha, h46, hh, hk]
        simp only [l1, l2, decide_true, Bool.true_and, Bool.not_false]
      rw [this] at h
      exact h
  refine ⟨fun h1 => ?_, fun h1 => ?_⟩
  · (conv => whnf)
    have h1 : 1 ≤ cs.length := by have := of_decide_eq_true h1; omega
    refine ⟨fun h2 => ?_, fun h2 => ?_⟩
    · refine no (isNm_long _ ?_)
      have h2 : (!decide ((cs.length : Int) ≤ 12)) = true := h2
      simp at h2; omega
    · refine rest h1 ?_
      have h2 : (!decide ((cs.length : Int) ≤ 12)) = false := h2
      simp at h2; omega
  · (conv => whnf)
    refine ⟨fun _ => no ?_, nofun⟩
    have : cs.length = 0 := by have := of_decide_eq_false h1; omega
    rw [List.length_eq_zero_iff.mp this]; rfl
theorem len_is_name (ds : List D) (A : Ah) (q : D → Ah → Prop) (x : AX) : sp_is_name ds A q x → ds.length = 1 := by
  rintro ⟨cs, rfl, _⟩; rfl
def as_looks_like_place_3 : AS := (aRet (aAndV (aOp (aInU false) (aOp aIx (aVar 0) (aC (.int 0))) (aC (.tup [.str (tl "first"), .str (tl "back"), .str (tl "round")]))) (aAndV (aBlt aIsi (aCons (aOp aIx (aVar 0) (aC (.int 1))) (aCons (aC (.ty "tuple")) aNil))) (aOp aGt (aBlt aLen (aCons (aOp aIx (aVar 0) (aC (.int 1))) aNil)) (aC (.int 0))))))
def as_looks_like_place : AS := (aSeq (aIf (aOrT (aNotT (aTest (aBlt aIsi (aCons (aVar 0) (aCons (aC (.ty "tuple")) aNil))))) (aTest (aOp aNe (aBlt aLen (aCons (aVar 0) aNil)) (aC (.int 2))))) (aRet (aC (.bl false))) aNext) as_looks_like_place_3)

theorem flat_kinds : D.flats 60 kindsD = true := by decide +kernel
theorem pure_looks_like_place (ds : List D) (A : Ah) (q : D → Ah → Prop) (x : AX) : sp_looks_like_place ds A q x → as_looks_like_place (endsA (shr q) x) (startA ["nest"] ds) A := by
  rintro ⟨d, rfl, hd, h⟩
  have no : lkD d = false → shr q (.bl false) A := fun e => shr_same (e ▸ h)
  cases d with
  | tup xs =>
    (repeat ((conv => whnf); first | (refine ⟨?_, fun _ => ?_⟩; · (intro z; cases z)) | (refine ⟨fun _ => ?_, ?_⟩; rotate_left; · (intro z; cases z)) | (refine ⟨?_, fun _ => ?_⟩; · (intro z; exact absurd z (by decide))) | (refine ⟨fun _ => ?_, ?_⟩; rotate_left; · (intro z; exact absurd z (by decide)))))
    by_cases h2 : xs.length = 2
    · match xs, h2 with
      | [a, b], _ =>
        have hd : (a.flat 60 && visD b) = true := hd
        obtain ⟨ha, hb⟩ := (Bool.and_eq_true _ _).mp hd
        have h : q (.bl (inD a kindsD && neTup b)) A := h
        (conv => whnf)
        refine ⟨_, rfl, by decide, ?_⟩
        (repeat ((conv => whnf); first | (refine ⟨?_, fun _ => ?_⟩; · (intro z; cases z)) | (refine ⟨fun _ => ?_, ?_⟩; rotate_left; · (intro z; cases z)) | (refine ⟨?_, fun _ => ?_⟩; · (intro z; exact absurd z (by decide))) | (refine ⟨fun _ => ?_, ?_⟩; rotate_left; · (intro z; exact absurd z (by decide)))))
        refine ⟨_, atI_zero', ?_⟩
        (conv => whnf)
        refine ⟨ha, flat_kinds, ?_⟩
        show ((match D.bl (inD a kindsD) with | .bl b => bsel b _ _ | _ => False) : Prop)
        (conv => whnf)
        refine ⟨fun e => ?_, fun e => ?_⟩
        · have e : inD a kindsD = true := e
          rw [e] at h
          (conv => whnf)
          refine ⟨_, atI_one', ?_⟩
          cases b with
          | tup ys =>
            (conv => whnf)
            refine ⟨_, rfl, by decide, ?_⟩
            (repeat ((conv => whnf); first | (refine ⟨?_, fun _ => ?_⟩; · (intro z; cases z)) | (refine ⟨fun _ => ?_, ?_⟩; rotate_left; · (intro z; cases z)) | (refine ⟨?_, fun _ => ?_⟩; · (intro z; exact absurd z (by decide))) | (refine ⟨fun _ => ?_, ?_⟩; rotate_left; · (intro z; exact absurd z (by decide)))))
            refine ⟨_, atI_one', ?_⟩
            (conv => whnf)
            refine shr_same ?_
            have e2 : decide ((0 : Int) < (ys.length : Int)) = !ys.isEmpty := by cases ys <;> simp
            rw [e2]; exact h
          | ref _ => cases hb
          | ty _ => cases hb
          | lof _ => cases hb
          | _ =>
            (conv => whnf)
            refine ⟨_, rfl, by decide, ?_⟩
            (conv => whnf)
            refine ⟨fun z => absurd z (by decide), fun _ => ?_⟩
            exact shr_same h
        · have e : inD a kindsD = false := e
          rw [e] at h
          exact shr_same h
    · have h3 : lkD (.tup xs) = false := by
        match xs, h2 with
        | [], _ => rfl
        | [_], _ => rfl
        | _ :: _ :: _ :: _, _ => rfl
      (conv => whnf)
      refine ⟨_, rfl, by decide, ?_⟩
      (repeat ((conv => whnf); first | (refine ⟨?_, fun _ => ?_⟩; · (intro z; cases z)) | (refine ⟨fun _ => ?_, ?_⟩; rotate_left; · (intro z; cases z)) | (refine ⟨?_, fun _ => ?_⟩; · (intro z; exact absurd z (by decide))) | (refine ⟨fun _ => ?_, ?_⟩; rotate_left; · (intro z; exact absurd z (by decide)))))
      have h4 : (!decide ((xs.length : Int) = 2)) = true := by simp; omega
      (conv => whnf)
      refine ⟨fun _ => ?_, fun z => absurd (z.symm.trans h4) (by decide)⟩
      exact no h3
  | ref _ => cases hd
  | ty _ => cases hd
  | lof _ => cases hd
  | _ =>
    (conv => whnf)
    refine ⟨_, rfl, by decide, ?_⟩
    (repeat ((conv => whnf); first | (refine ⟨?_, fun _ => ?_⟩; · (intro z; cases z)) | (refine ⟨fun _ => ?_, ?_⟩; rotate_left; · (intro z; cases z)) | (refine ⟨?_, fun _ => ?_⟩; · (intro z; exact absurd z (by decide))) | (refine ⟨fun _ => ?_, ?_⟩; rotate_left; · (intro z; exact absurd z (by decide)))))
    exact no rfl
theorem len_looks_like_place (ds : List D) (A : Ah) (q : D → Ah → Prop) (x : AX) : sp_looks_like_place ds A q x → ds.length = 1 := by
  rintro ⟨d, rfl, _⟩; rfl
def as_leaves_under_5 : AS := (aIf (aTest (aBlt aIsi (aCons (aVar 3) (aCons (aC (.ty "str")) aNil)))) (aDrop (aMethL aAppend (aVar 2) (aCons (aVar 3) aNil))) (aDrop (aMethL aExtendU (aVar 1) (aCons (aRevU (aOp aIx (aVar 3) (aC (.int 1)))) aNil))))
def as_leaves_under_4 : AS := (aSeq (aAsg (aMethL aPop (aVar 1) aNil) (agName 3)) as_leaves_under_5)
def as_leaves_under_3 : AS := (aSeq (aWhile (aTruth (aVar 1)) as_leaves_under_4) (aRet (aFrz (aVar 2))))
def as_leaves_under_2 : AS := (aSeq (aAsg (aLst aNil) (agName 2)) as_leaves_under_3)
def as_leaves_under : AS := (aSeq (aAsg (aLst (aCons (aVar 0) aNil)) (agName 1)) as_leaves_under_2)

theorem pure_leaves_under (ds : List D) (A : Ah) (q : D → Ah → Prop) (x : AX) : sp_leaves_under ds A q x → as_leaves_under (endsA (shr q) x) (startA ["subtree", "left", "found", "one"] ds) A := by
  rintro ⟨T, rfl, ht, hsz, h⟩
  (conv => whnf)
  refine ⟨Nat.le_of_ble_eq_true rfl, fun p hp => ?_⟩
  (conv => whnf)
  refine ⟨Nat.le_of_ble_eq_true rfl, fun f hf => ?_⟩
  have ep : updA A p (.lst [T.d]) p = some (.lst [T.d]) := updA_same
  have hpf : p ≠ f := neA ep hf
  have hAf : A f = none := (Ext.new hp).none hf
  have ep := Ext.new (c := .lst []) hf _ _ ep
  have ef : updA (updA A p (.lst [T.d])) f (.lst []) f = some (.lst []) := updA_same
  have G : Ext A (updA (updA A p (.lst [T.d])) f (.lst [])) := (Ext.new hp).newer hf
  generalize updA (updA A p (.lst [T.d])) f (.lst []) = A1 at ep ef G ⊢
  refine ⟨fun n Γ A' => ∃ (S : List Tr) (F : List (List Nat)) (a : Option D), Γ = [some T.d, some (.ref p), some (.ref f), a] ∧ Ext A A' ∧ A' p = some (.lst (S.map Tr.d).reverse) ∧ A' f = some (.lst (F.map D.str)) ∧
    n = Tr.szs S ∧ Tr.szs S + F.length ≤ 1000000 ∧ Tr.trus S = true ∧ F ++ Tr.lvs S = T.lv, ⟨_, [T], [], _, rfl, G, ep, ef, rfl, by simp only [Tr.szs, List.length_nil]; omega, by simp [Tr.trus, ht], by simp [Tr.lvs]⟩, ?_⟩
  rintro n Γ A2 ⟨S, F, a, rfl, G2, ep2, ef2, rfl, hb, hS, hF⟩
  (conv => whnf)
  refine ⟨_, ep2, ?_⟩
  (conv => whnf)
  have hsl := Tr.szs_len S
  cases S with
  | nil =>
    refine ⟨fun z => absurd z (by simp), fun _ => ?_⟩
    rw [Tr.lvs, List.append_nil] at hF
    subst hF
    (conv => whnf)
    refine ⟨_, ef2, ?_⟩
    exact ⟨A, G2.del hAf, h⟩
  | cons t r =>
    have eL : ((t :: r).map Tr.d).reverse = (r.map Tr.d).reverse ++ [t.d] := by rw [List.map_cons, List.reverse_cons]
    rw [eL] at ep2 ⊢
    have hS : (t.tru && Tr.trus r) = true := hS
    obtain ⟨ht1, hr1⟩ := (Bool.and_eq_true _ _).mp hS
    have htp := t.sz_pos
    have hrl := Tr.szs_len r
    have hsz2 : Tr.szs (t :: r) = t.sz + Tr.szs r := rfl
    refine ⟨fun _ => ?_, fun z => absurd z (by simp)⟩
    (conv => whnf)
    refine ⟨⟨_, ep2⟩, ?_⟩
    (conv => whnf)
    refine ⟨_, ep2, t.d, by simp, ?_⟩
    rw [List.dropLast_concat]
    have G3 : Ext A (updA A2 p (.lst (r.map Tr.d).reverse)) := G2.upd hp
    have ef3 : updA A2 p (.lst (r.map Tr.d).reverse) f = some (.lst (F.map D.str)) := by rw [updA_ne (Ne.symm hpf)]; exact ef2
    have ep3 : updA A2 p (.lst (r.map Tr.d).reverse) p = some (.lst (r.map Tr.d).reverse) := updA_same
    generalize updA A2 p (.lst (r.map Tr.d).reverse) = A3 at G3 ef3 ep3 ⊢
    rcases tru_d ht1 with ⟨n, rfl⟩ | ⟨k, ts, rfl, hts⟩
    · (conv => whnf)
      refine ⟨_, rfl, by decide, ?_⟩
      (repeat ((conv => whnf); first | (refine ⟨?_, fun _ => ?_⟩; · (intro z; cases z)) | (refine ⟨fun _ => ?_, ?_⟩; rotate_left; · (intro z; cases z)) | (refine ⟨?_, fun _ => ?_⟩; · (intro z; exact absurd z (by decide))) | (refine ⟨fun _ => ?_, ?_⟩; rotate_left; · (intro z; exact absurd z (by decide)))))
      refine ⟨⟨_, ef3⟩, ?_⟩
      (conv => whnf)
      refine ⟨_, ef3, by rw [List.length_map, big_eq]; omega, ?_⟩
      refine ⟨Tr.szs r, by omega, r, F ++ [n], _, rfl, G3.upd hAf, by rw [updA_ne hpf]; exact ep3, by rw [updA_same, List.map_append]; rfl, rfl, by rw [List.length_append, List.length_singleton]; omega, hr1, ?_⟩
      rw [List.append_assoc]; exact hF
    · (conv => whnf)
      refine ⟨_, rfl, by decide, ?_⟩
      (repeat ((conv => whnf); first | (refine ⟨?_, fun _ => ?_⟩; · (intro z; cases z)) | (refine ⟨fun _ => ?_, ?_⟩; rotate_left; · (intro z; cases z)) | (refine ⟨?_, fun _ => ?_⟩; · (intro z; exact absurd z (by decide))) | (refine ⟨fun _ => ?_, ?_⟩; rotate_left; · (intro z; exact absurd z (by decide)))))
      refine ⟨⟨_, ep3⟩, ?_⟩
      (conv => whnf)
      refine ⟨_, atI_one', ?_⟩
      (conv => whnf)
      have hszn : (Tr.node k ts).sz = Tr.szs ts + 1 := rfl
      have htl := Tr.szs_len ts
      have htd : (Tr.ds ts).length = ts.length := by rw [Tr.ds_map, List.length_map]
      refine ⟨_, ep3, by rw [List.length_reverse, List.length_map, List.length_reverse, htd, big_eq]; omega, ?_⟩
      refine ⟨Tr.szs (ts ++ r), by rw [Tr.szs_app]; omega, ts ++ r, F, _, rfl, G3.upd hp, ?_, by rw [updA_ne (Ne.symm hpf)]; exact ef3, rfl, by rw [Tr.szs_app]; omega, ?_, ?_⟩
      · rw [updA_same, List.map_append, List.reverse_append, Tr.ds_map]
      · rw [Tr.trus_iff] at hts hr1 ⊢
        intro t ht
        rcases List.mem_append.mp ht with ht | ht
        · exact hts t ht
        · exact hr1 t ht
      · rw [Tr.lvs_app]; exact hF
theorem len_leaves_under (ds : List D) (A : Ah) (q : D → Ah → Prop) (x : AX) : sp_leaves_under ds A q x → ds.length = 1 := by
  rintro ⟨T, rfl, _⟩; rfl
def as__law_mix_5 : AS := (aRet (aOp aMod (aBlt aInt (aCons (aOp aAdd (aOp aAdd (aOp aMul (aOp aDiv (aVar 2) (aC (.int 65536))) (aC (.int 40503))) (aOp aMul (aVar 2) (aC (.int 2654435761)))) (aC (.int 668265263))) aNil)) (aVar 1)))
def as__law_mix_4 : AS := (aSeq (aAsg (aOp aMod (aBlt aInt (aCons (aOp aAdd (aOp aAdd (aOp aMul (aVar 2) (aVar 2)) (aOp aMul (aOp aDiv (aVar 2) (aC (.int 4294967296))) (aC (.int 2246822519)))) (aC (.int 3266489917))) aNil)) (aVar 1)) (agName 2)) as__law_mix_5)
def as__law_mix_3 : AS := (aSeq (aAsg (aOp aMod (aBlt aInt (aCons (aOp aAdd (aOp aMul (aVar 2) (aC (.int 6364136223846793005))) (aC (.int 1442695040888963407))) aNil)) (aVar 1)) (agName 2)) as__law_mix_4)
def as__law_mix_2 : AS := (aSeq (aAsg (aOp aMod (aBlt aInt (aCons (aVar 0) aNil)) (aVar 1)) (agName 2)) as__law_mix_3)
def as__law_mix : AS := (aSeq (aAsg (aC (.int 18446744073709551557)) (agName 1)) as__law_mix_2)

theorem pure__law_mix (ds : List D) (A : Ah) (q : D → Ah → Prop) (x : AX) : sp__law_mix ds A q x → as__law_mix (endsA q x) (startA ["number", "large", "value"] ds) A := by
  rintro ⟨i, rfl, h⟩
  repeat (
    (conv => whnf)
    refine ⟨?_, ?_⟩
    · first | exact small_mod | exact small_mdiv | exact small_mdiv2 | exact small128 (by decide) (by decide) | decide)
  exact h _ mod_lo mod_hi
theorem len__law_mix (ds : List D) (A : Ah) (q : D → Ah → Prop) (x : AX) : sp__law_mix ds A q x → ds.length = 1 := by
  rintro ⟨i, rfl, h⟩; rfl
def as__law_lotof_5 : AS := (aAsg (aOp aDiv (aVar 1) (aC (.int 2))) (agName 1))
def as__law_lotof_3 : AS := (aSeq (aIf (aTest (aOp aEq (aOp aMod (aBlt aInt (aCons (aVar 1) aNil)) (aC (.int 2))) (aC (.int 1)))) (aDrop (aMethL aAppend (aVar 2) (aCons (aVar 3) aNil))) aNext) as__law_lotof_5)
def as__law_lotof_6 : AS := (aRet (aBlt aTuple (aCons (aVar 2) aNil)))
def as__law_lotof_2 : AS := (aSeq (aFor (aIter (aVar 0)) (agName 3) as__law_lotof_3) as__law_lotof_6)
def as__law_lotof : AS := (aSeq (aAsg (aLst aNil) (agName 2)) as__law_lotof_2)

theorem pureO__law_lotof (ds : List D) (A : Ah) (q : D → Ah → Prop) (x : AX) : spO__law_lotof ds A q x → as__law_lotof (endsA q x) (startA ["lines", "number", "found", "line"] ds) A := by
  rintro ⟨L, n, rfl, hl, h⟩
  (conv => whnf)
  refine ⟨Nat.le_of_ble_eq_true rfl, fun p hp => ?_⟩
  (conv => whnf)
  refine ⟨fun i Γ A' => ∃ (m : Int) (S : List (List Nat)) (a : Option D), Γ = [some (.tup (L.map D.str)), some (.int m), some (.ref p), a] ∧ Ext A A' ∧ A' p = some (.lst (S.map D.str)) ∧ S.Sublist (L.take i) ∧ (0 < n → n < 2 ^ L.length → S ≠ [] ∨ (0 < m ∧ m < 2 ^ (L.length - i))), ?_, fun _ _ _ _ _ => trivial, ?_, ?_⟩
  · exact ⟨n, [], _, rfl, .new hp, updA_same, List.nil_sublist _, fun a b => .inr ⟨a, b⟩⟩
  · rintro i Γ A' (hi : i < (L.map D.str).length) ⟨m, S, a, rfl, G, e, hS, hn⟩
    rw [List.length_map] at hi
    show agName 3 ((L.map D.str).getD i .non) _ _ _
    have hd : (L.map D.str).getD i .non = .str L[i] := by rw [List.getD_eq_getElem?_getD, List.getElem?_map, List.getElem?_eq_getElem hi]; rfl
    rw [hd]
    have ht : L.take (i + 1) = L.take i ++ [L[i]] := by rw [List.take_succ, List.getElem?_eq_getElem hi]; rfl
    have hp2 : (2 : Int) ^ (L.length - i) = 2 * 2 ^ (L.length - (i + 1)) := by
      rw [show L.length - i = (L.length - (i + 1)) + 1 by omega, Int.pow_succ, Int.mul_comm]
    have half : m % 2 ≠ 1 → 0 < m → m < 2 ^ (L.length - i) → 0 < m / 2 ∧ m / 2 < 2 ^ (L.length - (i + 1)) := fun a b c => by
      rw [hp2] at c
      omega
    (conv => whnf)
    refine ⟨by decide, ?_⟩
    (conv => whnf)
    refine ⟨fun ho => ?_, fun ho => ?_⟩
    · (conv => whnf)
      refine ⟨⟨_, e⟩, ?_⟩
      (conv => whnf)
      refine ⟨_, e, ?_, ?_⟩
      · have := hS.length_le
        rw [List.length_take] at this
        rw [List.length_map, big_eq]; omega
      (conv => whnf)
      refine ⟨by decide, small128 (by decide) (by decide), ?_⟩
      (conv => whnf)
      exact ⟨_, S ++ [L[i]], _, rfl, G.upd hp, by rw [updA_same]; simp, by rw [ht]; exact hS.append (List.Sublist.refl _), fun _ _ => .inl (by simp)⟩
    · have ho : m % 2 ≠ 1 := of_decide_eq_false ho
      (conv => whnf)
      refine ⟨by decide, small128 (by decide) (by decide), ?_⟩
      (conv => whnf)
      refine ⟨_, S, _, rfl, G, e, by rw [ht]; exact hS.trans (List.sublist_append_left _ _), fun a b => ?_⟩
      rcases hn a b with h1 | ⟨h1, h2⟩
      · exact .inl h1
      · exact .inr (half ho h1 h2)
  · rintro Γ A' ⟨m, S, a, rfl, G, e, hS, hn⟩
    have hS : S.Sublist (L.take (L.map D.str).length) := hS
    rw [List.length_map, List.take_length] at hS
    have hn : 0 < n → n < 2 ^ L.length → S ≠ [] ∨ (0 < m ∧ m < 2 ^ (L.length - (L.map D.str).length)) := hn
    (conv => whnf)
    refine ⟨_, e, h S A' hS G fun a b => ?_⟩
    rcases hn a b with h1 | ⟨h1, h2⟩
    · exact h1
    · rw [List.length_map, Nat.sub_self] at h2
      omega

theorem pure__law_lotof (ds : List D) (A : Ah) (q : D → Ah → Prop) (x : AX) : sp__law_lotof ds A q x → as__law_lotof (endsA (shr q) x) (startA ["lines", "number", "found", "line"] ds) A := by
  rintro ⟨L, n, rfl, hl, h⟩
  exact pureO__law_lotof _ A (shr q) x ⟨L, n, rfl, hl, fun S A' h1 G h2 => ⟨A, G, h S h1 h2⟩⟩
theorem len__law_lotof (ds : List D) (A : Ah) (q : D → Ah → Prop) (x : AX) : sp__law_lotof ds A q x → ds.length = 2 := by
  rintro ⟨L, n, rfl, _⟩; rfl
def as__law_nodes_12 : AS := (aDrop (aMethL aAppend (aVar 2) (aCons (aLstF (aCons (aOp aIx (aVar 5) (aVar 7)) (aCons (aVar 3) (aCons (aOp aAdd (aOp aIx (aVar 4) (aC (.int 2))) (aTup (aCons (aVar 7) aNil))) aNil)))) aNil)))
def as__law_nodes_11 : AS := (aSeq (aAsg (aOp aSub (aOp aSub (aBlt aLen (aCons (aVar 5) aNil)) (aC (.int 1))) (aVar 6)) (agName 7)) as__law_nodes_12)
def as__law_nodes_10 : AS := (aFor (aRng1 (aCons (aBlt aLen (aCons (aVar 5) aNil)) aNil)) (agName 6) as__law_nodes_11)
def as__law_nodes_8 : AS := (aIf (aTest (aBlt aIsi (aCons (aOp aIx (aVar 4) (aC (.int 0))) (aCons (aC (.ty "tuple")) aNil)))) (aSeq (aAsg (aFrz (aBlt aList (aCons (aOp aIx (aOp aIx (aVar 4) (aC (.int 0))) (aC (.int 1))) aNil))) (agName 5)) as__law_nodes_10) aNext)
def as__law_nodes_7 : AS := (aSeq (aDrop (aMethL aAppend (aVar 1) (aCons (aVar 4) aNil))) as__law_nodes_8)
def as__law_nodes_6 : AS := (aSeq (aAsg (aMethL aPop (aVar 2) aNil) (agName 4)) as__law_nodes_7)
def as__law_nodes_4 : AS := (aSeq (aIf (aTest (aOp aEq (aBlt aLen (aCons (aVar 2) aNil)) (aC (.int 0)))) aBreak aNext) as__law_nodes_6)
def as__law_nodes_3 : AS := (aSeq (aFor (aRng1 (aCons (aC (.int 999)) aNil)) (agName 3) as__law_nodes_4) (aRet (aFrz (aVar 1))))
def as__law_nodes_2 : AS := (aSeq (aAsg (aLst (aCons (aLstF (aCons (aVar 0) (aCons (aNeg (aC (.int 1))) (aCons (aTup aNil) aNil)))) aNil)) (agName 2)) as__law_nodes_3)
def as__law_nodes : AS := (aSeq (aAsg (aLst aNil) (agName 1)) as__law_nodes_2)

theorem pure__law_nodes (ds : List D) (A : Ah) (q : D → Ah → Prop) (x : AX) : sp__law_nodes ds A q x → as__law_nodes (endsA (shr q) x) (startA ["tree", "rows", "stack", "k", "row", "kids", "i", "at"] ds) A := by
  rintro ⟨T, rfl, ht, hsz, h⟩
  (conv => whnf)
  refine ⟨Nat.le_of_ble_eq_true rfl, fun r hr => ?_⟩
  (conv => whnf)
  refine ⟨Nat.le_of_ble_eq_true rfl, ?_⟩
  (conv => whnf)
  refine ⟨Nat.le_of_ble_eq_true rfl, ?_⟩
  (conv => whnf)
  refine ⟨Nat.le_of_ble_eq_true rfl, fun s hs => ?_⟩
  have er : updA A r (.lst []) r = some (.lst []) := updA_same
  have hrs : r ≠ s := neA er hs
  have hAs : A s = none := (Ext.new hr).none hs
  have er := Ext.new (c := .lst [rowE (T, -1, [])]) hs _ _ er
  have es : updA (updA A r (.lst [])) s (.lst [rowE (T, -1, [])]) s = some (.lst [rowE (T, -1, [])]) := updA_same
  have G : Ext A (updA (updA A r (.lst [])) s (.lst [rowE (T, -1, [])])) := (Ext.new hr).newer hs
  rw [show (Cell.lst [D.fl [T.d, D.int (-1), D.tup []]]) = Cell.lst [rowE (T, -1, [])] from rfl]
  generalize updA (updA A r (.lst [])) s (.lst [rowE (T, -1, [])]) = A1 at er es G ⊢
  have done : ∀ (a b c d e : Option D) (A' : Ah), Ext A A' → A' r = some (.lst (T.rows.map rowE)) → aRet (aFrz (aVar 1)) (endsA (shr q) x) [some T.d, some (.ref r), some (.ref s), a, b, c, d, e] A' := by
    intro a b c d e A' G' e'
    (conv => whnf)
    refine ⟨_, e', ?_⟩
    exact ⟨A, G'.del hr, h⟩
  (conv => whnf)
  refine ⟨by decide, fun k Γ A' => ∃ (S R : List Nrow) (a b c d e : Option D), Γ = [some T.d, some (.ref r), some (.ref s), a, b, c, d, e] ∧ Ext A A' ∧ A' r = some (.lst (R.map rowE)) ∧ A' s = some (.lst (S.map rowE).reverse) ∧
    R.length = k ∧ (∀ x ∈ S, x.1.tru = true ∧ x.2.2.length ≤ k) ∧ R ++ nodS S k = T.rows, ⟨[(T, -1, [])], [], _, _, _, _, _, rfl, G, er, es, rfl, fun x hx => (List.mem_singleton.mp hx) ▸ ⟨ht, Nat.le_refl _⟩, by simp [nodS, Tr.rows]⟩, fun _ _ _ _ _ => trivial, ?_, ?_⟩
  · rintro k Γ A2 (hk : k < 999) ⟨S, R, a, b, c, d, e, rfl, G2, er2, es2, hR, hS, hRS⟩
    have hlen := congrArg List.length hRS
    rw [List.length_append, nodS_len, show T.rows.length = T.sz from T.nod_len _ _ _] at hlen
    have hSl := Tr.szs_len (S.map (·.1))
    rw [List.length_map] at hSl
    (conv => whnf)
    refine ⟨_, es2, ?_⟩
    (conv => whnf)
    cases S with
    | nil =>
      refine ⟨fun _ => ?_, fun z => absurd z (by simp)⟩
      rw [nodS, List.append_nil] at hRS
      subst hRS
      exact done (some (.int (0 + (k : Int)))) b c d e A2 G2 er2
    | cons y S =>
      obtain ⟨t, par, p⟩ := y
      have eL : (((t, par, p) :: S).map rowE).reverse = (S.map rowE).reverse ++ [rowE (t, par, p)] := by rw [List.map_cons, List.reverse_cons]
      rw [eL] at es2 ⊢
      refine ⟨fun z => absurd (of_decide_eq_true z) (by simp; omega), fun _ => ?_⟩
      obtain ⟨ht1, hpk⟩ := hS _ List.mem_cons_self
      have ht1 : t.tru = true := ht1
      have hpk : p.length ≤ k := hpk
      have hS1 : ∀ x ∈ S, x.1.tru = true ∧ x.2.2.length ≤ k + 1 := fun x m => ⟨(hS x (List.mem_cons_of_mem _ m)).1, by have := (hS x (List.mem_cons_of_mem _ m)).2; omega⟩
      have hlen : R.length + (t.sz + Tr.szs (S.map (·.1))) = T.sz := hlen
      have hSl2 := Tr.szs_len (S.map (·.1))
      rw [List.length_map] at hSl2
      (conv => whnf)
      refine ⟨⟨_, es2⟩, ?_⟩
      (conv => whnf)
      refine ⟨_, es2, rowE (t, par, p), by simp, ?_⟩
      rw [List.dropLast_concat]
      have G3 : Ext A (updA A2 s (.lst (S.map rowE).reverse)) := G2.upd hAs
      have er3 : updA A2 s (.lst (S.map rowE).reverse) r = some (.lst (R.map rowE)) := by rw [updA_ne hrs]; exact er2
      have es3 : updA A2 s (.lst (S.map rowE).reverse) s = some (.lst (S.map rowE).reverse) := updA_same
      generalize updA A2 s (.lst (S.map rowE).reverse) = A3 at G3 er3 es3 ⊢
      (conv => whnf)
      refine ⟨⟨_, er3⟩, ?_⟩
      (conv => whnf)
      refine ⟨_, er3, by rw [List.length_map, big_eq]; omega, ?_⟩
      have G4 : Ext A (updA A3 r (.lst (R.map rowE ++ [rowE (t, par, p)]))) := G3.upd hr
      have er4 : updA A3 r (.lst (R.map rowE ++ [rowE (t, par, p)])) r = some (.lst ((R ++ [(t, par, p)]).map rowE)) := by rw [updA_same, List.map_append]; rfl
      have es4 : updA A3 r (.lst (R.map rowE ++ [rowE (t, par, p)])) s = some (.lst (S.map rowE).reverse) := by rw [updA_ne (Ne.symm hrs)]; exact es3
      generalize updA A3 r (.lst (R.map rowE ++ [rowE (t, par, p)])) = A4 at G4 er4 es4 ⊢
      (conv => whnf)
      refine ⟨_, atI_zero', ?_⟩
      rcases tru_d ht1 with ⟨n, rfl⟩ | ⟨kd, ts, rfl, hts⟩
      · (conv => whnf)
        refine ⟨_, rfl, by decide, ?_⟩
        (conv => whnf)
        refine ⟨fun z => absurd z (by decide), fun _ => ?_⟩
        refine ⟨S, R ++ [(Tr.leaf n, par, p)], _, _, _, _, _, rfl, G4, er4, es4, by rw [List.length_append, hR]; rfl, hS1, ?_⟩
        rw [List.append_assoc]
        exact hRS
      · (conv => whnf)
        refine ⟨_, rfl, by decide, ?_⟩
        (conv => whnf)
        refine ⟨fun _ => ?_, fun z => absurd z (by decide)⟩
        (conv => whnf)
        refine ⟨_, atI_zero', ?_⟩
        (conv => whnf)
        refine ⟨_, atI_one', ?_⟩
        rw [Tr.ds_map]
        refine newL_frz ?_
        have hszn : (Tr.node kd ts).sz = Tr.szs ts + 1 := rfl
        have htl := Tr.szs_len ts
        (conv => whnf)
        rw [List.length_map]
        have hk2 : ∀ j, j ≤ ts.length → ((kidN (k : Int) p 0 ts).reverse.take j).length = j := fun j hj => by rw [List.length_take, List.length_reverse, kidN_len]; omega
        refine ⟨by omega, fun j Γ A' => ∃ (d e : Option D), Γ = [some T.d, some (.ref r), some (.ref s), some (.int (0 + (k : Int))), some (rowE (Tr.node kd ts, par, p)), some (.fl (ts.map Tr.d)), d, e] ∧ Ext A A' ∧ A' r = some (.lst ((R ++ [(Tr.node kd ts, par, p)]).map rowE)) ∧
          A' s = some (.lst ((S.map rowE).reverse ++ (((kidN (k : Int) p 0 ts).reverse.take j).map rowE))), ⟨_, _, rfl, G4, er4, by rw [List.take_zero, List.map_nil, List.append_nil]; exact es4⟩, fun _ _ _ _ _ => trivial, ?_, ?_⟩
        · rintro j Γ A5 (hj : j < (ts.length : Int).toNat) ⟨d, e, rfl, G5, er5, es5⟩
          have hj : j < ts.length := by omega
          have e2 : ((ts.length : Int) - 1 - (0 + (j : Int))) = ((ts.length - 1 - j : Nat) : Int) := by omega
          (conv => whnf)
          rw [List.length_map, e2]
          refine ⟨⟨_, es5⟩, ?_⟩
          (conv => whnf)
          refine ⟨_, atI_map Tr.d (by omega : ts.length - 1 - j < ts.length), ?_⟩
          (conv => whnf)
          refine ⟨_, rfl, ?_⟩
          (conv => whnf)
          refine ⟨Nat.le_of_ble_eq_true rfl, ?_⟩
          (conv => whnf)
          refine ⟨by show (p.map _).length + 1 ≤ big; rw [List.length_map, big_eq]; omega, ?_⟩
          (conv => whnf)
          refine ⟨Nat.le_of_ble_eq_true rfl, ?_⟩
          (conv => whnf)
          refine ⟨_, es5, by rw [List.length_append, List.length_reverse, List.length_map, List.length_map, hk2 j (by omega), big_eq]; omega, ?_⟩
          refine ⟨_, _, rfl, G5.upd hAs, by rw [updA_ne hrs]; exact er5, ?_⟩
          rw [updA_same, List.append_assoc]
          congr 3
          have hx : (kidN (k : Int) p 0 ts).reverse[j]? = some (ts[ts.length - 1 - j], (k : Int), p ++ [ts.length - 1 - j]) := by
            rw [List.getElem?_reverse (by rw [kidN_len]; exact hj), kidN_len, kidN_get _ _ _ _ _ (by omega)]
            simp
          rw [List.take_succ, hx, List.map_append]
          congr 1
          show [D.fl [_, _, _]] = [rowE _]
          unfold rowE
          dsimp only
          rw [pathD_snoc, Int.zero_add]
        · rintro Γ A5 ⟨d, e, rfl, G5, er5, es5⟩
          have es5 : A5 s = some (.lst ((S.map rowE).reverse ++ (((kidN (k : Int) p 0 ts).reverse.take (ts.length : Int).toNat).map rowE))) := es5
          rw [Int.toNat_natCast, List.take_of_length_le (by rw [List.length_reverse, kidN_len]; exact Nat.le_refl _)] at es5
          refine ⟨kidN (k : Int) p 0 ts ++ S, R ++ [(Tr.node kd ts, par, p)], _, _, _, _, _, rfl, G5, er5, by rw [es5, List.map_append, List.reverse_append, List.map_reverse], by rw [List.length_append, hR]; rfl, ?_, ?_⟩
          · intro x hx
            rcases List.mem_append.mp hx with hx | hx
            · exact ⟨kidN_tru hts x hx, by rw [kidN_path x hx]; omega⟩
            · exact hS1 x hx
          · rw [nodS_kids, ← hRS, nodS, Tr.nod, List.append_assoc, show k + (Tr.node kd ts).sz = k + 1 + Tr.szs ts by omega]
            rfl
  · rintro Γ A2 ⟨S, R, a, b, c, d, e, rfl, G2, er2, es2, hR, hS, hRS⟩
    have hlen := congrArg List.length hRS
    rw [List.length_append, nodS_len, show T.rows.length = T.sz from T.nod_len _ _ _] at hlen
    have hR : R.length = 999 := hR
    omega
theorem len__law_nodes (ds : List D) (A : Ah) (q : D → Ah → Prop) (x : AX) : sp__law_nodes ds A q x → ds.length = 1 := by
  rintro ⟨T, rfl, _⟩; rfl
def as__law_at_2 : AS := (aAsg (aOp aIx (aOp aIx (aVar 0) (aC (.int 1))) (aVar 2)) (agName 0))
def as__law_at : AS := (aSeq (aFor (aIter (aVar 1)) (agName 2) as__law_at_2) (aRet (aVar 0)))

theorem pure__law_at (ds : List D) (A : Ah) (q : D → Ah → Prop) (x : AX) : sp__law_at ds A q x → as__law_at (endsA (shr q) x) (startA ["tree", "path", "k"] ds) A := by
  rintro ⟨T, p, u, rfl, hu, h⟩
  (conv => whnf)
  refine ⟨fun i Γ A' => A' = A ∧ ∃ (v : Tr) (a : Option D), Γ = [some v.d, some (pathD p), a] ∧ T.get (p.take i) = some v, ⟨rfl, T, _, rfl, by rw [List.take_zero]; cases T <;> rfl⟩, fun _ _ _ _ _ => trivial, ?_, ?_⟩
  · rintro i Γ A' (hi : i < (p.map _).length) ⟨rfl, v, a, rfl, hv⟩
    rw [List.length_map] at hi
    obtain ⟨k, ts, c, h1, h2, h3⟩ := get_succ hu hi
    rw [h1] at hv
    cases hv
    show agName 2 ((p.map fun i => D.int (i : Nat)).getD i .non) _ _ _
    rw [map_getD _ hi]
    (conv => whnf)
    refine ⟨_, atI_one', ?_⟩
    (conv => whnf)
    exact ⟨_, atI_ds h2, rfl, c, _, rfl, h3⟩
  · rintro Γ A' ⟨rfl, v, a, rfl, hv⟩
    have hv : T.get (p.take (p.map fun i => D.int (i : Nat)).length) = some v := hv
    rw [List.length_map, List.take_length, hu] at hv
    cases hv
    exact shr_same h
theorem len__law_at (ds : List D) (A : Ah) (q : D → Ah → Prop) (x : AX) : sp__law_at ds A q x → ds.length = 2 := by
  rintro ⟨T, p, u, rfl, _⟩; rfl
def as__law_put_4 : AS := (aAsg (aOp aIx (aOp aIx (aVar 0) (aC (.int 1))) (aVar 4)) (agName 0))
def as__law_put_3 : AS := (aSeq (aDrop (aMethL aAppend (aVar 3) (aCons (aVar 0) aNil))) as__law_put_4)
def as__law_put_8 : AS := (aAsg (aTup (aCons (aOp aIx (aVar 7) (aC (.int 0))) (aCons (aOp aAdd (aOp aAdd (aSl (aOp aIx (aVar 7) (aC (.int 1))) aNoP (aPart (aVar 6))) (aTup (aCons (aVar 2) aNil))) (aSl (aOp aIx (aVar 7) (aC (.int 1))) (aPart (aOp aAdd (aVar 6) (aC (.int 1)))) aNoP)) aNil))) (agName 2))
def as__law_put_7 : AS := (aSeq (aAsg (aOp aIx (aVar 3) (aOp aSub (aOp aSub (aBlt aLen (aCons (aVar 3) aNil)) (aC (.int 1))) (aVar 5))) (agName 7)) as__law_put_8)
def as__law_put_6 : AS := (aSeq (aAsg (aOp aIx (aVar 1) (aOp aSub (aOp aSub (aBlt aLen (aCons (aVar 3) aNil)) (aC (.int 1))) (aVar 5))) (agName 6)) as__law_put_7)
def as__law_put_5 : AS := (aSeq (aFor (aRng1 (aCons (aBlt aLen (aCons (aVar 3) aNil)) aNil)) (agName 5) as__law_put_6) (aRet (aVar 2)))
def as__law_put_2 : AS := (aSeq (aFor (aIter (aVar 1)) (agName 4) as__law_put_3) as__law_put_5)
def as__law_put : AS := (aSeq (aAsg (aLst aNil) (agName 3)) as__law_put_2)

theorem pure__law_put (ds : List D) (A : Ah) (q : D → Ah → Prop) (x : AX) : sp__law_put ds A q x → as__law_put (endsA (shr q) x) (startA ["tree", "path", "new", "above", "k", "i", "at", "node"] ds) A := by
  rintro ⟨T, p, v, u, rfl, hv, hsz, h⟩
  obtain ⟨_, hpl⟩ := get_sz hv
  (conv => whnf)
  refine ⟨Nat.le_of_ble_eq_true rfl, fun r hr => ?_⟩
  (conv => whnf)
  refine ⟨fun i Γ A' => ∃ (w : Tr) (L : List Tr) (a b c d : Option D), Γ = [some w.d, some (pathD p), some u.d, some (.ref r), a, b, c, d] ∧ Ext A A' ∧ A' r = some (.lst (L.map Tr.d)) ∧ T.get (p.take i) = some w ∧ L.length = i ∧ ∀ j (hj : j < i), ∃ w', L[j]? = some w' ∧ T.get (p.take j) = some w',
    ⟨T, [], _, _, _, _, rfl, .new hr, updA_same, by rw [List.take_zero]; cases T <;> rfl, rfl, fun j hj => absurd hj (Nat.not_lt_zero _)⟩, fun _ _ _ _ _ => trivial, ?_, ?_⟩
  · rintro i Γ A1 (hi : i < (p.map _).length) ⟨w, L, a, b, c, d, rfl, G1, e1, hw, hL, hLj⟩
    rw [List.length_map] at hi
    obtain ⟨k, ts, c1, h1, h2, h3⟩ := get_succ hv hi
    rw [h1] at hw
    cases hw
    show agName 4 ((p.map fun i => D.int (i : Nat)).getD i .non) _ _ _
    rw [map_getD _ hi]
    (conv => whnf)
    refine ⟨⟨_, e1⟩, ?_⟩
    (conv => whnf)
    refine ⟨_, e1, by rw [List.length_map, big_eq]; omega, ?_⟩
    (conv => whnf)
    refine ⟨_, atI_one', ?_⟩
    (conv => whnf)
    refine ⟨_, atI_ds h2, c1, L ++ [.node k ts], _, _, _, _, rfl, G1.upd hr, by rw [updA_same, List.map_append]; rfl, h3, by rw [List.length_append, hL]; rfl, fun j hj => ?_⟩
    by_cases e : j = i
    · subst e
      exact ⟨_, by rw [List.getElem?_append_right (by omega), hL]; simp, h1⟩
    · obtain ⟨w', a1, a2⟩ := hLj j (by omega)
      exact ⟨w', by rw [List.getElem?_append_left (by omega)]; exact a1, a2⟩
  · rintro Γ A1 ⟨w, L, a, b, c, d, rfl, G1, e1, hw, hL, hLj⟩
    have hL : L.length = (p.map fun i => D.int (i : Nat)).length := hL
    rw [List.length_map] at hL
    have hLj : ∀ j, j < p.length → ∃ w', L[j]? = some w' ∧ T.get (p.take j) = some w' := fun j hj => hLj j (by show j < (p.map _).length; rw [List.length_map]; exact hj)
    (conv => whnf)
    refine ⟨_, e1, ?_⟩
    (conv => whnf)
    rw [List.length_map, hL]
    refine ⟨by omega, fun i Γ A' => A' = A1 ∧ ∃ (z : Tr) (b c d : Option D), Γ = [some w.d, some (pathD p), some z.d, some (.ref r), a, b, c, d] ∧ ∀ w', T.get (p.take (p.length - i)) = some w' → z = w'.put (p.drop (p.length - i)) u, ⟨rfl, u, _, _, _, rfl, fun w' _ => by rw [Nat.sub_zero, List.drop_length]; cases w' <;> rfl⟩, fun _ _ _ _ _ => trivial, ?_, ?_⟩
    · rintro i Γ A' (hi : i < (p.length : Int).toNat) ⟨rfl, z, b, c, d, rfl, hz⟩
      have hi : i < p.length := by omega
      have e2 : ((p.length : Int) - 1 - (0 + (i : Int))) = ((p.length - 1 - i : Nat) : Int) := by omega
      obtain ⟨w', a1, a2⟩ := hLj (p.length - 1 - i) (by omega)
      obtain ⟨k, ts, c1, h1, h2, h3, h4⟩ := put_step (u := u) hv (show p.length - 1 - i < p.length by omega)
      rw [h1] at a2
      cases a2
      have e3 : p.length - 1 - i + 1 = p.length - i := by omega
      rw [e3] at h3 h4
      have hz := hz _ h3
      subst hz
      have hj : p[p.length - 1 - i] < ts.length := (List.getElem?_eq_some_iff.mp h2).1
      have hszn := (get_sz h1).1
      have hszn : Tr.szs ts + 1 ≤ T.sz := hszn
      have htl := Tr.szs_len ts
      (conv => whnf)
      refine ⟨_, e1, ?_⟩
      (conv => whnf)
      rw [List.length_map, hL, e2]
      refine ⟨_, atI_map (fun i => D.int (i : Nat)) (by omega : p.length - 1 - i < p.length), ?_⟩
      (conv => whnf)
      refine ⟨_, e1, ?_⟩
      (conv => whnf)
      rw [List.length_map, hL, e2]
      refine ⟨_, e1, (Tr.node k ts).d, ?_, ?_⟩
      · obtain ⟨hl, he⟩ := List.getElem?_eq_some_iff.mp a1
        rw [atI_map _ hl, he]
      (conv => whnf)
      refine ⟨_, atI_zero', ?_⟩
      (conv => whnf)
      refine ⟨_, atI_one', ?_⟩
      (conv => whnf)
      refine ⟨Nat.le_of_ble_eq_true rfl, ?_⟩
      (conv => whnf)
      have c1 := cutD_le (xs := Tr.ds ts) (lo := none) (hi := some ((p[p.length - 1 - i] : Nat) : Int))
      have c2 := cutD_le (xs := Tr.ds ts) (lo := some (((p[p.length - 1 - i] : Nat) : Int) + 1)) (hi := none)
      have c3 : (Tr.ds ts).length = ts.length := by rw [Tr.ds_map, List.length_map]
      refine ⟨by rw [List.length_singleton, big_eq]; omega, ?_⟩
      (conv => whnf)
      refine ⟨_, atI_one', ?_⟩
      (conv => whnf)
      refine ⟨by rw [List.length_append, List.length_singleton, big_eq]; omega, ?_⟩
      (conv => whnf)
      refine ⟨Nat.le_of_ble_eq_true rfl, ?_⟩
      rw [set_cut hj]
      refine ⟨rfl, .node k (ts.set p[p.length - 1 - i] (_)), _, _, _, rfl, fun w' hw' => ?_⟩
      rw [show p.length - (i + 1) = p.length - 1 - i by omega] at hw' ⊢
      rw [h1] at hw'
      cases hw'
      exact h4.symm
    · rintro Γ A' ⟨rfl, z, b, c, d, rfl, hz⟩
      have hz := hz T (by show T.get (p.take (p.length - (p.length : Int).toNat)) = some T; rw [Int.toNat_natCast, Nat.sub_self, List.take_zero]; cases T <;> rfl)
      have hz : z = T.put (p.drop (p.length - (p.length : Int).toNat)) u := hz
      rw [Int.toNat_natCast, Nat.sub_self, List.drop_zero] at hz
      subst hz
      exact ⟨A, G1, h⟩
theorem len__law_put (ds : List D) (A : Ah) (q : D → Ah → Prop) (x : AX) : sp__law_put ds A q x → ds.length = 3 := by
  rintro ⟨T, p, v, u, rfl, _⟩; rfl
def as__law_equal_11 : AS := (aDrop (aMethL aExtendU (aVar 2) (aCons (aFrz (aLc (aIter (aFrz (aBlt aList (aCons (aVar 5) aNil)))) (agName 6) aYes (aTup (aCons (aOp aIx (aVar 4) (aVar 6)) (aCons (aOp aIx (aVar 5) (aVar 6)) aNil))) [6])) aNil)))
def as__law_equal_15 : AS := (aDrop (aMethL aExtendU (aVar 2) (aCons (aFrz (aLc (aRng1 (aCons (aBlt aLen (aCons (aVar 5) aNil)) aNil)) (agName 7) aYes (aTup (aCons (aOp aIx (aVar 4) (aVar 7)) (aCons (aOp aIx (aVar 5) (aVar 7)) aNil))) [7])) aNil)))
def as__law_equal_8 : AS := (aIf (aTest (aBlt aIsi (aCons (aVar 5) (aCons (aC (.ty "dict")) aNil)))) (aSeq (aIf (aOrT (aNotT (aTest (aBlt aIsi (aCons (aVar 4) (aCons (aC (.ty "dict")) aNil))))) (aOrT (aTest (aOp aNe (aBlt aLen (aCons (aVar 4) aNil)) (aBlt aLen (aCons (aVar 5) aNil)))) (aTest (aOp aGt (aBlt aLen (aCons (aFrz (aLc (aIter (aFrz (aBlt aList (aCons (aVar 5) aNil)))) (agName 6) (aTest (aOp aNiS (aVar 6) (aVar 4))) (aVar 6) [6])) aNil)) (aC (.int 0)))))) (aRet (aC (.bl false))) aNext) as__law_equal_11) (aIf (aTest (aBlt aIsi (aCons (aVar 5) (aCons (aC (.ty "tuple")) aNil)))) (aSeq (aIf (aOrT (aNotT (aTest (aBlt aIsi (aCons (aVar 4) (aCons (aC (.ty "tuple")) aNil))))) (aTest (aOp aNe (aBlt aLen (aCons (aVar 4) aNil)) (aBlt aLen (aCons (aVar 5) aNil))))) (aRet (aC (.bl false))) aNext) as__law_equal_15) (aIf (aTest (aOp aIs (aVar 5) (aC .non))) (aIf (aTest (aOp aIsNot (aVar 4) (aC .non))) (aRet (aC (.bl false))) aNext) (aIf (aOrT (aTest (aOp aNe (aBlt aIsi (aCons (aVar 4) (aCons (aC (.ty "str")) aNil))) (aBlt aIsi (aCons (aVar 5) (aCons (aC (.ty "str")) aNil))))) (aTest (aOp aNe (aBlt aIsi (aCons (aVar 4) (aCons (aC (.ty "bool")) aNil))) (aBlt aIsi (aCons (aVar 5) (aCons (aC (.ty "bool")) aNil)))))) (aRet (aC (.bl false))) (aIf (aOrT (aTest (aOp aNe (aBlt aIsi (aCons (aVar 4) (aCons (aC (.ty "int")) aNil))) (aBlt aIsi (aCons (aVar 5) (aCons (aC (.ty "int")) aNil))))) (aTest (aOp aNe (aVar 4) (aVar 5)))) (aRet (aC (.bl false))) aNext)))))
def as__law_equal_7 : AS := (aSeq (aDrop (aMethL aPop (aVar 2) aNil)) as__law_equal_8)
def as__law_equal_6 : AS := (aSeq (aAsg (aOp aIx (aOp aIx (aVar 2) (aNeg (aC (.int 1)))) (aC (.int 1))) (agName 5)) as__law_equal_7)
def as__law_equal_5 : AS := (aSeq (aAsg (aOp aIx (aOp aIx (aVar 2) (aNeg (aC (.int 1)))) (aC (.int 0))) (agName 4)) as__law_equal_6)
def as__law_equal_3 : AS := (aSeq (aIf (aTest (aOp aEq (aBlt aLen (aCons (aVar 2) aNil)) (aC (.int 0)))) (aRet (aC (.bl true))) aNext) as__law_equal_5)
def as__law_equal_2 : AS := (aSeq (aFor (aRng1 (aCons (aC (.int 400000)) aNil)) (agName 3) as__law_equal_3) (aRet (aC (.bl false))))
def as__law_equal : AS := (aSeq (aAsg (aLst (aCons (aTup (aCons (aVar 0) (aCons (aVar 1) aNil))) aNil)) (agName 2)) as__law_equal_2)

theorem pst_app {m n : Nat} {S ds : List D} (h : PSt m S) (g : Pls n ds) : PSt (m + n) (S ++ ds.map fun d => .tup [d, d]) := by
  induction ds generalizing m n S with
  | nil => cases g; rw [List.map_nil, List.append_nil]; exact h
  | cons d r ih =>
    cases g with
    | @cons a b _ _ g1 g2 =>
      rw [List.map_cons, ← Nat.add_assoc, show S ++ D.tup [d, d] :: r.map (fun d => D.tup [d, d]) = (S ++ [D.tup [d, d]]) ++ r.map fun d => .tup [d, d] by simp]
      exact ih (.snoc h g1) g2
theorem pureO__law_equal (ds : List D) (A : Ah) (q : D → Ah → Prop) (x : AX) : spO__law_equal ds A q x → as__law_equal (endsA q x) (startA ["got", "due", "stack", "k", "one", "two", "x", "i"] ds) A := by
  rintro ⟨g, n, rfl, hsm, hn, h⟩
  (conv => whnf)
  refine ⟨Nat.le_of_ble_eq_true rfl, ?_⟩
  (conv => whnf)
  refine ⟨Nat.le_of_ble_eq_true rfl, fun p hp => ?_⟩
  (conv => whnf)
  refine ⟨by decide, fun i Γ A' => ∃ k o t y z, Γ = [some g, some g, some (.ref p), k, o, t, y, z] ∧ Ext A A' ∧ ∃ T S, A' p = some (.lst S) ∧ PSt T S ∧ T + i < 400000, ?_, fun _ _ _ _ _ => trivial, ?_, ?_⟩
  · exact ⟨none, none, none, none, none, rfl, .new hp, n, _, updA_same, by simpa using PSt.snoc .nil hsm, hn⟩
  · rintro i Γ A' (hi : i < 400000) ⟨k, o, t, y, z, rfl, hA, T, S, hS, hst, hT⟩
    (conv => whnf)
    refine ⟨S, hS, ?_⟩
    (conv => whnf)
    refine ⟨fun _ => h A' hA, fun hne => ?_⟩
    cases hst with
    | nil => cases hne
    | @snoc m n S d hst hpl =>
    have hn1 := hpl.pos
    have hlast : L2.atI (S ++ [D.tup [d, d]]) (-1) = some (.tup [d, d]) := by
      unfold L2.atI L2.ixN
      rw [if_neg (by omega), if_pos (by simp; omega)]
      simp
      rw [show (-1 + ((S.length : Int) + 1)).toNat = S.length by omega]
      simp
    (conv => whnf)
    refine ⟨_, hS, _, hlast, ?_⟩
    (conv => whnf)
    refine ⟨_, atI_zero', ?_⟩
    (conv => whnf)
    refine ⟨_, hS, _, hlast, ?_⟩
    (conv => whnf)
    refine ⟨_, atI_one', ?_⟩
    (conv => whnf)
    refine ⟨⟨_, hS⟩, ?_⟩
    (conv => whnf)
    refine ⟨_, hS, .tup [d, d], by simp, ?_⟩
    have hA2 : Ext A (updA A' p (.lst (S ++ [D.tup [d, d]]).dropLast)) := hA.upd hp
    have hS2 : updA A' p (.lst (S ++ [D.tup [d, d]]).dropLast) p = some (.lst S) := by rw [updA_same, List.dropLast_concat]
    generalize updA A' p (.lst (S ++ [D.tup [d, d]]).dropLast) = A2 at hA2 hS2 ⊢
    clear hS hA hne
    have fin : ∀ T' S' A3, Ext A A3 → A3 p = some (.lst S') → PSt T' S' → T' + (i + 1) < 400000 → ∃ k' o' t' y' z', [some g, some g, some (.ref p), some (.int (0 + (i : Int))), some d, some d, y, z] = [some g, some g, some (.ref p), k', o', t', y', z'] ∧ Ext A A3 ∧ ∃ T S, A3 p = some (.lst S) ∧ PSt T S ∧ T + (i + 1) < 400000 :=
      fun T' S' A3 h1 h2 h3 h4 => ⟨_, _, _, _, _, rfl, h1, T', S', h2, h3, h4⟩
    have fin0 := fin m S A2 hA2 hS2 hst (by omega)
    cases hpl with
    | non => ((repeat ((conv => whnf); first | (refine ⟨?_, fun _ => ?_⟩; · (intro z; cases z)) | (refine ⟨fun _ => ?_, ?_⟩; rotate_left; · (intro z; cases z)) | (refine ⟨?_, fun _ => ?_⟩; · (intro z; exact absurd z (by decide))) | (refine ⟨fun _ => ?_, ?_⟩; rotate_left; · (intro z; exact absurd z (by decide))) | refine ⟨Nat.le_of_ble_eq_true rfl, ?_⟩ | refine ⟨_, atI_zero', ?_⟩ | refine ⟨_, atI_one', ?_⟩ | (refine ⟨_, rfl, ?_, ?_⟩; · decide) | (refine ⟨fun _ => ?_, ?_⟩; rotate_left; · (intro z; rename_i h; first | cases h.symm.trans z | cases z.symm.trans h)) | (apply Exists.intro; apply And.intro; (· assumption); apply And.intro; (· decide)) | (apply And.intro; · (apply Exists.intro; assumption)) | (apply Exists.intro; apply And.intro; (· assumption); refine ⟨_, atI_zero', ?_⟩) | (apply Exists.intro; apply And.intro; · assumption))); (try (conv => whnf))); exact fin0
    | bl b => ((repeat ((conv => whnf); first | (refine ⟨?_, fun _ => ?_⟩; · (intro z; cases z)) | (refine ⟨fun _ => ?_, ?_⟩; rotate_left; · (intro z; cases z)) | (refine ⟨?_, fun _ => ?_⟩; · (intro z; exact absurd z (by decide))) | (refine ⟨fun _ => ?_, ?_⟩; rotate_left; · (intro z; exact absurd z (by decide))) | refine ⟨Nat.le_of_ble_eq_true rfl, ?_⟩ | refine ⟨_, atI_zero', ?_⟩ | refine ⟨_, atI_one', ?_⟩ | (refine ⟨_, rfl, ?_, ?_⟩; · decide) | (refine ⟨fun _ => ?_, ?_⟩; rotate_left; · (intro z; rename_i h; first | cases h.symm.trans z | cases z.symm.trans h)) | (apply Exists.intro; apply And.intro; (· assumption); apply And.intro; (· decide)) | (apply And.intro; · (apply Exists.intro; assumption)) | (apply Exists.intro; apply And.intro; (· assumption); refine ⟨_, atI_zero', ?_⟩) | (apply Exists.intro; apply And.intro; · assumption))); (try (conv => whnf))); exact ⟨fun z => absurd z (by simp), fun _ => fin0⟩
    | int j => ((repeat ((conv => whnf); first | (refine ⟨?_, fun _ => ?_⟩; · (intro z; cases z)) | (refine ⟨fun _ => ?_, ?_⟩; rotate_left; · (intro z; cases z)) | (refine ⟨?_, fun _ => ?_⟩; · (intro z; exact absurd z (by decide))) | (refine ⟨fun _ => ?_, ?_⟩; rotate_left; · (intro z; exact absurd z (by decide))) | refine ⟨Nat.le_of_ble_eq_true rfl, ?_⟩ | refine ⟨_, atI_zero', ?_⟩ | refine ⟨_, atI_one', ?_⟩ | (refine ⟨_, rfl, ?_, ?_⟩; · decide) | (refine ⟨fun _ => ?_, ?_⟩; rotate_left; · (intro z; rename_i h; first | cases h.symm.trans z | cases z.symm.trans h)) | (apply Exists.intro; apply And.intro; (· assumption); apply And.intro; (· decide)) | (apply And.intro; · (apply Exists.intro; assumption)) | (apply Exists.intro; apply And.intro; (· assumption); refine ⟨_, atI_zero', ?_⟩) | (apply Exists.intro; apply And.intro; · assumption))); (try (conv => whnf))); exact ⟨fun z => absurd z (by simp), fun _ => fin0⟩
    | str cs => ((repeat ((conv => whnf); first | (refine ⟨?_, fun _ => ?_⟩; · (intro z; cases z)) | (refine ⟨fun _ => ?_, ?_⟩; rotate_left; · (intro z; cases z)) | (refine ⟨?_, fun _ => ?_⟩; · (intro z; exact absurd z (by decide))) | (refine ⟨fun _ => ?_, ?_⟩; rotate_left; · (intro z; exact absurd z (by decide))) | refine ⟨Nat.le_of_ble_eq_true rfl, ?_⟩ | refine ⟨_, atI_zero', ?_⟩ | refine ⟨_, atI_one', ?_⟩ | (refine ⟨_, rfl, ?_, ?_⟩; · decide) | (refine ⟨fun _ => ?_, ?_⟩; rotate_left; · (intro z; rename_i h; first | cases h.symm.trans z | cases z.symm.trans h)) | (apply Exists.intro; apply And.intro; (· assumption); apply And.intro; (· decide)) | (apply And.intro; · (apply Exists.intro; assumption)) | (apply Exists.intro; apply And.intro; (· assumption); refine ⟨_, atI_zero', ?_⟩) | (apply Exists.intro; apply And.intro; · assumption))); (try (conv => whnf))); exact ⟨fun z => absurd z (by simp), fun _ => fin0⟩
    | @tup n ds hss =>
      ((repeat ((conv => whnf); first | (refine ⟨?_, fun _ => ?_⟩; · (intro z; cases z)) | (refine ⟨fun _ => ?_, ?_⟩; rotate_left; · (intro z; cases z)) | (refine ⟨?_, fun _ => ?_⟩; · (intro z; exact absurd z (by decide))) | (refine ⟨fun _ => ?_, ?_⟩; rotate_left; · (intro z; exact absurd z (by decide))) | refine ⟨Nat.le_of_ble_eq_true rfl, ?_⟩ | refine ⟨_, atI_zero', ?_⟩ | refine ⟨_, atI_one', ?_⟩ | (refine ⟨_, rfl, ?_, ?_⟩; · decide) | (refine ⟨fun _ => ?_, ?_⟩; rotate_left; · (intro z; rename_i h; first | cases h.symm.trans z | cases z.symm.trans h)) | (apply Exists.intro; apply And.intro; (· assumption); apply And.intro; (· decide)) | (apply And.intro; · (apply Exists.intro; assumption)) | (apply Exists.intro; apply And.intro; (· assumption); refine ⟨_, atI_zero', ?_⟩) | (apply Exists.intro; apply And.intro; · assumption))); (try (conv => whnf)))
      refine ⟨fun z => absurd z (by simp), fun _ => ?_⟩
      have hl2 := hss.len
      (conv => whnf)
      refine ⟨⟨_, hS2⟩, ?_⟩
      (conv => whnf)
      refine ⟨by omega, ?_⟩
      refine lc_of (it := ⟨none, (ds.length : Int).toNat, fun k => .int (0 + (k : Nat))⟩) (fun k => .tup [ds.getD k .non, ds.getD k .non]) rfl (by show (ds.length : Int).toNat ≤ big; rw [big_eq]; omega) (fun k A' kk sk hk e hkk => ?_) (fun v hv => ?_)
      · have hk : k < ds.length := by have : k < (ds.length : Int).toNat := hk; omega
        have hx : L2.atI ds (0 + (k : Int)) = some (ds.getD k .non) := by
          rw [Int.zero_add]
          exact atI_of (by rw [List.getD_eq_getElem?_getD, List.getElem?_eq_getElem hk]; rfl)
        (conv => whnf)
        refine ⟨fun _ => ?_, fun z => Bool.noConfusion z⟩
        (conv => whnf)
        refine ⟨_, hx, ?_⟩
        (conv => whnf)
        refine ⟨_, hx, ?_⟩
        (conv => whnf)
        exact ⟨Nat.le_of_ble_eq_true rfl, hkk⟩
      · have hs : (List.range (ds.length : Int).toNat).map (fun k => D.tup [ds.getD k .non, ds.getD k .non]) = ds.map fun d => .tup [d, d] := by
          rw [Int.toNat_natCast]
          have := map_range_getD (L := ds) (d := .non) (fun d => d) (fun d => D.tup [d, d])
          simpa using this
        rw [show ({ src := none, n := (ds.length : Int).toNat, item := fun k => D.int (0 + (k : Nat)) } : ItA).n = (ds.length : Int).toNat from rfl, hs]
        have hpv : p ≠ v := neA hS2 hv
        (conv => whnf)
        refine ⟨_, updA_same, ?_⟩
        rw [delA_new hv]
        refine ⟨_, hS2, by rw [List.length_map, big_eq]; have := hst.len; omega, ?_⟩
        exact fin _ _ _ (hA2.upd hp) updA_same (pst_app hst hss) (by omega)
  · rintro Γ A' ⟨k, o, t, y, z, rfl, hA, T, S, hS, hst, hT⟩
    have hT : T + 400000 < 400000 := hT
    omega

theorem pure__law_equal (ds : List D) (A : Ah) (q : D → Ah → Prop) (x : AX) : sp__law_equal ds A q x → as__law_equal (endsA (shr q) x) (startA ["got", "due", "stack", "k", "one", "two", "x", "i"] ds) A := by
  rintro ⟨d, n, rfl, hp, hn, h⟩
  exact pureO__law_equal _ A (shr q) x ⟨d, n, rfl, hp, hn, fun A' G => ⟨A, G, h⟩⟩
theorem len__law_equal (ds : List D) (A : Ah) (q : D → Ah → Prop) (x : AX) : sp__law_equal ds A q x → ds.length = 2 := by
  rintro ⟨d, n, rfl, _⟩; rfl
def has__law_error_22 (K : Fg) (a : Addr) (ε : Exn) : AS := (aRet (aTup (aCons (aC (.str (tl "none"))) (aCons (aTup aNil) aNil))))
def has__law_error_20 (K : Fg) (a : Addr) (ε : Exn) : AS := (aSeq (aIf (aTest (aBlt (aIsE K a ε) (aCons (aVar 0) (aCons (aC (.ref (He.ga K "NoSuchLine"))) aNil)))) (aRet (aTup (aCons (aC (.str (tl "NoSuchLine"))) (aCons (aTup (aCons (aXf a ε "name" (aVar 0)) aNil)) aNil)))) aNext) (has__law_error_22 K a ε))
def has__law_error_18 (K : Fg) (a : Addr) (ε : Exn) : AS := (aSeq (aIf (aTest (aBlt (aIsE K a ε) (aCons (aVar 0) (aCons (aC (.ref (He.ga K "BadLot"))) aNil)))) (aRet (aTup (aCons (aC (.str (tl "BadLot"))) (aCons (aTup (aCons (aXf a ε "at" (aVar 0)) aNil)) aNil)))) aNext) (has__law_error_20 K a ε))
def has__law_error_16 (K : Fg) (a : Addr) (ε : Exn) : AS := (aSeq (aIf (aTest (aBlt (aIsE K a ε) (aCons (aVar 0) (aCons (aC (.ref (He.ga K "TooMany"))) aNil)))) (aRet (aTup (aCons (aC (.str (tl "TooMany"))) (aCons (aTup (aCons (aXf a ε "what" (aVar 0)) (aCons (aXf a ε "limit" (aVar 0)) aNil))) aNil)))) aNext) (has__law_error_18 K a ε))
def has__law_error_14 (K : Fg) (a : Addr) (ε : Exn) : AS := (aSeq (aIf (aTest (aBlt (aIsE K a ε) (aCons (aVar 0) (aCons (aC (.ref (He.ga K "Twice"))) aNil)))) (aRet (aTup (aCons (aC (.str (tl "Twice"))) (aCons (aTup (aCons (aXf a ε "name" (aVar 0)) aNil)) aNil)))) aNext) (has__law_error_16 K a ε))
def has__law_error_12 (K : Fg) (a : Addr) (ε : Exn) : AS := (aSeq (aIf (aTest (aBlt (aIsE K a ε) (aCons (aVar 0) (aCons (aC (.ref (He.ga K "BadTree"))) aNil)))) (aRet (aTup (aCons (aC (.str (tl "BadTree"))) (aCons (aTup (aCons (aXf a ε "path" (aVar 0)) aNil)) aNil)))) aNext) (has__law_error_14 K a ε))
def has__law_error_10 (K : Fg) (a : Addr) (ε : Exn) : AS := (aSeq (aIf (aTest (aBlt (aIsE K a ε) (aCons (aVar 0) (aCons (aC (.ref (He.ga K "BadName"))) aNil)))) (aRet (aTup (aCons (aC (.str (tl "BadName"))) (aCons (aTup (aCons (aXf a ε "name" (aVar 0)) aNil)) aNil)))) aNext) (has__law_error_12 K a ε))
def has__law_error_8 (K : Fg) (a : Addr) (ε : Exn) : AS := (aSeq (aIf (aOrT (aTest (aOp aNe (aMethL aCount (aVar 1) (aCons (aC (.bl true)) aNil)) (aC (.int 1)))) (aOrT (aNotT (aTest (aBlt (aIsE K a ε) (aCons (aVar 0) (aCons (aC (.ref (He.ga K "GrantError"))) aNil))))) (aNotT (aTest (aBlt (aIsE K a ε) (aCons (aVar 0) (aCons (aC (.ty "ValueError")) aNil))))))) (aRet (aTup (aCons (aC (.str (tl "none"))) (aCons (aTup aNil) aNil)))) aNext) (has__law_error_10 K a ε))
def has__law_error_7 (K : Fg) (a : Addr) (ε : Exn) : AS := (aSeq (aDrop (aMethL aExtendU (aVar 1) (aCons (aLstF (aCons (aBlt (aIsE K a ε) (aCons (aVar 0) (aCons (aC (.ref (He.ga K "NoEdit"))) aNil))) aNil)) aNil))) (has__law_error_8 K a ε))
def has__law_error_6 (K : Fg) (a : Addr) (ε : Exn) : AS := (aSeq (aDrop (aMethL aExtendU (aVar 1) (aCons (aLstF (aCons (aBlt (aIsE K a ε) (aCons (aVar 0) (aCons (aC (.ref (He.ga K "BadWish"))) aNil))) (aCons (aBlt (aIsE K a ε) (aCons (aVar 0) (aCons (aC (.ref (He.ga K "NoCover"))) aNil))) (aCons (aBlt (aIsE K a ε) (aCons (aVar 0) (aCons (aC (.ref (He.ga K "Barred"))) aNil))) (aCons (aBlt (aIsE K a ε) (aCons (aVar 0) (aCons (aC (.ref (He.ga K "LastLine"))) aNil))) aNil))))) aNil))) (has__law_error_7 K a ε))
def has__law_error_5 (K : Fg) (a : Addr) (ε : Exn) : AS := (aSeq (aDrop (aMethL aExtendU (aVar 1) (aCons (aLstF (aCons (aBlt (aIsE K a ε) (aCons (aVar 0) (aCons (aC (.ref (He.ga K "BadMatrix"))) aNil))) (aCons (aBlt (aIsE K a ε) (aCons (aVar 0) (aCons (aC (.ref (He.ga K "NoGrant"))) aNil))) (aCons (aBlt (aIsE K a ε) (aCons (aVar 0) (aCons (aC (.ref (He.ga K "BadMachine"))) aNil))) aNil)))) aNil))) (has__law_error_6 K a ε))
def has__law_error_4 (K : Fg) (a : Addr) (ε : Exn) : AS := (aSeq (aDrop (aMethL aExtendU (aVar 1) (aCons (aLstF (aCons (aBlt (aIsE K a ε) (aCons (aVar 0) (aCons (aC (.ref (He.ga K "Mismatch"))) aNil))) (aCons (aBlt (aIsE K a ε) (aCons (aVar 0) (aCons (aC (.ref (He.ga K "BadMove"))) aNil))) (aCons (aBlt (aIsE K a ε) (aCons (aVar 0) (aCons (aC (.ref (He.ga K "BadTable"))) aNil))) (aCons (aBlt (aIsE K a ε) (aCons (aVar 0) (aCons (aC (.ref (He.ga K "NoTree"))) aNil))) aNil))))) aNil))) (has__law_error_5 K a ε))
def has__law_error_3 (K : Fg) (a : Addr) (ε : Exn) : AS := (aSeq (aDrop (aMethL aExtendU (aVar 1) (aCons (aLstF (aCons (aBlt (aIsE K a ε) (aCons (aVar 0) (aCons (aC (.ref (He.ga K "NoSuchLine"))) aNil))) (aCons (aBlt (aIsE K a ε) (aCons (aVar 0) (aCons (aC (.ref (He.ga K "BadLog"))) aNil))) (aCons (aBlt (aIsE K a ε) (aCons (aVar 0) (aCons (aC (.ref (He.ga K "BadNumber"))) aNil))) aNil)))) aNil))) (has__law_error_4 K a ε))
def has__law_error_2 (K : Fg) (a : Addr) (ε : Exn) : AS := (aSeq (aDrop (aMethL aExtendU (aVar 1) (aCons (aLstF (aCons (aBlt (aIsE K a ε) (aCons (aVar 0) (aCons (aC (.ref (He.ga K "Twice"))) aNil))) (aCons (aBlt (aIsE K a ε) (aCons (aVar 0) (aCons (aC (.ref (He.ga K "TooMany"))) aNil))) (aCons (aBlt (aIsE K a ε) (aCons (aVar 0) (aCons (aC (.ref (He.ga K "BadText"))) aNil))) (aCons (aBlt (aIsE K a ε) (aCons (aVar 0) (aCons (aC (.ref (He.ga K "BadLot"))) aNil))) aNil))))) aNil))) (has__law_error_3 K a ε))
def has__law_error (K : Fg) (a : Addr) (ε : Exn) : AS := (aSeq (aAsg (aLst (aCons (aBlt (aIsE K a ε) (aCons (aVar 0) (aCons (aC (.ref (He.ga K "BadName"))) aNil))) (aCons (aBlt (aIsE K a ε) (aCons (aVar 0) (aCons (aC (.ref (He.ga K "BadKind"))) aNil))) (aCons (aBlt (aIsE K a ε) (aCons (aVar 0) (aCons (aC (.ref (He.ga K "BadTree"))) aNil))) (aCons (aBlt (aIsE K a ε) (aCons (aVar 0) (aCons (aC (.ref (He.ga K "NoSubtree"))) aNil))) aNil))))) (agName 1)) (has__law_error_2 K a ε))

theorem herr_BadName (K : Fg) (kit : ∀ c ∈ excs, ∀ n ∈ kits, PySem.W.kitOne K (.ref (He.ga K c)) (.ref (He.ga K n)) = some (decide (c = n) || decide (n = "GrantError"))) (kitV : ∀ c ∈ excs, PySem.W.kitOne K (.ref (He.ga K c)) (.type "ValueError") = some true)
    (a : Addr) (d p : Addr) (A B : Ah) (q : D → Ah → Prop) (x : AX) (v0 : D) (G : Ext A B) (hp : B p = some (.lst [.bl true, .bl false, .bl false, .bl false, .bl false, .bl false, .bl false, .bl false, .bl false, .bl false, .bl false, .bl false, .bl false, .bl false, .bl false, .bl false, .bl false, .bl false, .bl false, .bl false, .bl false, .bl false, .bl false])) (hA : B d = some (.xd [("name", v0)])) (h : q (.tup [.str (tl "BadName"), .tup [v0]]) A) : has__law_error_8 K a ⟨"BadName", d⟩ (endsA (shr q) x) [some (.ref a), some (.ref p)] B := by
  have hm : ("BadName" : Str) ∈ excs := by decide
  have k1 : ∀ n ∈ kits, PySem.W.kitOne K (exC K ⟨"BadName", d⟩) (.ref (He.ga K n)) = some (decide ("BadName" = n) || decide (n = "GrantError")) := kit _ hm
  (conv => whnf)
  refine ⟨⟨_, hp⟩, ?_⟩
  (conv => whnf)
  refine ⟨_, hp, [true, false, false, false, false, false, false, false, false, false, false, false, false, false, false, false, false, false, false, false, false, false, false], rfl, ?_⟩
  (conv => whnf)
  refine ⟨fun z => absurd z (by decide), fun _ => ?_⟩
  (conv => whnf)
  refine ⟨⟨_, hA⟩, rfl, true, k1 "GrantError" (by decide), ?_⟩
  (conv => whnf)
  refine ⟨nofun, fun _ => ?_⟩
  (conv => whnf)
  refine ⟨⟨_, hA⟩, rfl, true, kitV _ hm, ?_⟩
  (conv => whnf)
  refine ⟨nofun, fun _ => ?_⟩
  (conv => whnf)
  refine ⟨⟨_, hA⟩, rfl, true, k1 "BadName" (by decide), ?_⟩
  (conv => whnf)
  refine ⟨fun _ => ?_, nofun⟩
  (conv => whnf)
  refine ⟨rfl, _, hA, _, rfl, ?_⟩
  (conv => whnf)
  refine ⟨Nat.le_of_ble_eq_true rfl, ?_⟩
  (conv => whnf)
  exact ⟨Nat.le_of_ble_eq_true rfl, A, G, h⟩
theorem herr_Twice (K : Fg) (kit : ∀ c ∈ excs, ∀ n ∈ kits, PySem.W.kitOne K (.ref (He.ga K c)) (.ref (He.ga K n)) = some (decide (c = n) || decide (n = "GrantError"))) (kitV : ∀ c ∈ excs, PySem.W.kitOne K (.ref (He.ga K c)) (.type "ValueError") = some true)
    (a : Addr) (d p : Addr) (A B : Ah) (q : D → Ah → Prop) (x : AX) (v0 : D) (G : Ext A B) (hp : B p = some (.lst [.bl false, .bl false, .bl false, .bl false, .bl true, .bl false, .bl false, .bl false, .bl false, .bl false, .bl false, .bl false, .bl false, .bl false, .bl false, .bl false, .bl false, .bl false, .bl false, .bl false, .bl false, .bl false, .bl false])) (hA : B d = some (.xd [("name", v0)])) (h : q (.tup [.str (tl "Twice"), .tup [v0]]) A) : has__law_error_8 K a ⟨"Twice", d⟩ (endsA (shr q) x) [some (.ref a), some (.ref p)] B := by
  have hm : ("Twice" : Str) ∈ excs := by decide
  have k1 : ∀ n ∈ kits, PySem.W.kitOne K (exC K ⟨"Twice", d⟩) (.ref (He.ga K n)) = some (decide ("Twice" = n) || decide (n = "GrantError")) := kit _ hm
  (conv => whnf)
  refine ⟨⟨_, hp⟩, ?_⟩
  (conv => whnf)
  refine ⟨_, hp, [false, false, false, false, true, false, false, false, false, false, false, false, false, false, false, false, false, false, false, false, false, false, false], rfl, ?_⟩
  (conv => whnf)
  refine ⟨fun z => absurd z (by decide), fun _ => ?_⟩
  (conv => whnf)
  refine ⟨⟨_, hA⟩, rfl, true, k1 "GrantError" (by decide), ?_⟩
  (conv => whnf)
  refine ⟨nofun, fun _ => ?_⟩
  (conv => whnf)
  refine ⟨⟨_, hA⟩, rfl, true, kitV _ hm, ?_⟩
  (conv => whnf)
  refine ⟨nofun, fun _ => ?_⟩
  (conv => whnf)
  refine ⟨⟨_, hA⟩, rfl, false, k1 "BadName" (by decide), ?_⟩
  (conv => whnf)
  refine ⟨nofun, fun _ => ?_⟩
  (conv => whnf)
  refine ⟨⟨_, hA⟩, rfl, false, k1 "BadTree" (by decide), ?_⟩
  (conv => whnf)
  refine ⟨nofun, fun _ => ?_⟩
  (conv => whnf)
  refine ⟨⟨_, hA⟩, rfl, true, k1 "Twice" (by decide), ?_⟩
  (conv => whnf)
  refine ⟨fun _ => ?_, nofun⟩
  (conv => whnf)
  refine ⟨rfl, _, hA, _, rfl, ?_⟩
  (conv => whnf)
  refine ⟨Nat.le_of_ble_eq_true rfl, ?_⟩
  (conv => whnf)
  exact ⟨Nat.le_of_ble_eq_true rfl, A, G, h⟩
theorem herr_TooMany (K : Fg) (kit : ∀ c ∈ excs, ∀ n ∈ kits, PySem.W.kitOne K (.ref (He.ga K c)) (.ref (He.ga K n)) = some (decide (c = n) || decide (n = "GrantError"))) (kitV : ∀ c ∈ excs, PySem.W.kitOne K (.ref (He.ga K c)) (.type "ValueError") = some true)
    (a : Addr) (d p : Addr) (A B : Ah) (q : D → Ah → Prop) (x : AX) (v0 v1 : D) (G : Ext A B) (hp : B p = some (.lst [.bl false, .bl false, .bl false, .bl false, .bl false, .bl true, .bl false, .bl false, .bl false, .bl false, .bl false, .bl false, .bl false, .bl false, .bl false, .bl false, .bl false, .bl false, .bl false, .bl false, .bl false, .bl false, .bl false])) (hA : B d = some (.xd [("limit", v1), ("what", v0)])) (h : q (.tup [.str (tl "TooMany"), .tup [v0, v1]]) A) : has__law_error_8 K a ⟨"TooMany", d⟩ (endsA (shr q) x) [some (.ref a), some (.ref p)] B := by
  have hm : ("TooMany" : Str) ∈ excs := by decide
  have k1 : ∀ n ∈ kits, PySem.W.kitOne K (exC K ⟨"TooMany", d⟩) (.ref (He.ga K n)) = some (decide ("TooMany" = n) || decide (n = "GrantError")) := kit _ hm
  (conv => whnf)
  refine ⟨⟨_, hp⟩, ?_⟩
  (conv => whnf)
  refine ⟨_, hp, [false, false, false, false, false, true, false, false, false, false, false, false, false, false, false, false, false, false, false, false, false, false, false], rfl, ?_⟩
  (conv => whnf)
  refine ⟨fun z => absurd z (by decide), fun _ => ?_⟩
  (conv => whnf)
  refine ⟨⟨_, hA⟩, rfl, true, k1 "GrantError" (by decide), ?_⟩
  (conv => whnf)
  refine ⟨nofun, fun _ => ?_⟩
  (conv => whnf)
  refine ⟨⟨_, hA⟩, rfl, true, kitV _ hm, ?_⟩
  (conv => whnf)
  refine ⟨nofun, fun _ => ?_⟩
  (conv => whnf)
  refine ⟨⟨_, hA⟩, rfl, false, k1 "BadName" (by decide), ?_⟩
  (conv => whnf)
  refine ⟨nofun, fun _ => ?_⟩
  (conv => whnf)
  refine ⟨⟨_, hA⟩, rfl, false, k1 "BadTree" (by decide), ?_⟩
  (conv => whnf)
  refine ⟨nofun, fun _ => ?_⟩
  (conv => whnf)
  refine ⟨⟨_, hA⟩, rfl, false, k1 "Twice" (by decide), ?_⟩
  (conv => whnf)
  refine ⟨nofun, fun _ => ?_⟩
  (conv => whnf)
  refine ⟨⟨_, hA⟩, rfl, true, k1 "TooMany" (by decide), ?_⟩
  (conv => whnf)
  refine ⟨fun _ => ?_, nofun⟩
  (conv => whnf)
  refine ⟨rfl, _, hA, _, rfl, ?_⟩
  (conv => whnf)
  refine ⟨rfl, _, hA, _, rfl, ?_⟩
  (conv => whnf)
  refine ⟨Nat.le_of_ble_eq_true rfl, ?_⟩
  (conv => whnf)
  exact ⟨Nat.le_of_ble_eq_true rfl, A, G, h⟩
theorem herr_BadTree (K : Fg) (kit : ∀ c ∈ excs, ∀ n ∈ kits, PySem.W.kitOne K (.ref (He.ga K c)) (.ref (He.ga K n)) = some (decide (c = n) || decide (n = "GrantError"))) (kitV : ∀ c ∈ excs, PySem.W.kitOne K (.ref (He.ga K c)) (.type "ValueError") = some true)
    (a : Addr) (d p : Addr) (A B : Ah) (q : D → Ah → Prop) (x : AX) (v0 : D) (G : Ext A B) (hp : B p = some (.lst [.bl false, .bl false, .bl true, .bl false, .bl false, .bl false, .bl false, .bl false, .bl false, .bl false, .bl false, .bl false, .bl false, .bl false, .bl false, .bl false, .bl false, .bl false, .bl false, .bl false, .bl false, .bl false, .bl false])) (hA : B d = some (.xd [("path", v0)])) (h : q (.tup [.str (tl "BadTree"), .tup [v0]]) A) : has__law_error_8 K a ⟨"BadTree", d⟩ (endsA (shr q) x) [some (.ref a), some (.ref p)] B := by
  have hm : ("BadTree" : Str) ∈ excs := by decide
  have k1 : ∀ n ∈ kits, PySem.W.kitOne K (exC K ⟨"BadTree", d⟩) (.ref (He.ga K n)) = some (decide ("BadTree" = n) || decide (n = "GrantError")) := kit _ hm
  (conv => whnf)
  refine ⟨⟨_, hp⟩, ?_⟩
  (conv => whnf)
  refine ⟨_, hp, [false, false, true, false, false, false, false, false, false, false, false, false, false, false, false, false, false, false, false, false, false, false, false], rfl, ?_⟩
  (conv => whnf)
  refine ⟨fun z => absurd z (by decide), fun _ => ?_⟩
  (conv => whnf)
  refine ⟨⟨_, hA⟩, rfl, true, k1 "GrantError" (by decide), ?_⟩
  (conv => whnf)
  refine ⟨nofun, fun _ => ?_⟩
  (conv => whnf)
  refine ⟨⟨_, hA⟩, rfl, true, kitV _ hm, ?_⟩
  (conv => whnf)
  refine ⟨nofun, fun _ => ?_⟩
  (conv => whnf)
  refine ⟨⟨_, hA⟩, rfl, false, k1 "BadName" (by decide), ?_⟩
  (conv => whnf)
  refine ⟨nofun, fun _ => ?_⟩
  (conv => whnf)
  refine ⟨⟨_, hA⟩, rfl, true, k1 "BadTree" (by decide), ?_⟩
  (conv => whnf)
  refine ⟨fun _ => ?_, nofun⟩
  (conv => whnf)
  refine ⟨rfl, _, hA, _, rfl, ?_⟩
  (conv => whnf)
  refine ⟨Nat.le_of_ble_eq_true rfl, ?_⟩
  (conv => whnf)
  exact ⟨Nat.le_of_ble_eq_true rfl, A, G, h⟩
theorem herr_BadLot (K : Fg) (kit : ∀ c ∈ excs, ∀ n ∈ kits, PySem.W.kitOne K (.ref (He.ga K c)) (.ref (He.ga K n)) = some (decide (c = n) || decide (n = "GrantError"))) (kitV : ∀ c ∈ excs, PySem.W.kitOne K (.ref (He.ga K c)) (.type "ValueError") = some true)
    (a : Addr) (d p : Addr) (A B : Ah) (q : D → Ah → Prop) (x : AX) (v0 : D) (G : Ext A B) (hp : B p = some (.lst [.bl false, .bl false, .bl false, .bl false, .bl false, .bl false, .bl false, .bl true, .bl false, .bl false, .bl false, .bl false, .bl false, .bl false, .bl false, .bl false, .bl false, .bl false, .bl false, .bl false, .bl false, .bl false, .bl false])) (hA : B d = some (.xd [("at", v0)])) (h : q (.tup [.str (tl "BadLot"), .tup [v0]]) A) : has__law_error_8 K a ⟨"BadLot", d⟩ (endsA (shr q) x) [some (.ref a), some (.ref p)] B := by
  have hm : ("BadLot" : Str) ∈ excs := by decide
  have k1 : ∀ n ∈ kits, PySem.W.kitOne K (exC K ⟨"BadLot", d⟩) (.ref (He.ga K n)) = some (decide ("BadLot" = n) || decide (n = "GrantError")) := kit _ hm
  (conv => whnf)
  refine ⟨⟨_, hp⟩, ?_⟩
  (conv => whnf)
  refine ⟨_, hp, [false, false, false, false, false, false, false, true, false, false, false, false, false, false, false, false, false, false, false, false, false, false, false], rfl, ?_⟩
  (conv => whnf)
  refine ⟨fun z => absurd z (by decide), fun _ => ?_⟩
  (conv => whnf)
  refine ⟨⟨_, hA⟩, rfl, true, k1 "GrantError" (by decide), ?_⟩
  (conv => whnf)
  refine ⟨nofun, fun _ => ?_⟩
  (conv => whnf)
  refine ⟨⟨_, hA⟩, rfl, true, kitV _ hm, ?_⟩
  (conv => whnf)
  refine ⟨nofun, fun _ => ?_⟩
  (conv => whnf)
  refine ⟨⟨_, hA⟩, rfl, false, k1 "BadName" (by decide), ?_⟩
  (conv => whnf)
  refine ⟨nofun, fun _ => ?_⟩
  (conv => whnf)
  refine ⟨⟨_, hA⟩, rfl, false, k1 "BadTree" (by decide), ?_⟩
  (conv => whnf)
  refine ⟨nofun, fun _ => ?_⟩
  (conv => whnf)
  refine ⟨⟨_, hA⟩, rfl, false, k1 "Twice" (by decide), ?_⟩
  (conv => whnf)
  refine ⟨nofun, fun _ => ?_⟩
  (conv => whnf)
  refine ⟨⟨_, hA⟩, rfl, false, k1 "TooMany" (by decide), ?_⟩
  (conv => whnf)
  refine ⟨nofun, fun _ => ?_⟩
  (conv => whnf)
  refine ⟨⟨_, hA⟩, rfl, true, k1 "BadLot" (by decide), ?_⟩
  (conv => whnf)
  refine ⟨fun _ => ?_, nofun⟩
  (conv => whnf)
  refine ⟨rfl, _, hA, _, rfl, ?_⟩
  (conv => whnf)
  refine ⟨Nat.le_of_ble_eq_true rfl, ?_⟩
  (conv => whnf)
  exact ⟨Nat.le_of_ble_eq_true rfl, A, G, h⟩
theorem herr_NoSuchLine (K : Fg) (kit : ∀ c ∈ excs, ∀ n ∈ kits, PySem.W.kitOne K (.ref (He.ga K c)) (.ref (He.ga K n)) = some (decide (c = n) || decide (n = "GrantError"))) (kitV : ∀ c ∈ excs, PySem.W.kitOne K (.ref (He.ga K c)) (.type "ValueError") = some true)
    (a : Addr) (d p : Addr) (A B : Ah) (q : D → Ah → Prop) (x : AX) (v0 : D) (G : Ext A B) (hp : B p = some (.lst [.bl false, .bl false, .bl false, .bl false, .bl false, .bl false, .bl false, .bl false, .bl true, .bl false, .bl false, .bl false, .bl false, .bl false, .bl false, .bl false, .bl false, .bl false, .bl false, .bl false, .bl false, .bl false, .bl false])) (hA : B d = some (.xd [("name", v0)])) (h : q (.tup [.str (tl "NoSuchLine"), .tup [v0]]) A) : has__law_error_8 K a ⟨"NoSuchLine", d⟩ (endsA (shr q) x) [some (.ref a), some (.ref p)] B := by
  have hm : ("NoSuchLine" : Str) ∈ excs := by decide
  have k1 : ∀ n ∈ kits, PySem.W.kitOne K (exC K ⟨"NoSuchLine", d⟩) (.ref (He.ga K n)) = some (decide ("NoSuchLine" = n) || decide (n = "GrantError")) := kit _ hm
  (conv => whnf)
  refine ⟨⟨_, hp⟩, ?_⟩
  (conv => whnf)
  refine ⟨_, hp, [false, false, false, false, false, false, false, false, true, false, false, false, false, false, false, false, false, false, false, false, false, false, false], rfl, ?_⟩
  (conv => whnf)
  refine ⟨fun z => absurd z (by decide), fun _ => ?_⟩
  (conv => whnf)
  refine ⟨⟨_, hA⟩, rfl, true, k1 "GrantError" (by decide), ?_⟩
  (conv => whnf)
  refine ⟨nofun, fun _ => ?_⟩
  (conv => whnf)
  refine ⟨⟨_, hA⟩, rfl, true, kitV _ hm, ?_⟩
  (conv => whnf)
  refine ⟨nofun, fun _ => ?_⟩
  (conv => whnf)
  refine ⟨⟨_, hA⟩, rfl, false, k1 "BadName" (by decide), ?_⟩
  (conv => whnf)
  refine ⟨nofun, fun _ => ?_⟩
  (conv => whnf)
  refine ⟨⟨_, hA⟩, rfl, false, k1 "BadTree" (by decide), ?_⟩
  (conv => whnf)
  refine ⟨nofun, fun _ => ?_⟩
  (conv => whnf)
  refine ⟨⟨_, hA⟩, rfl, false, k1 "Twice" (by decide), ?_⟩
  (conv => whnf)
  refine ⟨nofun, fun _ => ?_⟩
  (conv => whnf)
  refine ⟨⟨_, hA⟩, rfl, false, k1 "TooMany" (by decide), ?_⟩
  (conv => whnf)
  refine ⟨nofun, fun _ => ?_⟩
  (conv => whnf)
  refine ⟨⟨_, hA⟩, rfl, false, k1 "BadLot" (by decide), ?_⟩
  (conv => whnf)
  refine ⟨nofun, fun _ => ?_⟩
  (conv => whnf)
  refine ⟨⟨_, hA⟩, rfl, true, k1 "NoSuchLine" (by decide), ?_⟩
  (conv => whnf)
  refine ⟨fun _ => ?_, nofun⟩
  (conv => whnf)
  refine ⟨rfl, _, hA, _, rfl, ?_⟩
  (conv => whnf)
  refine ⟨Nat.le_of_ble_eq_true rfl, ?_⟩
  (conv => whnf)
  exact ⟨Nat.le_of_ble_eq_true rfl, A, G, h⟩
theorem pureh__law_error (K : Fg) (kit : ∀ c ∈ excs, ∀ n ∈ kits, PySem.W.kitOne K (.ref (He.ga K c)) (.ref (He.ga K n)) = some (decide (c = n) || decide (n = "GrantError"))) (kitV : ∀ c ∈ excs, PySem.W.kitOne K (.ref (He.ga K c)) (.type "ValueError") = some true)
    (a : Addr) (ε : Exn) (ds : List D) (A : Ah) (q : D → Ah → Prop) (x : AX) : hsp__law_error a ε ds A q x → has__law_error K a ε (endsA (shr q) x) (startA ["e", "flags"] ds) A := by
  obtain ⟨cl, d⟩ := ε
  rintro ⟨rfl, hh⟩
  have hm : cl ∈ excs := by
    rcases hh with ⟨v0, hc, hA, h⟩ | ⟨v0, hc, hA, h⟩ | ⟨v0, v1, hc, hA, h⟩ | ⟨v0, hc, hA, h⟩ | ⟨v0, hc, hA, h⟩ | ⟨v0, hc, hA, h⟩ <;> (dsimp only at hc; subst hc; decide)
  obtain ⟨fs, hA⟩ : ∃ fs, A d = some (.xd fs) := by
    rcases hh with ⟨v0, hc, hA, h⟩ | ⟨v0, hc, hA, h⟩ | ⟨v0, v1, hc, hA, h⟩ | ⟨v0, hc, hA, h⟩ | ⟨v0, hc, hA, h⟩ | ⟨v0, hc, hA, h⟩ <;> exact ⟨_, hA⟩
  have k1 : ∀ n ∈ kits, PySem.W.kitOne K (exC K ⟨cl, d⟩) (.ref (He.ga K n)) = some (decide (cl = n) || decide (n = "GrantError")) := kit _ hm
  have tail : ∀ (p : Addr) (B : Ah), Ext A B → B p = some (.lst [.bl (decide (cl = "BadName") || decide (("BadName" : Str) = "GrantError")), .bl (decide (cl = "BadKind") || decide (("BadKind" : Str) = "GrantError")), .bl (decide (cl = "BadTree") || decide (("BadTree" : Str) = "GrantError")), .bl (decide (cl = "NoSubtree") || decide (("NoSubtree" : Str) = "GrantError")), .bl (decide (cl = "Twice") || decide (("Twice" : Str) = "GrantError")), .bl (decide (cl = "TooMany") || decide (("TooMany" : Str) = "GrantError")), .bl (decide (cl = "BadText") || decide (("BadText" : Str) = "GrantError")), .bl (decide (cl = "BadLot") || decide (("BadLot" : Str) = "GrantError")), .bl (decide (cl = "NoSuchLine") || decide (("NoSuchLine" : Str) = "GrantError")), .bl (decide (cl = "BadLog") || decide (("BadLog" : Str) = "GrantError")), .bl (decide (cl = "BadNumber") || decide (("BadNumber" : Str) = "GrantError")), .bl (decide (cl = "Mismatch") || decide (("Mismatch" : Str) = "GrantError")), .bl (decide (cl = "BadMove") || decide (("BadMove" : Str) = "GrantError")), .bl (decide (cl = "BadTable") || decide (("BadTable" : Str) = "GrantError")), .bl (decide (cl = "NoTree") || decide (("NoTree" : Str) = "GrantError")), .bl (decide (cl = "BadMatrix") || decide (("BadMatrix" : Str) = "GrantError")), .bl (decide (cl = "NoGrant") || decide (("NoGrant" : Str) = "GrantError")), .bl (decide (cl = "BadMachine") || decide (("BadMachine" : Str) = "GrantError")), .bl (decide (cl = "BadWish") || decide (("BadWish" : Str) = "GrantError")), .bl (decide (cl = "NoCover") || decide (("NoCover" : Str) = "GrantError")), .bl (decide (cl = "Barred") || decide (("Barred" : Str) = "GrantError")), .bl (decide (cl = "LastLine") || decide (("LastLine" : Str) = "GrantError")), .bl (decide (cl = "NoEdit") || decide (("NoEdit" : Str) = "GrantError"))]) → has__law_error_8 K a ⟨cl, d⟩ (endsA (shr q) x) [some (.ref a), some (.ref p)] B := by
    intro p B G hp
    rcases hh with ⟨v0, hc, hA, h⟩ | ⟨v0, hc, hA, h⟩ | ⟨v0, v1, hc, hA, h⟩ | ⟨v0, hc, hA, h⟩ | ⟨v0, hc, hA, h⟩ | ⟨v0, hc, hA, h⟩
    · dsimp only at hc hA; subst hc; exact herr_BadName K kit kitV a d p A B q x v0 G hp (G _ _ hA) h
    · dsimp only at hc hA; subst hc; exact herr_Twice K kit kitV a d p A B q x v0 G hp (G _ _ hA) h
    · dsimp only at hc hA; subst hc; exact herr_TooMany K kit kitV a d p A B q x v0 v1 G hp (G _ _ hA) h
    · dsimp only at hc hA; subst hc; exact herr_BadTree K kit kitV a d p A B q x v0 G hp (G _ _ hA) h
    · dsimp only at hc hA; subst hc; exact herr_BadLot K kit kitV a d p A B q x v0 G hp (G _ _ hA) h
    · dsimp only at hc hA; subst hc; exact herr_NoSuchLine K kit kitV a d p A B q x v0 G hp (G _ _ hA) h
  clear hh
  (conv => whnf)
  refine ⟨⟨_, hA⟩, rfl, _, k1 "BadName" (by decide), ?_⟩
  (conv => whnf)
  refine ⟨⟨_, hA⟩, rfl, _, k1 "BadKind" (by decide), ?_⟩
  (conv => whnf)
  refine ⟨⟨_, hA⟩, rfl, _, k1 "BadTree" (by decide), ?_⟩
  (conv => whnf)
  refine ⟨⟨_, hA⟩, rfl, _, k1 "NoSubtree" (by decide), ?_⟩
  (conv => whnf)
  refine ⟨Nat.le_of_ble_eq_true rfl, fun p hp => ?_⟩
  have hp1 : updA A p (.lst [.bl (decide (cl = "BadName") || decide (("BadName" : Str) = "GrantError")), .bl (decide (cl = "BadKind") || decide (("BadKind" : Str) = "GrantError")), .bl (decide (cl = "BadTree") || decide (("BadTree" : Str) = "GrantError")), .bl (decide (cl = "NoSubtree") || decide (("NoSubtree" : Str) = "GrantError"))]) p = some (.lst [.bl (decide (cl = "BadName") || decide (("BadName" : Str) = "GrantError")), .bl (decide (cl = "BadKind") || decide (("BadKind" : Str) = "GrantError")), .bl (decide (cl = "BadTree") || decide (("BadTree" : Str) = "GrantError")), .bl (decide (cl = "NoSubtree") || decide (("NoSubtree" : Str) = "GrantError"))]) := updA_same
  have hA1 : updA A p (.lst [.bl (decide (cl = "BadName") || decide (("BadName" : Str) = "GrantError")), .bl (decide (cl = "BadKind") || decide (("BadKind" : Str) = "GrantError")), .bl (decide (cl = "BadTree") || decide (("BadTree" : Str) = "GrantError")), .bl (decide (cl = "NoSubtree") || decide (("NoSubtree" : Str) = "GrantError"))]) d = some (.xd fs) := Ext.new hp _ _ hA
  have G1 : Ext A (updA A p (.lst [.bl (decide (cl = "BadName") || decide (("BadName" : Str) = "GrantError")), .bl (decide (cl = "BadKind") || decide (("BadKind" : Str) = "GrantError")), .bl (decide (cl = "BadTree") || decide (("BadTree" : Str) = "GrantError")), .bl (decide (cl = "NoSubtree") || decide (("NoSubtree" : Str) = "GrantError"))])) := .new hp
  have hpd : d ≠ p := neA hA hp
  generalize updA A p (.lst [.bl (decide (cl = "BadName") || decide (("BadName" : Str) = "GrantError")), .bl (decide (cl = "BadKind") || decide (("BadKind" : Str) = "GrantError")), .bl (decide (cl = "BadTree") || decide (("BadTree" : Str) = "GrantError")), .bl (decide (cl = "NoSubtree") || decide (("NoSubtree" : Str) = "GrantError"))]) = A1 at hp1 hA1 G1 ⊢
  (conv => whnf)
  refine ⟨⟨_, hp1⟩, ?_⟩
  (conv => whnf)
  refine ⟨⟨_, hA1⟩, rfl, _, k1 "Twice" (by decide), ?_⟩
  (conv => whnf)
  refine ⟨⟨_, hA1⟩, rfl, _, k1 "TooMany" (by decide), ?_⟩
  (conv => whnf)
  refine ⟨⟨_, hA1⟩, rfl, _, k1 "BadText" (by decide), ?_⟩
  (conv => whnf)
  refine ⟨⟨_, hA1⟩, rfl, _, k1 "BadLot" (by decide), ?_⟩
  (conv => whnf)
  refine ⟨Nat.le_of_ble_eq_true rfl, ?_⟩
  (conv => whnf)
  refine ⟨_, hp1, Nat.le_of_ble_eq_true rfl, ?_⟩
  have hp2 : updA A1 p (.lst ([.bl (decide (cl = "BadName") || decide (("BadName" : Str) = "GrantError")), .bl (decide (cl = "BadKind") || decide (("BadKind" : Str) = "GrantError")), .bl (decide (cl = "BadTree") || decide (("BadTree" : Str) = "GrantError")), .bl (decide (cl = "NoSubtree") || decide (("NoSubtree" : Str) = "GrantError"))] ++ [.bl (decide (cl = "Twice") || decide (("Twice" : Str) = "GrantError")), .bl (decide (cl = "TooMany") || decide (("TooMany" : Str) = "GrantError")), .bl (decide (cl = "BadText") || decide (("BadText" : Str) = "GrantError")), .bl (decide (cl = "BadLot") || decide (("BadLot" : Str) = "GrantError"))])) p = some (.lst [.bl (decide (cl = "BadName") || decide (("BadName" : Str) = "GrantError")), .bl (decide (cl = "BadKind") || decide (("BadKind" : Str) = "GrantError")), .bl (decide (cl = "BadTree") || decide (("BadTree" : Str) = "GrantError")), .bl (decide (cl = "NoSubtree") || decide (("NoSubtree" : Str) = "GrantError")), .bl (decide (cl = "Twice") || decide (("Twice" : Str) = "GrantError")), .bl (decide (cl = "TooMany") || decide (("TooMany" : Str) = "GrantError")), .bl (decide (cl = "BadText") || decide (("BadText" : Str) = "GrantError")), .bl (decide (cl = "BadLot") || decide (("BadLot" : Str) = "GrantError"))]) := updA_same
  have hA2 : updA A1 p (.lst ([.bl (decide (cl = "BadName") || decide (("BadName" : Str) = "GrantError")), .bl (decide (cl = "BadKind") || decide (("BadKind" : Str) = "GrantError")), .bl (decide (cl = "BadTree") || decide (("BadTree" : Str) = "GrantError")), .bl (decide (cl = "NoSubtree") || decide (("NoSubtree" : Str) = "GrantError"))] ++ [.bl (decide (cl = "Twice") || decide (("Twice" : Str) = "GrantError")), .bl (decide (cl = "TooMany") || decide (("TooMany" : Str) = "GrantError")), .bl (decide (cl = "BadText") || decide (("BadText" : Str) = "GrantError")), .bl (decide (cl = "BadLot") || decide (("BadLot" : Str) = "GrantError"))])) d = some (.xd fs) := by rw [updA_ne hpd]; exact hA1
  have G2 : Ext A (updA A1 p (.lst ([.bl (decide (cl = "BadName") || decide (("BadName" : Str) = "GrantError")), .bl (decide (cl = "BadKind") || decide (("BadKind" : Str) = "GrantError")), .bl (decide (cl = "BadTree") || decide (("BadTree" : Str) = "GrantError")), .bl (decide (cl = "NoSubtree") || decide (("NoSubtree" : Str) = "GrantError"))] ++ [.bl (decide (cl = "Twice") || decide (("Twice" : Str) = "GrantError")), .bl (decide (cl = "TooMany") || decide (("TooMany" : Str) = "GrantError")), .bl (decide (cl = "BadText") || decide (("BadText" : Str) = "GrantError")), .bl (decide (cl = "BadLot") || decide (("BadLot" : Str) = "GrantError"))]))) := G1.upd hp
  generalize updA A1 p (.lst ([.bl (decide (cl = "BadName") || decide (("BadName" : Str) = "GrantError")), .bl (decide (cl = "BadKind") || decide (("BadKind" : Str) = "GrantError")), .bl (decide (cl = "BadTree") || decide (("BadTree" : Str) = "GrantError")), .bl (decide (cl = "NoSubtree") || decide (("NoSubtree" : Str) = "GrantError"))] ++ [.bl (decide (cl = "Twice") || decide (("Twice" : Str) = "GrantError")), .bl (decide (cl = "TooMany") || decide (("TooMany" : Str) = "GrantError")), .bl (decide (cl = "BadText") || decide (("BadText" : Str) = "GrantError")), .bl (decide (cl = "BadLot") || decide (("BadLot" : Str) = "GrantError"))])) = A2 at hp2 hA2 G2 ⊢
  (conv => whnf)
  refine ⟨⟨_, hp2⟩, ?_⟩
  (conv => whnf)
  refine ⟨⟨_, hA2⟩, rfl, _, k1 "NoSuchLine" (by decide), ?_⟩
  (conv => whnf)
  refine ⟨⟨_, hA2⟩, rfl, _, k1 "BadLog" (by decide), ?_⟩
  (conv => whnf)
  refine ⟨⟨_, hA2⟩, rfl, _, k1 "BadNumber" (by decide), ?_⟩
  (conv => whnf)
  refine ⟨Nat.le_of_ble_eq_true rfl, ?_⟩
  (conv => whnf)
  refine ⟨_, hp2, Nat.le_of_ble_eq_true rfl, ?_⟩
  have hp3 : updA A2 p (.lst ([.bl (decide (cl = "BadName") || decide (("BadName" : Str) = "GrantError")), .bl (decide (cl = "BadKind") || decide (("BadKind" : Str) = "GrantError")), .bl (decide (cl = "BadTree") || decide (("BadTree" : Str) = "GrantError")), .bl (decide (cl = "NoSubtree") || decide (("NoSubtree" : Str) = "GrantError")), .bl (decide (cl = "Twice") || decide (("Twice" : Str) = "GrantError")), .bl (decide (cl = "TooMany") || decide (("TooMany" : Str) = "GrantError")), .bl (decide (cl = "BadText") || decide (("BadText" : Str) = "GrantError")), .bl (decide (cl = "BadLot") || decide (("BadLot" : Str) = "GrantError"))] ++ [.bl (decide (cl = "NoSuchLine") || decide (("NoSuchLine" : Str) = "GrantError")), .bl (decide (cl = "BadLog") || decide (("BadLog" : Str) = "GrantError")), .bl (decide (cl = "BadNumber") || decide (("BadNumber" : Str) = "GrantError"))])) p = some (.lst [.bl (decide (cl = "BadName") || decide (("BadName" : Str) = "GrantError")), .bl (decide (cl = "BadKind") || decide (("BadKind" : Str) = "GrantError")), .bl (decide (cl = "BadTree") || decide (("BadTree" : Str) = "GrantError")), .bl (decide (cl = "NoSubtree") || decide (("NoSubtree" : Str) = "GrantError")), .bl (decide (cl = "Twice") || decide (("Twice" : Str) = "GrantError")), .bl (decide (cl = "TooMany") || decide (("TooMany" : Str) = "GrantError")), .bl (decide (cl = "BadText") || decide (("BadText" : Str) = "GrantError")), .bl (decide (cl = "BadLot") || decide (("BadLot" : Str) = "GrantError")), .bl (decide (cl = "NoSuchLine") || decide (("NoSuchLine" : Str) = "GrantError")), .bl (decide (cl = "BadLog") || decide (("BadLog" : Str) = "GrantError")), .bl (decide (cl = "BadNumber") || decide (("BadNumber" : Str) = "GrantError"))]) := updA_same
  have hA3 : updA A2 p (.lst ([.bl (decide (cl = "BadName") || decide (("BadName" : Str) = "GrantError")), .bl (decide (cl = "BadKind") || decide (("BadKind" : Str) = "GrantError")), .bl (decide (cl = "BadTree") || decide (("BadTree" : Str) = "GrantError")), .bl (decide (cl = "NoSubtree") || decide (("NoSubtree" : Str) = "GrantError")), .bl (decide (cl = "Twice") || decide (("Twice" : Str) = "GrantError")), .bl (decide (cl = "TooMany") || decide (("TooMany" : Str) = "GrantError")), .bl (decide (cl = "BadText") || decide (("BadText" : Str) = "GrantError")), .bl (decide (cl = "BadLot") || decide (("BadLot" : Str) = "GrantError"))] ++ [.bl (decide (cl = "NoSuchLine") || decide (("NoSuchLine" : Str) = "GrantError")), .bl (decide (cl = "BadLog") || decide (("BadLog" : Str) = "GrantError")), .bl (decide (cl = "BadNumber") || decide (("BadNumber" : Str) = "GrantError"))])) d = some (.xd fs) := by rw [updA_ne hpd]; exact hA2
  have G3 : Ext A (updA A2 p (.lst ([.bl (decide (cl = "BadName") || decide (("BadName" : Str) = "GrantError")), .bl (decide (cl = "BadKind") || decide (("BadKind" : Str) = "GrantError")), .bl (decide (cl = "BadTree") || decide (("BadTree" : Str) = "GrantError")), .bl (decide (cl = "NoSubtree") || decide (("NoSubtree" : Str) = "GrantError")), .bl (decide (cl = "Twice") || decide (("Twice" : Str) = "GrantError")), .bl (decide (cl = "TooMany") || decide (("TooMany" : Str) = "GrantError")), .bl (decide (cl = "BadText") || decide (("BadText" : Str) = "GrantError")), .bl (decide (cl = "BadLot") || decide (("BadLot" : Str) = "GrantError"))] ++ [.bl (decide (cl = "NoSuchLine") || decide (("NoSuchLine" : Str) = "GrantError")), .bl (decide (cl = "BadLog") || decide (("BadLog" : Str) = "GrantError")), .bl (decide (cl = "BadNumber") || decide (("BadNumber" : Str) = "GrantError"))]))) := G2.upd hp
  generalize updA A2 p (.lst ([.bl (decide (cl = "BadName") || decide (("BadName" : Str) = "GrantError")), .bl (decide (cl = "BadKind") || decide (("BadKind" : Str) = "GrantError")), .bl (decide (cl = "BadTree") || decide (("BadTree" : Str) = "GrantError")), .bl (decide (cl = "NoSubtree") || decide (("NoSubtree" : Str) = "GrantError")), .bl (decide (cl = "Twice") || decide (("Twice" : Str) = "GrantError")), .bl (decide (cl = "TooMany") || decide (("TooMany" : Str) = "GrantError")), .bl (decide (cl = "BadText") || decide (("BadText" : Str) = "GrantError")), .bl (decide (cl = "BadLot") || decide (("BadLot" : Str) = "GrantError"))] ++ [.bl (decide (cl = "NoSuchLine") || decide (("NoSuchLine" : Str) = "GrantError")), .bl (decide (cl = "BadLog") || decide (("BadLog" : Str) = "GrantError")), .bl (decide (cl = "BadNumber") || decide (("BadNumber" : Str) = "GrantError"))])) = A3 at hp3 hA3 G3 ⊢
  (conv => whnf)
  refine ⟨⟨_, hp3⟩, ?_⟩
  (conv => whnf)
  refine ⟨⟨_, hA3⟩, rfl, _, k1 "Mismatch" (by decide), ?_⟩
  (conv => whnf)
  refine ⟨⟨_, hA3⟩, rfl, _, k1 "BadMove" (by decide), ?_⟩
  (conv => whnf)
  refine ⟨⟨_, hA3⟩, rfl, _, k1 "BadTable" (by decide), ?_⟩
  (conv => whnf)
  refine ⟨⟨_, hA3⟩, rfl, _, k1 "NoTree" (by decide), ?_⟩
  (conv => whnf)
  refine ⟨Nat.le_of_ble_eq_true rfl, ?_⟩
  (conv => whnf)
  refine ⟨_, hp3, Nat.le_of_ble_eq_true rfl, ?_⟩
  have hp4 : updA A3 p (.lst ([.bl (decide (cl = "BadName") || decide (("BadName" : Str) = "GrantError")), .bl (decide (cl = "BadKind") || decide (("BadKind" : Str) = "GrantError")), .bl (decide (cl = "BadTree") || decide (("BadTree" : Str) = "GrantError")), .bl (decide (cl = "NoSubtree") || decide (("NoSubtree" : Str) = "GrantError")), .bl (decide (cl = "Twice") || decide (("Twice" : Str) = "GrantError")), .bl (decide (cl = "TooMany") || decide (("TooMany" : Str) = "GrantError")), .bl (decide (cl = "BadText") || decide (("BadText" : Str) = "GrantError")), .bl (decide (cl = "BadLot") || decide (("BadLot" : Str) = "GrantError")), .bl (decide (cl = "NoSuchLine") || decide (("NoSuchLine" : Str) = "GrantError")), .bl (decide (cl = "BadLog") || decide (("BadLog" : Str) = "GrantError")), .bl (decide (cl = "BadNumber") || decide (("BadNumber" : Str) = "GrantError"))] ++ [.bl (decide (cl = "Mismatch") || decide (("Mismatch" : Str) = "GrantError")), .bl (decide (cl = "BadMove") || decide (("BadMove" : Str) = "GrantError")), .bl (decide (cl = "BadTable") || decide (("BadTable" : Str) = "GrantError")), .bl (decide (cl = "NoTree") || decide (("NoTree" : Str) = "GrantError"))])) p = some (.lst [.bl (decide (cl = "BadName") || decide (("BadName" : Str) = "GrantError")), .bl (decide (cl = "BadKind") || decide (("BadKind" : Str) = "GrantError")), .bl (decide (cl = "BadTree") || decide (("BadTree" : Str) = "GrantError")), .bl (decide (cl = "NoSubtree") || decide (("NoSubtree" : Str) = "GrantError")), .bl (decide (cl = "Twice") || decide (("Twice" : Str) = "GrantError")), .bl (decide (cl = "TooMany") || decide (("TooMany" : Str) = "GrantError")), .bl (decide (cl = "BadText") || decide (("BadText" : Str) = "GrantError")), .bl (decide (cl = "BadLot") || decide (("BadLot" : Str) = "GrantError")), .bl (decide (cl = "NoSuchLine") || decide (("NoSuchLine" : Str) = "GrantError")), .bl (decide (cl = "BadLog") || decide (("BadLog" : Str) = "GrantError")), .bl (decide (cl = "BadNumber") || decide (("BadNumber" : Str) = "GrantError")), .bl (decide (cl = "Mismatch") || decide (("Mismatch" : Str) = "GrantError")), .bl (decide (cl = "BadMove") || decide (("BadMove" : Str) = "GrantError")), .bl (decide (cl = "BadTable") || decide (("BadTable" : Str) = "GrantError")), .bl (decide (cl = "NoTree") || decide (("NoTree" : Str) = "GrantError"))]) := updA_same
  have hA4 : updA A3 p (.lst ([.bl (decide (cl = "BadName") || decide (("BadName" : Str) = "GrantError")), .bl (decide (cl = "BadKind") || decide (("BadKind" : Str) = "GrantError")), .bl (decide (cl = "BadTree") || decide (("BadTree" : Str) = "GrantError")), .bl (decide (cl = "NoSubtree") || decide (("NoSubtree" : Str) = "GrantError")), .bl (decide (cl = "Twice") || decide (("Twice" : Str) = "GrantError")), .bl (decide (cl = "TooMany") || decide (("TooMany" : Str) = "GrantError")), .bl (decide (cl = "BadText") || decide (("BadText" : Str) = "GrantError")), .bl (decide (cl = "BadLot") || decide (("BadLot" : Str) = "GrantError")), .bl (decide (cl = "NoSuchLine") || decide (("NoSuchLine" : Str) = "GrantError")), .bl (decide (cl = "BadLog") || decide (("BadLog" : Str) = "GrantError")), .bl (decide (cl = "BadNumber") || decide (("BadNumber" : Str) = "GrantError"))] ++ [.bl (decide (cl = "Mismatch") || decide (("Mismatch" : Str) = "GrantError")), .bl (decide (cl = "BadMove") || decide (("BadMove" : Str) = "GrantError")), .bl (decide (cl = "BadTable") || decide (("BadTable" : Str) = "GrantError")), .bl (decide (cl = "NoTree") || decide (("NoTree" : Str) = "GrantError"))])) d = some (.xd fs) := by rw [updA_ne hpd]; exact hA3
  have G4 : Ext A (updA A3 p (.lst ([.bl (decide (cl = "BadName") || decide (("BadName" : Str) = "GrantError")), .bl (decide (cl = "BadKind") || decide (("BadKind" : Str) = "GrantError")), .bl (decide (cl = "BadTree") || decide (("BadTree" : Str) = "GrantError")), .bl (decide (cl = "NoSubtree") || decide (("NoSubtree" : Str) = "GrantError")), .bl (decide (cl = "Twice") || decide (("Twice" : Str) = "GrantError")), .bl (decide (cl = "TooMany") || decide (("TooMany" : Str) = "GrantError")), .bl (decide (cl = "BadText") || decide (("BadText" : Str) = "GrantError")), .bl (decide (cl = "BadLot") || decide (("BadLot" : Str) = "GrantError")), .bl (decide (cl = "NoSuchLine") || decide (("NoSuchLine" : Str) = "GrantError")), .bl (decide (cl = "BadLog") || decide (("BadLog" : Str) = "GrantError")), .bl (decide (cl = "BadNumber") || decide (("BadNumber" : Str) = "GrantError"))] ++ [.bl (decide (cl = "Mismatch") || decide (("Mismatch" : Str) = "GrantError")), .bl (decide (cl = "BadMove") || decide (("BadMove" : Str) = "GrantError")), .bl (decide (cl = "BadTable") || decide (("BadTable" : Str) = "GrantError")), .bl (decide (cl = "NoTree") || decide (("NoTree" : Str) = "GrantError"))]))) := G3.upd hp
  generalize updA A3 p (.lst ([.bl (decide (cl = "BadName") || decide (("BadName" : Str) = "GrantError")), .bl (decide (cl = "BadKind") || decide (("BadKind" : Str) = "GrantError")), .bl (decide (cl = "BadTree") || decide (("BadTree" : Str) = "GrantError")), .bl (decide (cl = "NoSubtree") || decide (("NoSubtree" : Str) = "GrantError")), .bl (decide (cl = "Twice") || decide (("Twice" : Str) = "GrantError")), .bl (decide (cl = "TooMany") || decide (("TooMany" : Str) = "GrantError")), .bl (decide (cl = "BadText") || decide (("BadText" : Str) = "GrantError")), .bl (decide (cl = "BadLot") || decide (("BadLot" : Str) = "GrantError")), .bl (decide (cl = "NoSuchLine") || decide (("NoSuchLine" : Str) = "GrantError")), .bl (decide (cl = "BadLog") || decide (("BadLog" : Str) = "GrantError")), .bl (decide (cl = "BadNumber") || decide (("BadNumber" : Str) = "GrantError"))] ++ [.bl (decide (cl = "Mismatch") || decide (("Mismatch" : Str) = "GrantError")), .bl (decide (cl = "BadMove") || decide (("BadMove" : Str) = "GrantError")), .bl (decide (cl = "BadTable") || decide (("BadTable" : Str) = "GrantError")), .bl (decide (cl = "NoTree") || decide (("NoTree" : Str) = "GrantError"))])) = A4 at hp4 hA4 G4 ⊢
  (conv => whnf)
  refine ⟨⟨_, hp4⟩, ?_⟩
  (conv => whnf)
  refine ⟨⟨_, hA4⟩, rfl, _, k1 "BadMatrix" (by decide), ?_⟩
  (conv => whnf)
  refine ⟨⟨_, hA4⟩, rfl, _, k1 "NoGrant" (by decide), ?_⟩
  (conv => whnf)
  refine ⟨⟨_, hA4⟩, rfl, _, k1 "BadMachine" (by decide), ?_⟩
  (conv => whnf)
  refine ⟨Nat.le_of_ble_eq_true rfl, ?_⟩
  (conv => whnf)
  refine ⟨_, hp4, Nat.le_of_ble_eq_true rfl, ?_⟩
  have hp5 : updA A4 p (.lst ([.bl (decide (cl = "BadName") || decide (("BadName" : Str) = "GrantError")), .bl (decide (cl = "BadKind") || decide (("BadKind" : Str) = "GrantError")), .bl (decide (cl = "BadTree") || decide (("BadTree" : Str) = "GrantError")), .bl (decide (cl = "NoSubtree") || decide (("NoSubtree" : Str) = "GrantError")), .bl (decide (cl = "Twice") || decide (("Twice" : Str) = "GrantError")), .bl (decide (cl = "TooMany") || decide (("TooMany" : Str) = "GrantError")), .bl (decide (cl = "BadText") || decide (("BadText" : Str) = "GrantError")), .bl (decide (cl = "BadLot") || decide (("BadLot" : Str) = "GrantError")), .bl (decide (cl = "NoSuchLine") || decide (("NoSuchLine" : Str) = "GrantError")), .bl (decide (cl = "BadLog") || decide (("BadLog" : Str) = "GrantError")), .bl (decide (cl = "BadNumber") || decide (("BadNumber" : Str) = "GrantError")), .bl (decide (cl = "Mismatch") || decide (("Mismatch" : Str) = "GrantError")), .bl (decide (cl = "BadMove") || decide (("BadMove" : Str) = "GrantError")), .bl (decide (cl = "BadTable") || decide (("BadTable" : Str) = "GrantError")), .bl (decide (cl = "NoTree") || decide (("NoTree" : Str) = "GrantError"))] ++ [.bl (decide (cl = "BadMatrix") || decide (("BadMatrix" : Str) = "GrantError")), .bl (decide (cl = "NoGrant") || decide (("NoGrant" : Str) = "GrantError")), .bl (decide (cl = "BadMachine") || decide (("BadMachine" : Str) = "GrantError"))])) p = some (.lst [.bl (decide (cl = "BadName") || decide (("BadName" : Str) = "GrantError")), .bl (decide (cl = "BadKind") || decide (("BadKind" : Str) = "GrantError")), .bl (decide (cl = "BadTree") || decide (("BadTree" : Str) = "GrantError")), .bl (decide (cl = "NoSubtree") || decide (("NoSubtree" : Str) = "GrantError")), .bl (decide (cl = "Twice") || decide (("Twice" : Str) = "GrantError")), .bl (decide (cl = "TooMany") || decide (("TooMany" : Str) = "GrantError")), .bl (decide (cl = "BadText") || decide (("BadText" : Str) = "GrantError")), .bl (decide (cl = "BadLot") || decide (("BadLot" : Str) = "GrantError")), .bl (decide (cl = "NoSuchLine") || decide (("NoSuchLine" : Str) = "GrantError")), .bl (decide (cl = "BadLog") || decide (("BadLog" : Str) = "GrantError")), .bl (decide (cl = "BadNumber") || decide (("BadNumber" : Str) = "GrantError")), .bl (decide (cl = "Mismatch") || decide (("Mismatch" : Str) = "GrantError")), .bl (decide (cl = "BadMove") || decide (("BadMove" : Str) = "GrantError")), .bl (decide (cl = "BadTable") || decide (("BadTable" : Str) = "GrantError")), .bl (decide (cl = "NoTree") || decide (("NoTree" : Str) = "GrantError")), .bl (decide (cl = "BadMatrix") || decide (("BadMatrix" : Str) = "GrantError")), .bl (decide (cl = "NoGrant") || decide (("NoGrant" : Str) = "GrantError")), .bl (decide (cl = "BadMachine") || decide (("BadMachine" : Str) = "GrantError"))]) := updA_same
  have hA5 : updA A4 p (.lst ([.bl (decide (cl = "BadName") || decide (("BadName" : Str) = "GrantError")), .bl (decide (cl = "BadKind") || decide (("BadKind" : Str) = "GrantError")), .bl (decide (cl = "BadTree") || decide (("BadTree" : Str) = "GrantError")), .bl (decide (cl = "NoSubtree") || decide (("NoSubtree" : Str) = "GrantError")), .bl (decide (cl = "Twice") || decide (("Twice" : Str) = "GrantError")), .bl (decide (cl = "TooMany") || decide (("TooMany" : Str) = "GrantError")), .bl (decide (cl = "BadText") || decide (("BadText" : Str) = "GrantError")), .bl (decide (cl = "BadLot") || decide (("BadLot" : Str) = "GrantError")), .bl (decide (cl = "NoSuchLine") || decide (("NoSuchLine" : Str) = "GrantError")), .bl (decide (cl = "BadLog") || decide (("BadLog" : Str) = "GrantError")), .bl (decide (cl = "BadNumber") || decide (("BadNumber" : Str) = "GrantError")), .bl (decide (cl = "Mismatch") || decide (("Mismatch" : Str) = "GrantError")), .bl (decide (cl = "BadMove") || decide (("BadMove" : Str) = "GrantError")), .bl (decide (cl = "BadTable") || decide (("BadTable" : Str) = "GrantError")), .bl (decide (cl = "NoTree") || decide (("NoTree" : Str) = "GrantError"))] ++ [.bl (decide (cl = "BadMatrix") || decide (("BadMatrix" : Str) = "GrantError")), .bl (decide (cl = "NoGrant") || decide (("NoGrant" : Str) = "GrantError")), .bl (decide (cl = "BadMachine") || decide (("BadMachine" : Str) = "GrantError"))])) d = some (.xd fs) := by rw [updA_ne hpd]; exact hA4
  have G5 : Ext A (updA A4 p (.lst ([.bl (decide (cl = "BadName") || decide (("BadName" : Str) = "GrantError")), .bl (decide (cl = "BadKind") || decide (("BadKind" : Str) = "GrantError")), .bl (decide (cl = "BadTree") || decide (("BadTree" : Str) = "GrantError")), .bl (decide (cl = "NoSubtree") || decide (("NoSubtree" : Str) = "GrantError")), .bl (decide (cl = "Twice") || decide (("Twice" : Str) = "GrantError")), .bl (decide (cl = "TooMany") || decide (("TooMany" : Str) = "GrantError")), .bl (decide (cl = "BadText") || decide (("BadText" : Str) = "GrantError")), .bl (decide (cl = "BadLot") || decide (("BadLot" : Str) = "GrantError")), .bl (decide (cl = "NoSuchLine") || decide (("NoSuchLine" : Str) = "GrantError")), .bl (decide (cl = "BadLog") || decide (("BadLog" : Str) = "GrantError")), .bl (decide (cl = "BadNumber") || decide (("BadNumber" : Str) = "GrantError")), .bl (decide (cl = "Mismatch") || decide (("Mismatch" : Str) = "GrantError")), .bl (decide (cl = "BadMove") || decide (("BadMove" : Str) = "GrantError")), .bl (decide (cl = "BadTable") || decide (("BadTable" : Str) = "GrantError")), .bl (decide (cl = "NoTree") || decide (("NoTree" : Str) = "GrantError"))] ++ [.bl (decide (cl = "BadMatrix") || decide (("BadMatrix" : Str) = "GrantError")), .bl (decide (cl = "NoGrant") || decide (("NoGrant" : Str) = "GrantError")), .bl (decide (cl = "BadMachine") || decide (("BadMachine" : Str) = "GrantError"))]))) := G4.upd hp
  generalize updA A4 p (.lst ([.bl (decide (cl = "BadName") || decide (("BadName" : Str) = "GrantError")), .bl (decide (cl = "BadKind") || decide (("BadKind" : Str) = "GrantError")), .bl (decide (cl = "BadTree") || decide (("BadTree" : Str) = "GrantError")), .bl (decide (cl = "NoSubtree") || decide (("NoSubtree" : Str) = "GrantError")), .bl (decide (cl = "Twice") || decide (("Twice" : Str) = "GrantError")), .bl (decide (cl = "TooMany") || decide (("TooMany" : Str) = "GrantError")), .bl (decide (cl = "BadText") || decide (("BadText" : Str) = "GrantError")), .bl (decide (cl = "BadLot") || decide (("BadLot" : Str) = "GrantError")), .bl (decide (cl = "NoSuchLine") || decide (("NoSuchLine" : Str) = "GrantError")), .bl (decide (cl = "BadLog") || decide (("BadLog" : Str) = "GrantError")), .bl (decide (cl = "BadNumber") || decide (("BadNumber" : Str) = "GrantError")), .bl (decide (cl = "Mismatch") || decide (("Mismatch" : Str) = "GrantError")), .bl (decide (cl = "BadMove") || decide (("BadMove" : Str) = "GrantError")), .bl (decide (cl = "BadTable") || decide (("BadTable" : Str) = "GrantError")), .bl (decide (cl = "NoTree") || decide (("NoTree" : Str) = "GrantError"))] ++ [.bl (decide (cl = "BadMatrix") || decide (("BadMatrix" : Str) = "GrantError")), .bl (decide (cl = "NoGrant") || decide (("NoGrant" : Str) = "GrantError")), .bl (decide (cl = "BadMachine") || decide (("BadMachine" : Str) = "GrantError"))])) = A5 at hp5 hA5 G5 ⊢
  (conv => whnf)
  refine ⟨⟨_, hp5⟩, ?_⟩
  (conv => whnf)
  refine ⟨⟨_, hA5⟩, rfl, _, k1 "BadWish" (by decide), ?_⟩
  (conv => whnf)
  refine ⟨⟨_, hA5⟩, rfl, _, k1 "NoCover" (by decide), ?_⟩
  (conv => whnf)
  refine ⟨⟨_, hA5⟩, rfl, _, k1 "Barred" (by decide), ?_⟩
  (conv => whnf)
  refine ⟨⟨_, hA5⟩, rfl, _, k1 "LastLine" (by decide), ?_⟩
  (conv => whnf)
  refine ⟨Nat.le_of_ble_eq_true rfl, ?_⟩
  (conv => whnf)
  refine ⟨_, hp5, Nat.le_of_ble_eq_true rfl, ?_⟩
  have hp6 : updA A5 p (.lst ([.bl (decide (cl = "BadName") || decide (("BadName" : Str) = "GrantError")), .bl (decide (cl = "BadKind") || decide (("BadKind" : Str) = "GrantError")), .bl (decide (cl = "BadTree") || decide (("BadTree" : Str) = "GrantError")), .bl (decide (cl = "NoSubtree") || decide (("NoSubtree" : Str) = "GrantError")), .bl (decide (cl = "Twice") || decide (("Twice" : Str) = "GrantError")), .bl (decide (cl = "TooMany") || decide (("TooMany" : Str) = "GrantError")), .bl (decide (cl = "BadText") || decide (("BadText" : Str) = "GrantError")), .bl (decide (cl = "BadLot") || decide (("BadLot" : Str) = "GrantError")), .bl (decide (cl = "NoSuchLine") || decide (("NoSuchLine" : Str) = "GrantError")), .bl (decide (cl = "BadLog") || decide (("BadLog" : Str) = "GrantError")), .bl (decide (cl = "BadNumber") || decide (("BadNumber" : Str) = "GrantError")), .bl (decide (cl = "Mismatch") || decide (("Mismatch" : Str) = "GrantError")), .bl (decide (cl = "BadMove") || decide (("BadMove" : Str) = "GrantError")), .bl (decide (cl = "BadTable") || decide (("BadTable" : Str) = "GrantError")), .bl (decide (cl = "NoTree") || decide (("NoTree" : Str) = "GrantError")), .bl (decide (cl = "BadMatrix") || decide (("BadMatrix" : Str) = "GrantError")), .bl (decide (cl = "NoGrant") || decide (("NoGrant" : Str) = "GrantError")), .bl (decide (cl = "BadMachine") || decide (("BadMachine" : Str) = "GrantError"))] ++ [.bl (decide (cl = "BadWish") || decide (("BadWish" : Str) = "GrantError")), .bl (decide (cl = "NoCover") || decide (("NoCover" : Str) = "GrantError")), .bl (decide (cl = "Barred") || decide (("Barred" : Str) = "GrantError")), .bl (decide (cl = "LastLine") || decide (("LastLine" : Str) = "GrantError"))])) p = some (.lst [.bl (decide (cl = "BadName") || decide (("BadName" : Str) = "GrantError")), .bl (decide (cl = "BadKind") || decide (("BadKind" : Str) = "GrantError")), .bl (decide (cl = "BadTree") || decide (("BadTree" : Str) = "GrantError")), .bl (decide (cl = "NoSubtree") || decide (("NoSubtree" : Str) = "GrantError")), .bl (decide (cl = "Twice") || decide (("Twice" : Str) = "GrantError")), .bl (decide (cl = "TooMany") || decide (("TooMany" : Str) = "GrantError")), .bl (decide (cl = "BadText") || decide (("BadText" : Str) = "GrantError")), .bl (decide (cl = "BadLot") || decide (("BadLot" : Str) = "GrantError")), .bl (decide (cl = "NoSuchLine") || decide (("NoSuchLine" : Str) = "GrantError")), .bl (decide (cl = "BadLog") || decide (("BadLog" : Str) = "GrantError")), .bl (decide (cl = "BadNumber") || decide (("BadNumber" : Str) = "GrantError")), .bl (decide (cl = "Mismatch") || decide (("Mismatch" : Str) = "GrantError")), .bl (decide (cl = "BadMove") || decide (("BadMove" : Str) = "GrantError")), .bl (decide (cl = "BadTable") || decide (("BadTable" : Str) = "GrantError")), .bl (decide (cl = "NoTree") || decide (("NoTree" : Str) = "GrantError")), .bl (decide (cl = "BadMatrix") || decide (("BadMatrix" : Str) = "GrantError")), .bl (decide (cl = "NoGrant") || decide (("NoGrant" : Str) = "GrantError")), .bl (decide (cl = "BadMachine") || decide (("BadMachine" : Str) = "GrantError")), .bl (decide (cl = "BadWish") || decide (("BadWish" : Str) = "GrantError")), .bl (decide (cl = "NoCover") || decide (("NoCover" : Str) = "GrantError")), .bl (decide (cl = "Barred") || decide (("Barred" : Str) = "GrantError")), .bl (decide (cl = "LastLine") || decide (("LastLine" : Str) = "GrantError"))]) := updA_same
  have hA6 : updA A5 p (.lst ([.bl (decide (cl = "BadName") || decide (("BadName" : Str) = "GrantError")), .bl (decide (cl = "BadKind") || decide (("BadKind" : Str) = "GrantError")), .bl (decide (cl = "BadTree") || decide (("BadTree" : Str) = "GrantError")), .bl (decide (cl = "NoSubtree") || decide (("NoSubtree" : Str) = "GrantError")), .bl (decide (cl = "Twice") || decide (("Twice" : Str) = "GrantError")), .bl (decide (cl = "TooMany") || decide (("TooMany" : Str) = "GrantError")), .bl (decide (cl = "BadText") || decide (("BadText" : Str) = "GrantError")), .bl (decide (cl = "BadLot") || decide (("BadLot" : Str) = "GrantError")), .bl (decide (cl = "NoSuchLine") || decide (("NoSuchLine" : Str) = "GrantError")), .bl (decide (cl = "BadLog") || decide (("BadLog" : Str) = "GrantError")), .bl (decide (cl = "BadNumber") || decide (("BadNumber" : Str) = "GrantError")), .bl (decide (cl = "Mismatch") || decide (("Mismatch" : Str) = "GrantError")), .bl (decide (cl = "BadMove") || decide (("BadMove" : Str) = "GrantError")), .bl (decide (cl = "BadTable") || decide (("BadTable" : Str) = "GrantError")), .bl (decide (cl = "NoTree") || decide (("NoTree" : Str) = "GrantError")), .bl (decide (cl = "BadMatrix") || decide (("BadMatrix" : Str) = "GrantError")), .bl (decide (cl = "NoGrant") || decide (("NoGrant" : Str) = "GrantError")), .bl (decide (cl = "BadMachine") || decide (("BadMachine" : Str) = "GrantError"))] ++ [.bl (decide (cl = "BadWish") || decide (("BadWish" : Str) = "GrantError")), .bl (decide (cl = "NoCover") || decide (("NoCover" : Str) = "GrantError")), .bl (decide (cl = "Barred") || decide (("Barred" : Str) = "GrantError")), .bl (decide (cl = "LastLine") || decide (("LastLine" : Str) = "GrantError"))])) d = some (.xd fs) := by rw [updA_ne hpd]; exact hA5
  have G6 : Ext A (updA A5 p (.lst ([.bl (decide (cl = "BadName") || decide (("BadName" : Str) = "GrantError")), .bl (decide (cl = "BadKind") || decide (("BadKind" : Str) = "GrantError")), .bl (decide (cl = "BadTree") || decide (("BadTree" : Str) = "GrantError")), .bl (decide (cl = "NoSubtree") || decide (("NoSubtree" : Str) = "GrantError")), .bl (decide (cl = "Twice") || decide (("Twice" : Str) = "GrantError")), .bl (decide (cl = "TooMany") || decide (("TooMany" : Str) = "GrantError")), .bl (decide (cl = "BadText") || decide (("BadText" : Str) = "GrantError")), .bl (decide (cl = "BadLot") || decide (("BadLot" : Str) = "GrantError")), .bl (decide (cl = "NoSuchLine") || decide (("NoSuchLine" : Str) = "GrantError")), .bl (decide (cl = "BadLog") || decide (("BadLog" : Str) = "GrantError")), .bl (decide (cl = "BadNumber") || decide (("BadNumber" : Str) = "GrantError")), .bl (decide (cl = "Mismatch") || decide (("Mismatch" : Str) = "GrantError")), .bl (decide (cl = "BadMove") || decide (("BadMove" : Str) = "GrantError")), .bl (decide (cl = "BadTable") || decide (("BadTable" : Str) = "GrantError")), .bl (decide (cl = "NoTree") || decide (("NoTree" : Str) = "GrantError")), .bl (decide (cl = "BadMatrix") || decide (("BadMatrix" : Str) = "GrantError")), .bl (decide (cl = "NoGrant") || decide (("NoGrant" : Str) = "GrantError")), .bl (decide (cl = "BadMachine") || decide (("BadMachine" : Str) = "GrantError"))] ++ [.bl (decide (cl = "BadWish") || decide (("BadWish" : Str) = "GrantError")), .bl (decide (cl = "NoCover") || decide (("NoCover" : Str) = "GrantError")), .bl (decide (cl = "Barred") || decide (("Barred" : Str) = "GrantError")), .bl (decide (cl = "LastLine") || decide (("LastLine" : Str) = "GrantError"))]))) := G5.upd hp
  generalize updA A5 p (.lst ([.bl (decide (cl = "BadName") || decide (("BadName" : Str) = "GrantError")), .bl (decide (cl = "BadKind") || decide (("BadKind" : Str) = "GrantError")), .bl (decide (cl = "BadTree") || decide (("BadTree" : Str) = "GrantError")), .bl (decide (cl = "NoSubtree") || decide (("NoSubtree" : Str) = "GrantError")), .bl (decide (cl = "Twice") || decide (("Twice" : Str) = "GrantError")), .bl (decide (cl = "TooMany") || decide (("TooMany" : Str) = "GrantError")), .bl (decide (cl = "BadText") || decide (("BadText" : Str) = "GrantError")), .bl (decide (cl = "BadLot") || decide (("BadLot" : Str) = "GrantError")), .bl (decide (cl = "NoSuchLine") || decide (("NoSuchLine" : Str) = "GrantError")), .bl (decide (cl = "BadLog") || decide (("BadLog" : Str) = "GrantError")), .bl (decide (cl = "BadNumber") || decide (("BadNumber" : Str) = "GrantError")), .bl (decide (cl = "Mismatch") || decide (("Mismatch" : Str) = "GrantError")), .bl (decide (cl = "BadMove") || decide (("BadMove" : Str) = "GrantError")), .bl (decide (cl = "BadTable") || decide (("BadTable" : Str) = "GrantError")), .bl (decide (cl = "NoTree") || decide (("NoTree" : Str) = "GrantError")), .bl (decide (cl = "BadMatrix") || decide (("BadMatrix" : Str) = "GrantError")), .bl (decide (cl = "NoGrant") || decide (("NoGrant" : Str) = "GrantError")), .bl (decide (cl = "BadMachine") || decide (("BadMachine" : Str) = "GrantError"))] ++ [.bl (decide (cl = "BadWish") || decide (("BadWish" : Str) = "GrantError")), .bl (decide (cl = "NoCover") || decide (("NoCover" : Str) = "GrantError")), .bl (decide (cl = "Barred") || decide (("Barred" : Str) = "GrantError")), .bl (decide (cl = "LastLine") || decide (("LastLine" : Str) = "GrantError"))])) = A6 at hp6 hA6 G6 ⊢
  (conv => whnf)
  refine ⟨⟨_, hp6⟩, ?_⟩
  (conv => whnf)
  refine ⟨⟨_, hA6⟩, rfl, _, k1 "NoEdit" (by decide), ?_⟩
  (conv => whnf)
  refine ⟨Nat.le_of_ble_eq_true rfl, ?_⟩
  (conv => whnf)
  refine ⟨_, hp6, Nat.le_of_ble_eq_true rfl, ?_⟩
  have hp7 : updA A6 p (.lst ([.bl (decide (cl = "BadName") || decide (("BadName" : Str) = "GrantError")), .bl (decide (cl = "BadKind") || decide (("BadKind" : Str) = "GrantError")), .bl (decide (cl = "BadTree") || decide (("BadTree" : Str) = "GrantError")), .bl (decide (cl = "NoSubtree") || decide (("NoSubtree" : Str) = "GrantError")), .bl (decide (cl = "Twice") || decide (("Twice" : Str) = "GrantError")), .bl (decide (cl = "TooMany") || decide (("TooMany" : Str) = "GrantError")), .bl (decide (cl = "BadText") || decide (("BadText" : Str) = "GrantError")), .bl (decide (cl = "BadLot") || decide (("BadLot" : Str) = "GrantError")), .bl (decide (cl = "NoSuchLine") || decide (("NoSuchLine" : Str) = "GrantError")), .bl (decide (cl = "BadLog") || decide (("BadLog" : Str) = "GrantError")), .bl (decide (cl = "BadNumber") || decide (("BadNumber" : Str) = "GrantError")), .bl (decide (cl = "Mismatch") || decide (("Mismatch" : Str) = "GrantError")), .bl (decide (cl = "BadMove") || decide (("BadMove" : Str) = "GrantError")), .bl (decide (cl = "BadTable") || decide (("BadTable" : Str) = "GrantError")), .bl (decide (cl = "NoTree") || decide (("NoTree" : Str) = "GrantError")), .bl (decide (cl = "BadMatrix") || decide (("BadMatrix" : Str) = "GrantError")), .bl (decide (cl = "NoGrant") || decide (("NoGrant" : Str) = "GrantError")), .bl (decide (cl = "BadMachine") || decide (("BadMachine" : Str) = "GrantError")), .bl (decide (cl = "BadWish") || decide (("BadWish" : Str) = "GrantError")), .bl (decide (cl = "NoCover") || decide (("NoCover" : Str) = "GrantError")), .bl (decide (cl = "Barred") || decide (("Barred" : Str) = "GrantError")), .bl (decide (cl = "LastLine") || decide (("LastLine" : Str) = "GrantError"))] ++ [.bl (decide (cl = "NoEdit") || decide (("NoEdit" : Str) = "GrantError"))])) p = some (.lst [.bl (decide (cl = "BadName") || decide (("BadName" : Str) = "GrantError")), .bl (decide (cl = "BadKind") || decide (("BadKind" : Str) = "GrantError")), .bl (decide (cl = "BadTree") || decide (("BadTree" : Str) = "GrantError")), .bl (decide (cl = "NoSubtree") || decide (("NoSubtree" : Str) = "GrantError")), .bl (decide (cl = "Twice") || decide (("Twice" : Str) = "GrantError")), .bl (decide (cl = "TooMany") || decide (("TooMany" : Str) = "GrantError")), .bl (decide (cl = "BadText") || decide (("BadText" : Str) = "GrantError")), .bl (decide (cl = "BadLot") || decide (("BadLot" : Str) = "GrantError")), .bl (decide (cl = "NoSuchLine") || decide (("NoSuchLine" : Str) = "GrantError")), .bl (decide (cl = "BadLog") || decide (("BadLog" : Str) = "GrantError")), .bl (decide (cl = "BadNumber") || decide (("BadNumber" : Str) = "GrantError")), .bl (decide (cl = "Mismatch") || decide (("Mismatch" : Str) = "GrantError")), .bl (decide (cl = "BadMove") || decide (("BadMove" : Str) = "GrantError")), .bl (decide (cl = "BadTable") || decide (("BadTable" : Str) = "GrantError")), .bl (decide (cl = "NoTree") || decide (("NoTree" : Str) = "GrantError")), .bl (decide (cl = "BadMatrix") || decide (("BadMatrix" : Str) = "GrantError")), .bl (decide (cl = "NoGrant") || decide (("NoGrant" : Str) = "GrantError")), .bl (decide (cl = "BadMachine") || decide (("BadMachine" : Str) = "GrantError")), .bl (decide (cl = "BadWish") || decide (("BadWish" : Str) = "GrantError")), .bl (decide (cl = "NoCover") || decide (("NoCover" : Str) = "GrantError")), .bl (decide (cl = "Barred") || decide (("Barred" : Str) = "GrantError")), .bl (decide (cl = "LastLine") || decide (("LastLine" : Str) = "GrantError")), .bl (decide (cl = "NoEdit") || decide (("NoEdit" : Str) = "GrantError"))]) := updA_same
  have hA7 : updA A6 p (.lst ([.bl (decide (cl = "BadName") || decide (("BadName" : Str) = "GrantError")), .bl (decide (cl = "BadKind") || decide (("BadKind" : Str) = "GrantError")), .bl (decide (cl = "BadTree") || decide (("BadTree" : Str) = "GrantError")), .bl (decide (cl = "NoSubtree") || decide (("NoSubtree" : Str) = "GrantError")), .bl (decide (cl = "Twice") || decide (("Twice" : Str) = "GrantError")), .bl (decide (cl = "TooMany") || decide (("TooMany" : Str) = "GrantError")), .bl (decide (cl = "BadText") || decide (("BadText" : Str) = "GrantError")), .bl (decide (cl = "BadLot") || decide (("BadLot" : Str) = "GrantError")), .bl (decide (cl = "NoSuchLine") || decide (("NoSuchLine" : Str) = "GrantError")), .bl (decide (cl = "BadLog") || decide (("BadLog" : Str) = "GrantError")), .bl (decide (cl = "BadNumber") || decide (("BadNumber" : Str) = "GrantError")), .bl (decide (cl = "Mismatch") || decide (("Mismatch" : Str) = "GrantError")), .bl (decide (cl = "BadMove") || decide (("BadMove" : Str) = "GrantError")), .bl (decide (cl = "BadTable") || decide (("BadTable" : Str) = "GrantError")), .bl (decide (cl = "NoTree") || decide (("NoTree" : Str) = "GrantError")), .bl (decide (cl = "BadMatrix") || decide (("BadMatrix" : Str) = "GrantError")), .bl (decide (cl = "NoGrant") || decide (("NoGrant" : Str) = "GrantError")), .bl (decide (cl = "BadMachine") || decide (("BadMachine" : Str) = "GrantError")), .bl (decide (cl = "BadWish") || decide (("BadWish" : Str) = "GrantError")), .bl (decide (cl = "NoCover") || decide (("NoCover" : Str) = "GrantError")), .bl (decide (cl = "Barred") || decide (("Barred" : Str) = "GrantError")), .bl (decide (cl = "LastLine") || decide (("LastLine" : Str) = "GrantError"))] ++ [.bl (decide (cl = "NoEdit") || decide (("NoEdit" : Str) = "GrantError"))])) d = some (.xd fs) := by rw [updA_ne hpd]; exact hA6
  have G7 : Ext A (updA A6 p (.lst ([.bl (decide (cl = "BadName") || decide (("BadName" : Str) = "GrantError")), .bl (decide (cl = "BadKind") || decide (("BadKind" : Str) = "GrantError")), .bl (decide (cl = "BadTree") || decide (("BadTree" : Str) = "GrantError")), .bl (decide (cl = "NoSubtree") || decide (("NoSubtree" : Str) = "GrantError")), .bl (decide (cl = "Twice") || decide (("Twice" : Str) = "GrantError")), .bl (decide (cl = "TooMany") || decide (("TooMany" : Str) = "GrantError")), .bl (decide (cl = "BadText") || decide (("BadText" : Str) = "GrantError")), .bl (decide (cl = "BadLot") || decide (("BadLot" : Str) = "GrantError")), .bl (decide (cl = "NoSuchLine") || decide (("NoSuchLine" : Str) = "GrantError")), .bl (decide (cl = "BadLog") || decide (("BadLog" : Str) = "GrantError")), .bl (decide (cl = "BadNumber") || decide (("BadNumber" : Str) = "GrantError")), .bl (decide (cl = "Mismatch") || decide (("Mismatch" : Str) = "GrantError")), .bl (decide (cl = "BadMove") || decide (("BadMove" : Str) = "GrantError")), .bl (decide (cl = "BadTable") || decide (("BadTable" : Str) = "GrantError")), .bl (decide (cl = "NoTree") || decide (("NoTree" : Str) = "GrantError")), .bl (decide (cl = "BadMatrix") || decide (("BadMatrix" : Str) = "GrantError")), .bl (decide (cl = "NoGrant") || decide (("NoGrant" : Str) = "GrantError")), .bl (decide (cl = "BadMachine") || decide (("BadMachine" : Str) = "GrantError")), .bl (decide (cl = "BadWish") || decide (("BadWish" : Str) = "GrantError")), .bl (decide (cl = "NoCover") || decide (("NoCover" : Str) = "GrantError")), .bl (decide (cl = "Barred") || decide (("Barred" : Str) = "GrantError")), .bl (decide (cl = "LastLine") || decide (("LastLine" : Str) = "GrantError"))] ++ [.bl (decide (cl = "NoEdit") || decide (("NoEdit" : Str) = "GrantError"))]))) := G6.upd hp
  generalize updA A6 p (.lst ([.bl (decide (cl = "BadName") || decide (("BadName" : Str) = "GrantError")), .bl (decide (cl = "BadKind") || decide (("BadKind" : Str) = "GrantError")), .bl (decide (cl = "BadTree") || decide (("BadTree" : Str) = "GrantError")), .bl (decide (cl = "NoSubtree") || decide (("NoSubtree" : Str) = "GrantError")), .bl (decide (cl = "Twice") || decide (("Twice" : Str) = "GrantError")), .bl (decide (cl = "TooMany") || decide (("TooMany" : Str) = "GrantError")), .bl (decide (cl = "BadText") || decide (("BadText" : Str) = "GrantError")), .bl (decide (cl = "BadLot") || decide (("BadLot" : Str) = "GrantError")), .bl (decide (cl = "NoSuchLine") || decide (("NoSuchLine" : Str) = "GrantError")), .bl (decide (cl = "BadLog") || decide (("BadLog" : Str) = "GrantError")), .bl (decide (cl = "BadNumber") || decide (("BadNumber" : Str) = "GrantError")), .bl (decide (cl = "Mismatch") || decide (("Mismatch" : Str) = "GrantError")), .bl (decide (cl = "BadMove") || decide (("BadMove" : Str) = "GrantError")), .bl (decide (cl = "BadTable") || decide (("BadTable" : Str) = "GrantError")), .bl (decide (cl = "NoTree") || decide (("NoTree" : Str) = "GrantError")), .bl (decide (cl = "BadMatrix") || decide (("BadMatrix" : Str) = "GrantError")), .bl (decide (cl = "NoGrant") || decide (("NoGrant" : Str) = "GrantError")), .bl (decide (cl = "BadMachine") || decide (("BadMachine" : Str) = "GrantError")), .bl (decide (cl = "BadWish") || decide (("BadWish" : Str) = "GrantError")), .bl (decide (cl = "NoCover") || decide (("NoCover" : Str) = "GrantError")), .bl (decide (cl = "Barred") || decide (("Barred" : Str) = "GrantError")), .bl (decide (cl = "LastLine") || decide (("LastLine" : Str) = "GrantError"))] ++ [.bl (decide (cl = "NoEdit") || decide (("NoEdit" : Str) = "GrantError"))])) = A7 at hp7 hA7 G7 ⊢
  exact tail p A7 G7 hp7
theorem lenh__law_error (a : Addr) (ε : Exn) (ds : List D) (A : Ah) (q : D → Ah → Prop) (x : AX) : hsp__law_error a ε ds A q x → ds.length = 1 := by
  rintro ⟨rfl, _⟩; rfl
def as__law_store_7 : AS := (aIf (aTest (aOp aGe (aVar 4) (aOp aPow (aC (.int 10)) (aC (.int 18))))) (aDrop (aMethL aAppend (aVar 2) (aCons (aVar 4) aNil))) (aDrop (aMethL aAppend (aVar 2) (aCons (aOp aMod (aBlt aInt (aCons (aCall sp__law_mix (aCons (aOp aSub (aOp aAdd (aOp aAdd (aOp aMul (aVar 4) (aC (.int 128))) (aOp aMul (aVar 5) (aC (.int 64)))) (aBlt aLen (aCons (aVar 2) aNil))) (aC (.int 6))) aNil)) aNil)) (aOp aPow (aC (.int 10)) (aC (.int 18)))) aNil))))
def as__law_store_6 : AS := (aSeq (aAsg (aCall sp__law_mix (aCons (aOp aAdd (aOp aAdd (aOp aIx (aVar 2) (aC (.int 5))) (aOp aMul (aVar 4) (aC (.int 2)))) (aVar 5)) aNil)) (agSubL (aVar 2) (aC (.int 5)))) as__law_store_7)
def as__law_store_5 : AS := (aSeq (aAsg (aBlt aInt (aCons (aOp aLt (aVar 3) (aC (.int 0))) aNil)) (agName 5)) as__law_store_6)
def as__law_store_4 : AS := (aSeq (aAsg (aOp aMod (aBlt aInt (aCons (aBlt aAbs (aCons (aBlt aInt (aCons (aVar 3) aNil)) aNil)) aNil)) (aVar 1)) (agName 4)) as__law_store_5)
def as__law_store_3 : AS := (aSeq (aFor (aIter (aSl (aBlt aList (aCons (aVar 0) aNil)) aNoP (aPart (aC (.int 63))))) (agName 3) as__law_store_4) (aRet (aVar 2)))
def as__law_store_2 : AS := (aSeq (aAsg (aLst (aCons (aC (.int 6)) (aCons (aC (.int 0)) (aCons (aC (.int 0)) (aCons (aC (.int 0)) (aCons (aC (.int 0)) (aCons (aC (.int 7)) aNil))))))) (agName 2)) as__law_store_3)
def as__law_store : AS := (aSeq (aAsg (aOp aMul (aOp aMul (aOp aMul (aOp aPow (aC (.int 10)) (aC (.int 64))) (aOp aPow (aC (.int 10)) (aC (.int 64)))) (aOp aPow (aC (.int 10)) (aC (.int 64)))) (aOp aPow (aC (.int 10)) (aC (.int 64)))) (agName 1)) as__law_store_2)

theorem wide_eq : (10 : Int) ^ (64 : Int).toNat * 10 ^ (64 : Int).toNat * 10 ^ (64 : Int).toNat * 10 ^ (64 : Int).toNat = Wd := by decide +kernel
theorem wide1 : SmallI ((10 : Int) ^ (64 : Int).toNat) := by unfold SmallI lim; decide +kernel
theorem wide2 : SmallI ((10 : Int) ^ (64 : Int).toNat * 10 ^ (64 : Int).toNat) := by unfold SmallI lim; decide +kernel
theorem wide3 : SmallI ((10 : Int) ^ (64 : Int).toNat * 10 ^ (64 : Int).toNat * 10 ^ (64 : Int).toNat) := by unfold SmallI lim; decide +kernel
theorem Wd_pos : 0 < Wd := by decide +kernel
theorem Wd_18 : (1000000000000000000 : Int) ≤ Wd := by decide +kernel
theorem Wd_mix : (18446744073709551557 : Int) ≤ Wd := by decide +kernel
theorem stL_app {c0 c1 c2 c3 c4 c5 z : Int} {r : List Int} : stL c0 c1 c2 c3 c4 c5 r ++ [.int z] = stL c0 c1 c2 c3 c4 c5 (r ++ [z]) := by simp [stL]
theorem pure__law_store (ds : List D) (A : Ah) (q : D → Ah → Prop) (x : AX) : sp__law_store ds A q x → as__law_store (endsA q x) (startA ["script", "wide", "store", "cell", "amount", "sign"] ds) A := by
  rintro ⟨is, rfl, h⟩
  (conv => whnf)
  refine ⟨by decide, ?_⟩
  (conv => whnf)
  refine ⟨by decide, ?_⟩
  (conv => whnf)
  refine ⟨wide1, wide1, ?_⟩
  (conv => whnf)
  refine ⟨by decide, ?_⟩
  (conv => whnf)
  refine ⟨wide2, wide1, ?_⟩
  (conv => whnf)
  refine ⟨by decide, ?_⟩
  (conv => whnf)
  refine ⟨wide3, wide1, ?_⟩
  have key : ∀ wd : Int, wd = Wd → as__law_store_2 (endsA q x) [some (.lof (is.map D.int)), some (.int wd), none, none, none, none] A := by
    rintro wd hwd
    (conv => whnf)
    refine ⟨by decide, fun l hl => ?_⟩
    have h1 : updA A l (.lst [.int 6, .int 0, .int 0, .int 0, .int 0, .int 7]) l = some (.lst (stL 6 0 0 0 0 7 [])) := updA_same
    generalize updA A l (.lst [.int 6, .int 0, .int 0, .int 0, .int 0, .int 7]) = A1 at h1 ⊢
    (conv => whnf)
    intro p hp
    (conv => whnf)
    refine ⟨_, updA_same, ?_⟩
    (conv => whnf)
    intro p2 hp2
    have h2 : updA (updA A1 p (.lst (is.map D.int))) p2 (.lst (GA.cutD (is.map D.int) none (some 63))) l = some (.lst (stL 6 0 0 0 0 7 [])) := Ext.new hp2 _ _ (Ext.new hp _ _ h1)
    have h3 : updA (updA A1 p (.lst (is.map D.int))) p2 (.lst (GA.cutD (is.map D.int) none (some 63))) p2 = some (.lst (GA.cutD (is.map D.int) none (some 63))) := updA_same
    have hlp : p2 ≠ l := fun z => by rw [z, Ext.new hp _ _ h1] at hp2; cases hp2
    generalize updA (updA A1 p (.lst (is.map D.int))) p2 (.lst (GA.cutD (is.map D.int) none (some 63))) = A2 at h2 h3 ⊢
    have hcut : ∃ js : List Int, GA.cutD (is.map D.int) none (some 63) = js.map D.int ∧ js.length ≤ 63 := by
      refine ⟨GA.cutD is none (some 63), by unfold GA.cutD; simp [HT.sIx], ?_⟩
      unfold GA.cutD
      rw [List.length_take]
      refine Nat.le_trans (Nat.min_le_left ..) ?_
      simp only [HT.sIx]
      rw [if_neg (by decide)]
      have : Int.toNat 63 = 63 := rfl
      omega
    obtain ⟨js, e, hjs⟩ := hcut
    rw [e] at h3
    (conv => whnf)
    refine ⟨_, h3, fun i Γ A' => ∃ (c5 : Int) (r : List Int) (a b c : Option D), Γ = [some (.lof (is.map D.int)), some (.int wd), some (.ref l), a, b, c] ∧ A' l = some (.lst (stL 6 0 0 0 0 c5 r)) ∧ A' p2 = some (.lst (js.map D.int)) ∧ r.length ≤ i ∧ (0 ≤ c5 ∧ c5 ≤ Wd) ∧ ∀ i ∈ r, 0 ≤ i ∧ i ≤ Wd, ?_, ?_, ?_, ?_⟩
    · exact ⟨7, [], _, _, _, rfl, h2, h3, Nat.zero_le _, ⟨by decide, by have := Wd_18; omega⟩, nofun⟩
    · rintro i Γ A' _ ⟨c5, r, a, b, c, rfl, g1, g2, _⟩; exact g2
    · rintro i Γ A' (hi : i < (js.map D.int).length) ⟨c5, r, a, b, c, rfl, g1, g2, g3, g4, g5⟩
      rw [List.length_map] at hi
      have hd : ∃ z : Int, (js.map D.int).getD i .non = .int z := by
        rw [List.getD_eq_getElem?_getD, List.getElem?_map, List.getElem?_eq_getElem hi]; exact ⟨_, rfl⟩
      obtain ⟨z, hz⟩ := hd
      show agName 3 ((js.map D.int).getD i .non) _ _ _
      rw [hz]
      have hwp := Wd_pos
      (conv => whnf)
      refine ⟨by omega, ?_⟩
      have a0 : 0 ≤ (if z < 0 then -z else z) % wd := Int.emod_nonneg _ (by omega)
      have a1 : (if z < 0 then -z else z) % wd < wd := Int.emod_lt_of_pos _ (by omega)
      generalize (if z < 0 then -z else z) % wd = am at a0 a1
      rw [hwd] at a1
      have b0 : 0 ≤ (if decide (z < 0) = true then (1 : Int) else 0) ∧ (if decide (z < 0) = true then (1 : Int) else 0) ≤ 1 := by split <;> decide
      ((conv => whnf); refine ⟨_, g1, _, atI_c5, ?_⟩)
      (conv => whnf)
      refine ⟨smallW a0 (by omega), small128 (by decide) (by decide), ?_⟩
      (conv => whnf)
      refine ⟨_, rfl, fun m m0 m1 => ?_⟩
      ((conv => whnf); refine ⟨_, g1, _, ixN_c5, ?_⟩; generalize E2 : updA A' l _ = A3; have e3 : A3 l = some (.lst (stL 6 0 0 0 0 m r)) := (by rw [← E2]; exact updA_same); have KA3 : Kp l A' A3 := (by rw [← E2]; exact .set); clear E2)
      have g2 := KA3 _ _ hlp g2
      have hm : 0 ≤ m ∧ m ≤ Wd := ⟨m0, by have := Wd_mix; omega⟩
      have fin : ∀ (sgo : Option D) y A4, Kp l A3 A4 → 0 ≤ y → y ≤ Wd → A4 l = some (.lst (stL 6 0 0 0 0 m r ++ [.int y])) → ∃ (c5 : Int) (r : List Int) (a b c : Option D), [some (.lof (is.map D.int)), some (.int wd), some (.ref l), some (.int z), some (.int am), sgo] = [some (.lof (is.map D.int)), some (.int wd), some (.ref l), a, b, c] ∧ A4 l = some (.lst (stL 6 0 0 0 0 c5 r)) ∧ A4 p2 = some (.lst (js.map D.int)) ∧ r.length ≤ i + 1 ∧ (0 ≤ c5 ∧ c5 ≤ Wd) ∧ ∀ i ∈ r, 0 ≤ i ∧ i ≤ Wd := by
        intro sgo y A4 K4 y0 y1 e4
        refine ⟨m, r ++ [y], _, _, _, rfl, by rw [e4, stL_app], K4 _ _ hlp g2, by simp; omega, hm, fun j hj => ?_⟩
        rcases List.mem_append.mp hj with hj | hj
        · exact g5 j hj
        · rw [List.mem_singleton.mp hj]; exact ⟨y0, y1⟩
      have hlen : (stL 6 0 0 0 0 m r).length < big := by rw [stL_len, big_eq]; omega
      (conv => whnf)
      refine ⟨by decide, ?_⟩
      (conv => whnf)
      refine ⟨fun _ => ?_, fun _ => ?_⟩
      · (conv => whnf)
        refine ⟨⟨_, e3⟩, ?_⟩
        (conv => whnf)
        refine ⟨_, e3, hlen, ?_⟩
        exact fin _ am _ .set a0 (by omega) updA_same
      · (conv => whnf)
        refine ⟨⟨_, e3⟩, ?_⟩
        (conv => whnf)
        refine ⟨smallW a0 (by omega), small128 (by decide) (by decide), ?_⟩
        (conv => whnf)
        refine ⟨small128 (by omega) (by omega), small128 (by decide) (by decide), ?_⟩
        (conv => whnf)
        refine ⟨_, e3, ?_⟩
        (conv => whnf)
        refine ⟨_, rfl, fun y y0 y1 => ?_⟩
        (conv => whnf)
        refine ⟨by decide, ?_⟩
        (conv => whnf)
        refine ⟨by decide, ?_⟩
        have w18 : (10 : Int) ^ (18 : Int).toNat = 1000000000000000000 := by decide
        have v0 : 0 ≤ y % 10 ^ (18 : Int).toNat := Int.emod_nonneg _ (by rw [w18]; decide)
        have v1 : y % 10 ^ (18 : Int).toNat ≤ Wd := by
          have := Int.emod_lt_of_pos y (show 0 < (10 : Int) ^ (18 : Int).toNat by rw [w18]; decide)
          have := Wd_18
          rw [w18] at *
          omega
        (conv => whnf)
        refine ⟨_, e3, hlen, ?_⟩
        exact fin _ _ _ .set v0 v1 updA_same
    · rintro Γ A' ⟨c5, r, a, b, c, rfl, g1, g2, g3, g4, g5⟩
      have g3 : r.length ≤ (js.map D.int).length := g3
      rw [List.length_map] at g3
      exact h l A' ⟨_, _, _, _, _, _, _, g1, ⟨by omega, by decide, ⟨by decide, by have := Wd_18; omega⟩, by decide, by decide, by decide, g4, g5⟩⟩
  exact key _ wide_eq
theorem len__law_store (ds : List D) (A : Ah) (q : D → Ah → Prop) (x : AX) : sp__law_store ds A q x → ds.length = 1 := by
  rintro ⟨is, rfl, _⟩; rfl
def as__law_take_7 : AS := (aAsg (aOp aAdd (aC (.int 4)) (aOp aMul (aC (.int 56)) (aOp aIx (aVar 0) (aC (.int 3))))) (agSubL (aVar 0) (aC (.int 2))))
def as__law_take_6 : AS := (aSeq (aAsg (aBlt aInt (aCons (aOp aGe (aOp aIx (aVar 0) (aC (.int 1))) (aOp aPow (aC (.int 10)) (aC (.int 18)))) aNil)) (agSubL (aVar 0) (aC (.int 3)))) as__law_take_7)
def as__law_take_5 : AS := (aSeq (aAsg (aOp aAdd (aOp aIx (aVar 0) (aC (.int 0))) (aC (.int 1))) (agSubL (aVar 0) (aC (.int 0)))) as__law_take_6)
def as__law_take_16 : AS := (aSeq (aIf (aTest (aOp aEq (aOp aIx (aVar 0) (aC (.int 1))) (aC (.int 0)))) (aAsg (aC (.int 0)) (agSubL (aVar 0) (aC (.int 2)))) aNext) (aRet (aVar 2)))
def as__law_take_15 : AS := (aSeq (aAsg (aOp aDiv (aOp aIx (aVar 0) (aC (.int 1))) (aVar 1)) (agSubL (aVar 0) (aC (.int 1)))) as__law_take_16)
def as__law_take_14 : AS := (aSeq (aAsg (aOp aMod (aBlt aInt (aCons (aOp aIx (aVar 0) (aC (.int 1))) aNil)) (aVar 1)) (agName 2)) as__law_take_15)
def as__law_take_12 : AS := (aSeq (aIf (aTest (aOp aEq (aOp aIx (aVar 0) (aC (.int 3))) (aC (.int 0)))) (aRet (aOp aMod (aBlt aInt (aCons (aCall sp__law_mix (aCons (aCall sp__law_mix (aCons (aOp aAdd (aOp aMul (aOp aIx (aVar 0) (aC (.int 1))) (aC (.int 8))) (aOp aIx (aVar 0) (aC (.int 2)))) aNil)) aNil)) aNil)) (aVar 1))) aNext) as__law_take_14)
def as__law_take_11 : AS := (aSeq (aAsg (aOp aSub (aOp aIx (aVar 0) (aC (.int 2))) (aC (.int 1))) (agSubL (aVar 0) (aC (.int 2)))) as__law_take_12)
def as__law_take_9 : AS := (aSeq (aIf (aTest (aOp aEq (aOp aIx (aVar 0) (aC (.int 2))) (aC (.int 0)))) (aRet (aOp aMod (aBlt aInt (aCons (aCall sp__law_mix (aCons (aCall sp__law_mix (aCons (aOp aAdd (aOp aIx (aVar 0) (aC (.int 5))) (aOp aMul (aOp aIx (aVar 0) (aC (.int 4))) (aC (.int 2654435761)))) aNil)) aNil)) aNil)) (aVar 1))) aNext) as__law_take_11)
def as__law_take_8 : AS := (aSeq (aAsg (aOp aAdd (aOp aIx (aVar 0) (aC (.int 4))) (aC (.int 1))) (agSubL (aVar 0) (aC (.int 4)))) as__law_take_9)
def as__law_take_3 : AS := (aSeq (aIf (aAndT (aTest (aOp aEq (aOp aIx (aVar 0) (aC (.int 2))) (aC (.int 0)))) (aTest (aOp aLt (aOp aIx (aVar 0) (aC (.int 0))) (aBlt aLen (aCons (aVar 0) aNil))))) (aSeq (aAsg (aOp aIx (aVar 0) (aOp aIx (aVar 0) (aC (.int 0)))) (agSubL (aVar 0) (aC (.int 1)))) as__law_take_5) aNext) as__law_take_8)
def as__law_take : AS := (aSeq (aIf (aTest (aOp aLt (aVar 1) (aC (.int 2)))) (aRet (aC (.int 0))) aNext) as__law_take_3)

theorem pure__law_take (ds : List D) (A : Ah) (q : D → Ah → Prop) (x : AX) : sp__law_take ds A q x → as__law_take (endsA q x) (startA ["store", "many", "found"] ds) A := by
  rintro ⟨l, n, many, rfl, ⟨c0, c1, c2, c3, c4, c5, r, e, I⟩, hn, hm, h⟩
  (conv => whnf)
  refine ⟨fun h1 => ?_, fun h1 => ?_⟩
  · exact h 0 A (by decide) (.inr rfl) .rfl ⟨c0, c1, c2, c3, c4, c5, r, e, ⟨I.len, I.h0, I.h1, I.h2, I.h3, by have := I.h4; omega, I.h5, I.hr⟩⟩
  have hm2 : 2 ≤ many := by have := of_decide_eq_false h1; omega
  clear h1
  have rest : ∀ (A1 : Ah) c0 c1 c2 c3, A1 l = some (.lst (stL c0 c1 c2 c3 c4 c5 r)) → StI c0 c1 c2 c3 c4 c5 r n → Kp l A A1 → as__law_take_8 (endsA q x) [some (.ref l), some (.int many), none] A1 := by
    clear e I c0 c1 c2 c3
    intro A1 c0 c1 c2 c3 e I K1
    ((conv => whnf); refine ⟨_, e, _, atI_c4, ?_⟩)
    ((conv => whnf); refine ⟨_, e, _, ixN_c4, ?_⟩; generalize E2 : updA A1 l _ = A2; have e2 : A2 l = some (.lst (stL c0 c1 c2 c3 (c4 + 1) c5 r)) := (by rw [← E2]; exact updA_same); have KA2 : Kp l A1 A2 := (by rw [← E2]; exact .set); clear E2)
    have I2 : StI c0 c1 c2 c3 (c4 + 1) c5 r (n + 1) := ⟨I.len, I.h0, I.h1, I.h2, I.h3, by have := I.h4; omega, I.h5, I.hr⟩
    have S4 : SmallI (c4 + 1) := small128 (by have := I.h4; omega) (by have := I.h4; omega)
    have KA2 := K1.trans KA2
    have hq : ∀ j, 0 ≤ j → q (.int (j % many)) A2 := fun j _ => h _ A2 (Int.emod_nonneg _ (by omega)) (.inl (Int.emod_lt_of_pos _ (by omega))) KA2 ⟨_, _, _, _, _, _, _, e2, I2⟩
    ((conv => whnf); refine ⟨_, e2, _, atI_c2, ?_⟩)
    (conv => whnf)
    refine ⟨fun h1 => ?_, fun h1 => ?_⟩
    · ((conv => whnf); refine ⟨_, e2, _, atI_c5, ?_⟩)
      ((conv => whnf); refine ⟨_, e2, _, atI_c4, ?_⟩)
      (conv => whnf)
      refine ⟨S4, small128 (by decide) (by decide), ?_⟩
      (conv => whnf)
      refine ⟨_, rfl, fun j hj _ => ?_⟩
      (conv => whnf)
      refine ⟨_, rfl, fun j hj _ => ?_⟩
      (conv => whnf)
      refine ⟨by omega, hq _ hj⟩
    have hc2 : 1 ≤ c2 := by have := of_decide_eq_false h1; have := I.h2; omega
    clear h1
    ((conv => whnf); refine ⟨_, e2, _, atI_c2, ?_⟩)
    ((conv => whnf); refine ⟨_, e2, _, ixN_c2, ?_⟩; generalize E2 : updA A2 l _ = A3; have e3 : A3 l = some (.lst (stL c0 c1 (c2 - 1) c3 (c4 + 1) c5 r)) := (by rw [← E2]; exact updA_same); have KA3 : Kp l A2 A3 := (by rw [← E2]; exact .set); clear E2)
    have I3 : StI c0 c1 (c2 - 1) c3 (c4 + 1) c5 r (n + 1) := ⟨I2.len, I2.h0, I2.h1, by have := I.h2; omega, I.h3, I2.h4, I.h5, I.hr⟩
    have KA3 := KA2.trans KA3
    ((conv => whnf); refine ⟨_, e3, _, atI_c3, ?_⟩)
    (conv => whnf)
    refine ⟨fun h1 => ?_, fun h1 => ?_⟩
    · ((conv => whnf); refine ⟨_, e3, _, atI_c1, ?_⟩)
      (conv => whnf)
      refine ⟨smallW I.h1.1 I.h1.2, small128 (by decide) (by decide), ?_⟩
      ((conv => whnf); refine ⟨_, e3, _, atI_c2, ?_⟩)
      (conv => whnf)
      refine ⟨_, rfl, fun j hj _ => ?_⟩
      (conv => whnf)
      refine ⟨_, rfl, fun j hj _ => ?_⟩
      (conv => whnf)
      exact ⟨by omega, h _ A3 (Int.emod_nonneg _ (by omega)) (.inl (Int.emod_lt_of_pos _ (by omega))) KA3 ⟨_, _, _, _, _, _, _, e3, I3⟩⟩
    clear h1
    ((conv => whnf); refine ⟨_, e3, _, atI_c1, ?_⟩)
    (conv => whnf)
    refine ⟨by omega, ?_⟩
    ((conv => whnf); refine ⟨_, e3, _, atI_c1, ?_⟩)
    (conv => whnf)
    refine ⟨by omega, small128 (by omega) (by omega), ?_⟩
    ((conv => whnf); refine ⟨_, e3, _, ixN_c1, ?_⟩; generalize E2 : updA A3 l _ = A4; have e4 : A4 l = some (.lst (stL c0 (c1 / many) (c2 - 1) c3 (c4 + 1) c5 r)) := (by rw [← E2]; exact updA_same); have KA4 : Kp l A3 A4 := (by rw [← E2]; exact .set); clear E2)
    have I4 : StI c0 (c1 / many) (c2 - 1) c3 (c4 + 1) c5 r (n + 1) := ⟨I2.len, I2.h0, ⟨Int.ediv_nonneg I.h1.1 (by omega), Int.le_trans (Int.ediv_le_self _ I.h1.1) I.h1.2⟩, I3.h2, I.h3, I2.h4, I.h5, I.hr⟩
    have KA4 := KA3.trans KA4
    ((conv => whnf); refine ⟨_, e4, _, atI_c1, ?_⟩)
    (conv => whnf)
    refine ⟨fun h1 => ?_, fun h1 => ?_⟩
    · ((conv => whnf); refine ⟨_, e4, _, ixN_c2, ?_⟩; generalize E2 : updA A4 l _ = A5; have e5 : A5 l = some (.lst (stL c0 (c1 / many) 0 c3 (c4 + 1) c5 r)) := (by rw [← E2]; exact updA_same); have KA5 : Kp l A4 A5 := (by rw [← E2]; exact .set); clear E2)
      (conv => whnf)
      exact h _ A5 (Int.emod_nonneg _ (by omega)) (.inl (Int.emod_lt_of_pos _ (by omega))) (KA4.trans KA5) ⟨_, _, _, _, _, _, _, e5, ⟨I4.len, I4.h0, I4.h1, by decide, I.h3, I4.h4, I.h5, I.hr⟩⟩
    · (conv => whnf)
      exact h _ A4 (Int.emod_nonneg _ (by omega)) (.inl (Int.emod_lt_of_pos _ (by omega))) KA4 ⟨_, _, _, _, _, _, _, e4, I4⟩
  ((conv => whnf); refine ⟨_, e, _, atI_c2, ?_⟩)
  (conv => whnf)
  refine ⟨fun h1 => ?_, fun _ => ?_⟩
  · ((conv => whnf); refine ⟨_, e, _, atI_c0, ?_⟩)
    (conv => whnf)
    refine ⟨_, e, ?_⟩
    (conv => whnf)
    refine ⟨fun h2 => ?_, fun _ => rest A _ _ _ _ e I .rfl⟩
    obtain ⟨z, hz, ez⟩ := atI_cr (r := r) (c1 := c1) (c2 := c2) (c3 := c3) (c4 := c4) (c5 := c5) I.h0 (of_decide_eq_true h2)
    ((conv => whnf); refine ⟨_, e, _, atI_c0, ?_⟩)
    (conv => whnf)
    refine ⟨_, e, _, ez, ?_⟩
    ((conv => whnf); refine ⟨_, e, _, ixN_c1, ?_⟩; generalize E2 : updA A l _ = A2; have e2 : A2 l = some (.lst (stL c0 z c2 c3 c4 c5 r)) := (by rw [← E2]; exact updA_same); have KA2 : Kp l A A2 := (by rw [← E2]; exact .set); clear E2)
    ((conv => whnf); refine ⟨_, e2, _, atI_c0, ?_⟩)
    ((conv => whnf); refine ⟨_, e2, _, ixN_c0, ?_⟩; generalize E2 : updA A2 l _ = A3; have e3 : A3 l = some (.lst (stL (c0 + 1) z c2 c3 c4 c5 r)) := (by rw [← E2]; exact updA_same); have KA3 : Kp l A2 A3 := (by rw [← E2]; exact .set); clear E2)
    ((conv => whnf); refine ⟨_, e3, _, atI_c1, ?_⟩)
    (conv => whnf)
    refine ⟨by decide, ?_⟩
    ((conv => whnf); refine ⟨_, e3, _, ixN_c3, ?_⟩; generalize E2 : updA A3 l _ = A4; have e4 : A4 l = some (.lst (stL (c0 + 1) z c2 (if decide (10 ^ 18 ≤ z) = true then 1 else 0) c4 c5 r)) := (by rw [← E2]; exact updA_same); have KA4 : Kp l A3 A4 := (by rw [← E2]; exact .set); clear E2)
    have hb : 0 ≤ (if decide (10 ^ 18 ≤ z) = true then (1 : Int) else 0) ∧ (if decide (10 ^ 18 ≤ z) = true then (1 : Int) else 0) ≤ 1 := by split <;> decide
    generalize (if decide (10 ^ 18 ≤ z) = true then (1 : Int) else 0) = b at e4 hb
    ((conv => whnf); refine ⟨_, e4, _, atI_c3, ?_⟩)
    (conv => whnf)
    refine ⟨small128 (by decide) (by decide), small128 (by omega) (by omega), ?_⟩
    ((conv => whnf); refine ⟨_, e4, _, ixN_c2, ?_⟩; generalize E2 : updA A4 l _ = A5; have e5 : A5 l = some (.lst (stL (c0 + 1) z (4 + 56 * b) b c4 c5 r)) := (by rw [← E2]; exact updA_same); have KA5 : Kp l A4 A5 := (by rw [← E2]; exact .set); clear E2)
    exact rest A5 _ _ _ _ e5 ⟨I.len, by have := I.h0; omega, I.hr z hz, by omega, hb, I.h4, I.h5, I.hr⟩ (((KA2.trans KA3).trans KA4).trans KA5)
  · (conv => whnf)
    exact ⟨fun z => (by cases z), fun _ => rest A _ _ _ _ e I .rfl⟩
theorem len__law_take (ds : List D) (A : Ah) (q : D → Ah → Prop) (x : AX) : sp__law_take ds A q x → ds.length = 2 := by
  rintro ⟨l, n, many, rfl, _⟩; rfl
def as__law_order : AS := (aRet (aBlt aTuple (aCons (aFrz (aLc (aIter (aCall sp__law_nodes (aCons (aVar 0) aNil))) (agName 1) (aTest (aBlt aIsi (aCons (aOp aIx (aVar 1) (aC (.int 0))) (aCons (aC (.ty "str")) aNil)))) (aOp aIx (aVar 1) (aC (.int 0))) [1])) aNil)))

theorem pure__law_order (ds : List D) (A : Ah) (q : D → Ah → Prop) (x : AX) : sp__law_order ds A q x → as__law_order (endsA (shr q) x) (startA ["tree", "row"] ds) A := by
  rintro ⟨T, rfl, ht, hsz, h⟩
  (conv => whnf)
  refine ⟨T, rfl, ht, hsz, ?_⟩
  (conv => whnf)
  refine lc_fl T.rows rowE (fun r => isLeaf r.1) (fun r => r.1.d) (fun _ _ => by exact trivial) (by rw [rows_len, big_eq]; omega) (fun r hr A' κ sk G h1 h2 => ?_) ?_
  · have hrt := rows_tru ht r hr
    obtain ⟨ty, t1, t2⟩ := tyn_vis A' (tr_visT hrt)
    rw [← tru_leaf hrt, ← t2] at h1 h2
    (conv => whnf)
    refine ⟨_, atI_zero', ?_⟩
    (conv => whnf)
    refine ⟨ty, t1, by decide, ?_⟩
    (conv => whnf)
    refine ⟨fun e => ?_, fun e => h2 e⟩
    (conv => whnf)
    exact ⟨_, atI_zero', h1 e⟩
  · rw [leaf_rows _ (rows_tru ht), T.rows_lvr]
    have e : T.lvr.map (fun x => D.str x.1) = T.lv.map D.str := by rw [← T.lvr_fst, List.map_map]; rfl
    rw [e]
    exact shr_same h
theorem len__law_order (ds : List D) (A : Ah) (q : D → Ah → Prop) (x : AX) : sp__law_order ds A q x → ds.length = 1 := by
  rintro ⟨T, rfl, _⟩; rfl
def as__law_path_2 : AS := (aIf (aAndT (aTest (aBlt aIsi (aCons (aOp aIx (aVar 2) (aC (.int 0))) (aCons (aC (.ty "str")) aNil)))) (aTest (aOp aEq (aOp aIx (aVar 2) (aC (.int 0))) (aVar 1)))) (aRet (aOp aIx (aVar 2) (aC (.int 2)))) aNext)
def as__law_path : AS := (aSeq (aFor (aIter (aCall sp__law_nodes (aCons (aVar 0) aNil))) (agName 2) as__law_path_2) (aRet (aTup aNil)))

theorem pure__law_path (ds : List D) (A : Ah) (q : D → Ah → Prop) (x : AX) : sp__law_path ds A q x → as__law_path (endsA (shr q) x) (startA ["tree", "line", "row"] ds) A := by
  rintro ⟨T, n, rfl, ht, hsz, h⟩
  have hp : T.pth n = rowP (T.rows.find? (isAt n)) := T.pth_rows n
  rw [hp] at h
  (conv => whnf)
  refine ⟨T, rfl, ht, hsz, ?_⟩
  (conv => whnf)
  refine ⟨fun i Γ A' => A' = A ∧ (∃ a, Γ = [some T.d, some (.str n), a]) ∧ T.rows.find? (isAt n) = (T.rows.drop i).find? (isAt n), ⟨rfl, ⟨_, rfl⟩, rfl⟩, fun _ _ _ _ _ => trivial, ?_, ?_⟩
  · rintro i Γ A' (hi : i < (T.rows.map rowE).length) ⟨rfl, ⟨a, rfl⟩, hf⟩
    rw [List.length_map] at hi
    show agName 2 ((T.rows.map rowE).getD i .non) _ _ _
    rw [map_getD _ hi]
    have hrt := rows_tru ht _ (List.getElem_mem hi)
    rw [List.drop_eq_getElem_cons hi, List.find?_cons] at hf
    generalize T.rows[i] = y at hrt hf ⊢
    obtain ⟨t, par, p⟩ := y
    have hrt : t.tru = true := hrt
    rcases tru_d hrt with ⟨m, rfl⟩ | ⟨k, ts, rfl, hts⟩
    · (conv => whnf)
      refine ⟨_, atI_zero', ?_⟩
      (conv => whnf)
      refine ⟨_, rfl, by decide, ?_⟩
      (repeat ((conv => whnf); first | (refine ⟨?_, fun _ => ?_⟩; · (intro z; cases z)) | (refine ⟨fun _ => ?_, ?_⟩; rotate_left; · (intro z; cases z)) | (refine ⟨?_, fun _ => ?_⟩; · (intro z; exact absurd z (by decide))) | (refine ⟨fun _ => ?_, ?_⟩; rotate_left; · (intro z; exact absurd z (by decide)))))
      refine ⟨_, atI_zero', ?_⟩
      (conv => whnf)
      have hf : T.rows.find? (isAt n) = match decide (m = n) with | true => some (Tr.leaf m, par, p) | false => (T.rows.drop (i + 1)).find? (isAt n) := hf
      refine ⟨fun e => ?_, fun e => ?_⟩
      · have e : decide (m = n) = true := e
        rw [e] at hf
        rw [hf] at h
        (conv => whnf)
        exact ⟨_, rfl, shr_same h⟩
      · have e : decide (m = n) = false := e
        rw [e] at hf
        exact ⟨rfl, ⟨_, rfl⟩, hf⟩
    · (conv => whnf)
      refine ⟨_, atI_zero', ?_⟩
      (conv => whnf)
      refine ⟨_, rfl, by decide, ?_⟩
      (conv => whnf)
      refine ⟨fun z => absurd z (by decide), fun _ => ?_⟩
      (conv => whnf)
      refine ⟨fun z => Bool.noConfusion z, fun _ => ?_⟩
      exact ⟨rfl, ⟨_, rfl⟩, hf⟩
  · rintro Γ A' ⟨rfl, ⟨a, rfl⟩, hf⟩
    have hf : T.rows.find? (isAt n) = (T.rows.drop (T.rows.map rowE).length).find? (isAt n) := hf
    rw [List.length_map, List.drop_length] at hf
    rw [hf] at h
    (conv => whnf)
    exact ⟨Nat.le_of_ble_eq_true rfl, shr_same h⟩
theorem len__law_path (ds : List D) (A : Ah) (q : D → Ah → Prop) (x : AX) : sp__law_path ds A q x → ds.length = 2 := by
  rintro ⟨T, n, rfl, _⟩; rfl
def as_refuse_leaf_5 : AS := (aIf (aTest (aOp aGe (aBlt aLenD (aCons (aVar 1) aNil)) (aC (.int 24)))) (aRaise "TooMany" ["what", "limit"] (aCons (aC (.str (tl "lines"))) (aCons (aC (.int 24)) aNil))) aNext)
def as_refuse_leaf_3 : AS := (aSeq (aIf (aTest (aDIn (aVar 0) (aVar 1))) (aRaise "Twice" ["name"] (aCons (aVar 0) aNil)) aNext) as_refuse_leaf_5)
def as_refuse_leaf : AS := (aSeq (aIf (aNotT (aTest (aCall sp_is_name (aCons (aVar 0) aNil)))) (aRaise "BadName" ["name"] (aCons (aVar 0) aNil)) aNext) as_refuse_leaf_3)

theorem pure_refuse_leaf (ds : List D) (A : Ah) (q : D → Ah → Prop) (x : AX) : sp_refuse_leaf ds A q x → as_refuse_leaf (endsA (shr q) x) (startA ["name", "known"] ds) A := by
  rintro ⟨n, p, kvs, s, rfl, hb, hp, hk, h1, h2⟩
  unfold leafW at h1 h2
  (conv => whnf)
  refine ⟨n, rfl, hb, ?_⟩
  (conv => whnf)
  refine ⟨fun e => ?_, fun e => ?_⟩
  · have e : isNm n = false := by simpa using e
    rw [if_pos e] at h2
    (conv => whnf)
    exact ⟨rfl, fun d hd => (h2 _ rfl).new hd⟩
  · have e : isNm n = true := by simpa using e
    rw [if_neg (by rw [e]; decide)] at h1 h2
    (conv => whnf)
    refine ⟨kvs, hp, kS n, rfl, ?_⟩
    rw [hk.has]
    (conv => whnf)
    refine ⟨fun e2 => ?_, fun e2 => ?_⟩
    · have e2 := of_decide_eq_true e2
      rw [if_pos e2] at h2
      (conv => whnf)
      exact ⟨rfl, fun d hd => (h2 _ rfl).new hd⟩
    · have e2 := of_decide_eq_false e2
      rw [if_neg e2] at h1 h2
      (conv => whnf)
      refine ⟨kvs, hp, ?_⟩
      (conv => whnf)
      rw [hk.len]
      refine ⟨fun e3 => ?_, fun e3 => ?_⟩
      · have e3 := of_decide_eq_true e3
        rw [if_pos (by omega)] at h2
        (conv => whnf)
        exact ⟨rfl, fun d hd => (h2 _ rfl).new hd⟩
      · have e3 := of_decide_eq_false e3
        rw [if_neg (by omega)] at h1
        exact shr_same (h1 _ rfl)
theorem len_refuse_leaf (ds : List D) (A : Ah) (q : D → Ah → Prop) (x : AX) : sp_refuse_leaf ds A q x → ds.length = 2 := by
  rintro ⟨n, p, kvs, s, rfl, _⟩; rfl
def as_refuse_place_5 : AS := (aIf (aTest (aOp aGe (aVar 2) (aC (.int 60)))) (aRaise "TooMany" ["what", "limit"] (aCons (aC (.str (tl "places"))) (aCons (aC (.int 60)) aNil))) aNext)
def as_refuse_place_3 : AS := (aSeq (aIf (aTest (aOp aGe (aBlt aLen (aCons (aVar 1) aNil)) (aC (.int 24)))) (aRaise "TooMany" ["what", "limit"] (aCons (aC (.str (tl "depth"))) (aCons (aC (.int 24)) aNil))) aNext) as_refuse_place_5)
def as_refuse_place : AS := (aSeq (aIf (aNotT (aTest (aCall sp_looks_like_place (aCons (aVar 0) aNil)))) (aRaise "BadTree" ["path"] (aCons (aVar 1) aNil)) aNext) as_refuse_place_3)

theorem pure_refuse_place (ds : List D) (A : Ah) (q : D → Ah → Prop) (x : AX) : sp_refuse_place ds A q x → as_refuse_place (endsA (shr q) x) (startA ["nest", "path", "many"] ds) A := by
  rintro ⟨d, p, m, rfl, hd, h1, h2⟩
  unfold placeW at h1 h2
  (conv => whnf)
  refine ⟨d, rfl, hd, ?_⟩
  (conv => whnf)
  refine ⟨fun e => ?_, fun e => ?_⟩
  · have e : lkD d = false := by simpa using e
    rw [if_pos e] at h2
    (conv => whnf)
    exact ⟨rfl, fun d hd => (h2 _ rfl).new hd⟩
  · have e : lkD d = true := by simpa using e
    rw [if_neg (by rw [e]; decide)] at h1 h2
    (conv => whnf)
    rw [List.length_map]
    refine ⟨fun e3 => ?_, fun e3 => ?_⟩
    · have e3 := of_decide_eq_true e3
      rw [if_pos (by omega)] at h2
      (conv => whnf)
      exact ⟨rfl, fun d hd => (h2 _ rfl).new hd⟩
    · have e3 := of_decide_eq_false e3
      rw [if_neg (by omega)] at h1 h2
      (conv => whnf)
      refine ⟨fun e4 => ?_, fun e4 => ?_⟩
      · have e4 := of_decide_eq_true e4
        rw [if_pos (by omega)] at h2
        (conv => whnf)
        exact ⟨rfl, fun d hd => (h2 _ rfl).new hd⟩
      · have e4 := of_decide_eq_false e4
        rw [if_neg (by omega)] at h1
        exact shr_same (h1 rfl)
theorem len_refuse_place (ds : List D) (A : Ah) (q : D → Ah → Prop) (x : AX) : sp_refuse_place ds A q x → ds.length = 3 := by
  rintro ⟨d, p, m, rfl, _⟩; rfl
def as_check_lot_6 : AS := (aIf (aAndT (aTest (aOp aGt (aVar 2) (aC (.int 0)))) (aTest (aOp aLe (aVar 3) (aOp aIx (aVar 1) (aOp aSub (aVar 2) (aC (.int 1))))))) (aRaise "BadLot" ["at"] (aCons (aVar 2) aNil)) aNext)
def as_check_lot_4 : AS := (aSeq (aIf (aTest (aOp aNiS (aVar 3) (aVar 0))) (aRaise "NoSuchLine" ["name"] (aCons (aVar 3) aNil)) aNext) as_check_lot_6)
def as_check_lot_3 : AS := (aSeq (aFor (aEnumU (aCons (aVar 1) aNil)) (agTup 2 (agCons (agName 2) (agCons (agName 3) agNil))) as_check_lot_4) (aRet (aVar 1)))
def as_check_lot : AS := (aSeq (aIf (aTest (aOp aEq (aBlt aLen (aCons (aVar 1) aNil)) (aC (.int 0)))) (aRaise "BadLot" ["at"] (aCons (aC (.int 0)) aNil)) aNext) as_check_lot_3)

theorem pure_check_lot (ds : List D) (A : Ah) (q : D → Ah → Prop) (x : AX) : sp_check_lot ds A q x → as_check_lot (endsA (shr q) x) (startA ["lines", "lot", "at", "name"] ds) A := by
  rintro ⟨K, L, rfl, hl, h1, h2, h3⟩
  (conv => whnf)
  refine ⟨fun he => ?_, fun he => ?_⟩
  · have he : L = [] := by
      have := of_decide_eq_true he
      rw [List.length_map] at this
      exact List.eq_nil_of_length_eq_zero (by omega)
    subst he
    (conv => whnf)
    exact ⟨rfl, fun d hd => (h3 0 rfl).new hd⟩
  have hne : L ≠ [] := by
    intro z; subst z; exact absurd he (by decide)
  have hF : knoF K L = knoG K none 0 L := by unfold knoF; rw [if_neg hne]
  rw [hF] at h1 h2 h3
  (conv => whnf)
  refine ⟨fun i Γ A' => A' = A ∧ (∃ a b, Γ = [some (.tup (K.map D.str)), some (.tup (L.map D.str)), a, b]) ∧ knoG K none 0 L = knoG K (if i = 0 then none else L[i - 1]?) i (L.drop i), ⟨rfl, ⟨_, _, rfl⟩, rfl⟩, fun _ _ _ _ _ => trivial, ?_, ?_⟩
  · rintro i Γ A' (hi : i < (L.map D.str).length) ⟨rfl, ⟨a, b, rfl⟩, hg⟩
    rw [List.length_map] at hi
    have hc : L[i]? = some L[i] := List.getElem?_eq_getElem hi
    have hd : L.drop i = L[i] :: L.drop (i + 1) := List.drop_eq_getElem_cons hi
    show agTup 2 _ (D.tup [.int (i : Nat), (L.map D.str).getD i .non]) _ _ _
    rw [map_getD _ hi]
    generalize L[i] = c at hc hd
    rw [hd, knoG_cons] at hg
    (conv => whnf)
    refine ⟨rfl, ?_⟩
    (conv => whnf)
    refine ⟨rfl, ?_⟩
    (conv => whnf)
    refine ⟨rfl, sc_strs K, ?_⟩
    (conv => whnf)
    refine ⟨fun hn => ?_, fun hn => ?_⟩
    · have hn : inD (.str c) (K.map D.str) = false := by simpa using hn
      rw [if_pos (inD_strF.mp hn)] at hg
      (conv => whnf)
      exact ⟨rfl, fun d hd => (h2 c hg).new hd⟩
    · have hn : inD (.str c) (K.map D.str) = true := by simpa using hn
      rw [if_neg (fun z => z (inD_str.mp hn))] at hg
      have next : lowP (if i = 0 then none else L[i - 1]?) c = false → knoG K none 0 L = knoG K (if i + 1 = 0 then none else L[i + 1 - 1]?) (i + 1) (L.drop (i + 1)) := by
        intro hx
        rw [hg, hx, if_neg Bool.false_ne_true, if_neg (by omega), Nat.add_sub_cancel, hc]
      (conv => whnf)
      refine ⟨fun hp => ?_, fun hp => ?_⟩
      · have hp : 0 < i := by have := of_decide_eq_true hp; omega
        have hp1 : L[i - 1]? = some (L[i - 1]'(by omega)) := List.getElem?_eq_getElem _
        have hy : L2.atI (L.map D.str) ((i : Int) - 1) = some (.str (L[i - 1]'(by omega))) := by rw [show ((i : Int) - 1) = ((i - 1 : Nat) : Int) by omega]; exact atI_map _ _
        generalize L[i - 1]'(by omega) = p at hp1 hy
        have e0 : (if i = 0 then (none : Option (List Nat)) else L[i - 1]?) = L[i - 1]? := if_neg (by omega)
        rw [e0, hp1] at hg next
        (conv => whnf)
        refine ⟨_, hy, ?_⟩
        (conv => whnf)
        refine ⟨fun hlt => ?_, fun hlt => ?_⟩
        · have hlt : lowP (some p) c = true := hlt
          rw [if_pos hlt] at hg
          (conv => whnf)
          exact ⟨rfl, fun d hd => (h3 i hg).new hd⟩
        · have hlt : lowP (some p) c = false := hlt
          exact ⟨rfl, ⟨_, _, rfl⟩, next hlt⟩
      · have hp : i = 0 := by have := of_decide_eq_false hp; omega
        subst hp
        (conv => whnf)
        refine ⟨fun z => Bool.noConfusion z, fun _ => ?_⟩
        exact ⟨rfl, ⟨_, _, rfl⟩, next rfl⟩
  · rintro Γ A' ⟨rfl, ⟨a, b, rfl⟩, hg⟩
    have hg : knoG K none 0 L = knoG K (if (L.map D.str).length = 0 then none else L[(L.map D.str).length - 1]?) (L.map D.str).length (L.drop (L.map D.str).length) := hg
    rw [List.length_map, List.drop_length] at hg
    exact shr_same (h1 (by rw [hg]; rfl))
theorem len_check_lot (ds : List D) (A : Ah) (q : D → Ah → Prop) (x : AX) : sp_check_lot ds A q x → ds.length = 2 := by
  rintro ⟨K, L, rfl, _⟩; rfl
def as__law_pick : AS := (aRet (aOp aIx (aVar 1) (aCall sp__law_take (aCons (aVar 0) (aCons (aBlt aLen (aCons (aVar 1) aNil)) aNil)))))

theorem pure__law_pick (ds : List D) (A : Ah) (q : D → Ah → Prop) (x : AX) : sp__law_pick ds A q x → as__law_pick (endsA q x) (startA ["store", "items"] ds) A := by
  rintro ⟨l, n, d, xs, rfl, hs, hn, it, hd, hx, hb, h⟩
  have hl : 0 < xs.length := List.length_pos_iff.mpr hx
  have key : ∀ (j : Int), 0 ≤ j → (j < xs.length ∨ j = 0) → ∃ y, L2.atI xs j = some y ∧ y ∈ xs := by
    intro j h0 h1
    refine ⟨xs[j.toNat]'(by omega), ?_, List.getElem_mem _⟩
    unfold L2.atI L2.ixN
    rw [if_pos h0, if_pos (by omega)]
    exact List.getElem?_eq_getElem _
  rcases it with ⟨cs, rfl, rfl⟩ | ⟨p, rfl, e⟩ | rfl | rfl
  · rw [List.length_map] at hb key hl
    (conv => whnf)
    refine ⟨hb, ?_⟩
    (conv => whnf)
    refine ⟨l, n, cs.length, rfl, hs, hn, by have : big = 16777216 := rfl; omega, fun j A' h0 h1 K1 S1 => ?_⟩
    (conv => whnf)
    refine ⟨hb, ?_⟩
    obtain ⟨y, e, hy⟩ := key j h0 h1
    have : ∃ c, L2.atI cs j = some c ∧ y = .str [c] := by
      unfold L2.atI at e ⊢
      rw [List.length_map] at e
      cases hx : L2.ixN cs.length j with
      | none => rw [hx] at e; cases e
      | some i =>
        rw [hx] at e
        rw [Option.bind_some, List.getElem?_map] at e
        rw [Option.bind_some]
        cases hc : cs[i]? with
        | none => rw [hc] at e; cases e
        | some c => rw [hc] at e; cases e; exact ⟨c, rfl, rfl⟩
    obtain ⟨c, ec, rfl⟩ := this
    exact ⟨c, ec, h _ A' hy K1 S1⟩
  · (conv => whnf)
    refine ⟨_, e, ?_⟩
    (conv => whnf)
    refine ⟨l, n, xs.length, rfl, hs, hn, by have : big = 16777216 := rfl; omega, fun j A' h0 h1 K1 S1 => ?_⟩
    (conv => whnf)
    obtain ⟨y, e2, hy⟩ := key j h0 h1
    exact ⟨_, K1 _ _ (fun z => hd (by rw [z])) e, _, e2, h _ A' hy K1 S1⟩
  · (conv => whnf)
    refine ⟨l, n, xs.length, rfl, hs, hn, by have : big = 16777216 := rfl; omega, fun j A' h0 h1 K1 S1 => ?_⟩
    (conv => whnf)
    obtain ⟨y, e2, hy⟩ := key j h0 h1
    exact ⟨_, e2, h _ A' hy K1 S1⟩
  · (conv => whnf)
    refine ⟨l, n, xs.length, rfl, hs, hn, by have : big = 16777216 := rfl; omega, fun j A' h0 h1 K1 S1 => ?_⟩
    (conv => whnf)
    obtain ⟨y, e2, hy⟩ := key j h0 h1
    exact ⟨_, e2, h _ A' hy K1 S1⟩
theorem len__law_pick (ds : List D) (A : Ah) (q : D → Ah → Prop) (x : AX) : sp__law_pick ds A q x → ds.length = 2 := by
  rintro ⟨l, n, d, xs, rfl, _⟩; rfl
def as__law_shuffle_4 : AS := (aDrop (aMethL aAppend (aVar 3) (aCons (aMethL aPop (aVar 2) (aCons (aCall sp__law_take (aCons (aVar 0) (aCons (aBlt aLen (aCons (aVar 2) aNil)) aNil))) aNil)) aNil)))
def as__law_shuffle_3 : AS := (aSeq (aFor (aRng1 (aCons (aBlt aLen (aCons (aVar 1) aNil)) aNil)) (agName 4) as__law_shuffle_4) (aRet (aVar 3)))
def as__law_shuffle_2 : AS := (aSeq (aAsg (aLst aNil) (agName 3)) as__law_shuffle_3)
def as__law_shuffle : AS := (aSeq (aAsg (aBlt aList (aCons (aVar 1) aNil)) (agName 2)) as__law_shuffle_2)

theorem erase_perm {α : Type} : ∀ {l : List α} {j : Nat} {y : α}, l[j]? = some y → (y :: l.eraseIdx j).Perm l
  | [], _, _, h => by cases h
  | a :: r, 0, y, h => by
    cases h
    exact .refl _
  | a :: r, j + 1, y, h => by
    have h : r[j]? = some y := h
    show (y :: a :: r.eraseIdx j).Perm (a :: r)
    exact (List.Perm.swap a y _).trans ((erase_perm h).cons a)
theorem pure__law_shuffle (ds : List D) (A : Ah) (q : D → Ah → Prop) (x : AX) : sp__law_shuffle ds A q x → as__law_shuffle (endsA q x) (startA ["store", "items", "rest", "found", "k"] ds) A := by
  rintro ⟨l, n, d, xs, rfl, hs, hn, hd, hdl, hx, h⟩
  have main : ∀ r A0, A0 r = some (.lst xs) → r ≠ l → Kp l A A0 → A r = none → St A0 l n → (∃ p, d = .ref p ∧ A0 p = some (.lst xs)) ∨ d = .tup xs ∨ d = .fl xs → as__law_shuffle_2 (endsA q x) [some (.ref l), some d, some (.ref r), none, none] A0 := by
    intro r A0 er hrl K0 hrA S0 hd
    (conv => whnf)
    refine ⟨Nat.le_of_ble_eq_true rfl, fun f hf => ?_⟩
    have hrf : r ≠ f := neA er hf
    have hfl := S0.ne hf
    have hfA := K0.none hf hfl
    have ef : updA A0 f (.lst []) f = some (.lst []) := updA_same
    have er1 := Ext.new (c := .lst []) hf _ _ er
    have K1 := K0.new (c := .lst []) hf
    have S1 := S0.ext (Ext.new (c := .lst []) hf)
    have hd1 : (∃ p, d = .ref p ∧ updA A0 f (.lst []) p = some (.lst xs)) ∨ d = .tup xs ∨ d = .fl xs := hd.imp (fun ⟨p, a, b⟩ => ⟨p, a, Ext.new hf _ _ b⟩) id
    generalize updA A0 f (.lst []) = A1 at ef er1 K1 S1 hd1 ⊢
    have loop : ∃ Inv : Nat → Gt → Ah → Prop, Inv 0 [some (.ref l), some d, some (.ref r), some (.ref f), none] A1 ∧ (∀ i Γ' A', i ≤ xs.length → Inv i Γ' A' → True) ∧ (∀ i Γ' A', i < xs.length → Inv i Γ' A' → agName 4 (.int (0 + (i : Nat))) Γ' A' fun Γ2 A2 => as__law_shuffle_4 { nx := Inv (i + 1), rt := q, bk := fun _ _ => False, ct := Inv (i + 1), ex := fun e _ A' => x e A' } Γ2 A2) ∧ ∀ Γ' A', Inv xs.length Γ' A' → aRet (aVar 3) (endsA q x) Γ' A' := by
      refine ⟨fun i Γ A' => ∃ (z : Option D) (rs ys : List D), Γ = [some (.ref l), some d, some (.ref r), some (.ref f), z] ∧ A' r = some (.lst rs) ∧ A' f = some (.lst ys) ∧ (ys ++ rs).Perm xs ∧ ys.length = i ∧ Kp l A A' ∧ St A' l (n + i), ⟨_, xs, [], rfl, er1, ef, .refl _, rfl, K1, S1⟩, fun _ _ _ _ _ => trivial, ?_, ?_⟩
      · rintro i Γ A2 hi ⟨z, rs, ys, rfl, e1, e2, hp, hl, K2, S2⟩
        have hlen := hp.length_eq
        rw [List.length_append] at hlen
        (conv => whnf)
        refine ⟨⟨_, e2⟩, ?_⟩
        (conv => whnf)
        refine ⟨⟨_, e1⟩, ?_⟩
        (conv => whnf)
        refine ⟨_, e1, ?_⟩
        (conv => whnf)
        refine ⟨l, _, _, rfl, S2, by omega, by omega, fun j A3 j0 j1 K3 S3 => ?_⟩
        obtain ⟨j, rfl⟩ := toN j0
        have hj : j < rs.length := by omega
        have e1 := K3 _ _ hrl e1
        have e2 := K3 _ _ hfl e2
        have K3 := K2.trans K3
        (conv => whnf)
        refine ⟨_, e1, j, rs[j], rfl, by omega, List.getElem?_eq_getElem hj, ?_⟩
        (conv => whnf)
        have e2b : updA A3 r (.lst (rs.eraseIdx j)) f = some (.lst ys) := by rw [updA_ne (Ne.symm hrf)]; exact e2
        refine ⟨_, e2b, by rw [big_eq]; omega, ?_⟩
        refine ⟨_, rs.eraseIdx j, ys ++ [rs[j]], rfl, by rw [updA_ne hrf, updA_same], updA_same, ?_, by simp [hl], (K3.upd hrA).upd hfA, ((S3.upd hrl).upd hfl).mono (by omega)⟩
        have pe := erase_perm (l := rs) (j := j) (List.getElem?_eq_getElem hj)
        rw [List.append_assoc]
        exact (pe.append_left ys).trans hp
      · rintro Γ A2 ⟨z, rs, ys, rfl, e1, e2, hp, hl, K2, S2⟩
        have hlen := hp.length_eq
        rw [List.length_append] at hlen
        have : rs = [] := List.eq_nil_of_length_eq_zero (by omega)
        subst this
        rw [List.append_nil] at hp
        exact h f ys A2 hp hfl hfA e2 K2 S2
    rcases hd1 with ⟨p, rfl, hp⟩ | rfl | rfl
    · (conv => whnf)
      refine ⟨_, hp, ?_⟩
      (conv => whnf)
      exact ⟨by omega, loop⟩
    · (conv => whnf)
      exact ⟨by omega, loop⟩
    · (conv => whnf)
      exact ⟨by omega, loop⟩
  rcases hd with ⟨p, rfl, hp⟩ | rfl | rfl
  · (conv => whnf)
    refine ⟨_, hp, fun r hr => ?_⟩
    exact main r _ updA_same (hs.ne hr) (Kp.new .rfl hr) hr (hs.ext (.new hr)) (.inl ⟨p, rfl, Ext.new hr _ _ hp⟩)
  · (conv => whnf)
    intro r hr
    exact main r _ updA_same (hs.ne hr) (Kp.new .rfl hr) hr (hs.ext (.new hr)) (.inr (.inl rfl))
  · (conv => whnf)
    intro r hr
    exact main r _ updA_same (hs.ne hr) (Kp.new .rfl hr) hr (hs.ext (.new hr)) (.inr (.inr rfl))
theorem len__law_shuffle (ds : List D) (A : Ah) (q : D → Ah → Prop) (x : AX) : sp__law_shuffle ds A q x → ds.length = 2 := by
  rintro ⟨l, n, d, xs, rfl, _⟩; rfl
def as__law_without_7 : AS := (aIf (aTest (aOp aGt (aBlt aLen (aCons (aVar 7) aNil)) (aC (.int 0)))) (aRet (aCall sp__law_put (aCons (aVar 0) (aCons (aVar 4) (aCons (aTup (aCons (aOp aIx (aVar 5) (aC (.int 0))) (aCons (aVar 7) aNil))) aNil))))) aNext)
def as__law_without_6 : AS := (aSeq (aAsg (aOp aAdd (aSl (aOp aIx (aVar 5) (aC (.int 1))) aNoP (aPart (aVar 6))) (aSl (aOp aIx (aVar 5) (aC (.int 1))) (aPart (aOp aAdd (aVar 6) (aC (.int 1)))) aNoP)) (agName 7)) as__law_without_7)
def as__law_without_5 : AS := (aSeq (aAsg (aOp aIx (aVar 2) (aBlt aLen (aCons (aVar 4) aNil))) (agName 6)) as__law_without_6)
def as__law_without_4 : AS := (aSeq (aAsg (aCall sp__law_at (aCons (aVar 0) (aCons (aVar 4) aNil))) (agName 5)) as__law_without_5)
def as__law_without_3 : AS := (aSeq (aAsg (aSl (aVar 2) aNoP (aPart (aOp aSub (aOp aSub (aBlt aLen (aCons (aVar 2) aNil)) (aC (.int 1))) (aVar 3)))) (agName 4)) as__law_without_4)
def as__law_without_2 : AS := (aSeq (aFor (aRng1 (aCons (aBlt aLen (aCons (aVar 2) aNil)) aNil)) (agName 3) as__law_without_3) (aRet (aVar 0)))
def as__law_without : AS := (aSeq (aAsg (aCall sp__law_path (aCons (aVar 0) (aCons (aVar 1) aNil))) (agName 2)) as__law_without_2)

theorem pure__law_without (ds : List D) (A : Ah) (q : D → Ah → Prop) (x : AX) : sp__law_without ds A q x → as__law_without (endsA (shr q) x) (startA ["tree", "line", "path", "k", "up", "node", "at", "kids"] ds) A := by
  rintro ⟨T, w, n, rfl, ht, hz, hn, hw, h⟩
  have hg : T.get (T.pth n) = some (.leaf n) := Tr.lvr_get (pth_mem hn)
  (conv => whnf)
  refine ⟨T, n, rfl, ht, hz, ?_⟩
  generalize T.pth n = p at hw hg ⊢
  have hpT := (get_sz hg).2
  (conv => whnf)
  rw [List.length_map]
  refine ⟨by omega, fun i Γ A' => A' = A ∧ ∃ (v : Tr) (a b c d e : Option D), Γ = [some T.d, some (.str n), some (pathD p), a, b, c, d, e] ∧ T.get (p.take (p.length - i)) = some v ∧ v.rem (p.drop (p.length - i)) = none,
    ⟨rfl, .leaf n, _, _, _, _, _, rfl, by rw [Nat.sub_zero, List.take_length]; exact hg, by rw [Nat.sub_zero, List.drop_length]; rfl⟩, fun _ _ _ _ _ => trivial, ?_, ?_⟩
  · rintro i Γ A' (hi : i < (p.length : Int).toNat) ⟨rfl, v, a, b, c, d, e, rfl, hv, hr⟩
    have hi : i < p.length := by omega
    have hm : p.length - 1 - i < p.length := by omega
    obtain ⟨k, ts, c1, h1, h2, h3⟩ := get_succ hg hm
    have e3 : p.length - 1 - i + 1 = p.length - i := by omega
    rw [e3, hv] at h3
    cases h3
    have hrem : (Tr.node k ts).rem (p.drop (p.length - 1 - i)) = ndO k (ts.eraseIdx p[p.length - 1 - i]) := by
      rw [List.drop_eq_getElem_cons hm, Tr.rem_cons h2, e3, hr]
    have e2 : ((p.length : Int) - 1 - (0 + (i : Int))) = ((p.length - 1 - i : Nat) : Int) := by omega
    have hszn := (get_sz h1).1
    have hszn : Tr.szs ts + 1 ≤ T.sz := hszn
    have htl := Tr.szs_len ts
    have hj : p[p.length - 1 - i] < ts.length := (List.getElem?_eq_some_iff.mp h2).1
    have ek : cutD (Tr.ds ts) none (some ((p[p.length - 1 - i] : Nat) : Int)) ++ cutD (Tr.ds ts) (some (((p[p.length - 1 - i] : Nat) : Int) + 1)) none = Tr.ds (ts.eraseIdx p[p.length - 1 - i]) := by
      rw [cut_to, show (((p[p.length - 1 - i] : Nat) : Int) + 1) = ((p[p.length - 1 - i] + 1 : Nat) : Int) by omega, cut_from, Tr.ds_map, Tr.ds_map, List.eraseIdx_eq_take_drop_succ, List.map_append, List.map_take, List.map_drop]
    (conv => whnf)
    rw [List.length_map, e2, cut_map, cut_to]
    have hpt : (D.tup ((p.take (p.length - 1 - i)).map fun i => D.int (i : Nat))) = pathD (p.take (p.length - 1 - i)) := rfl
    (conv => whnf)
    refine ⟨T, p.take (p.length - 1 - i), _, rfl, h1, ?_⟩
    (conv => whnf)
    rw [List.length_map, List.length_take, show min (p.length - 1 - i) p.length = p.length - 1 - i by omega]
    refine ⟨_, atI_map (fun i => D.int (i : Nat)) hm, ?_⟩
    (conv => whnf)
    refine ⟨_, atI_one', ?_⟩
    (conv => whnf)
    refine ⟨_, atI_one', ?_⟩
    (conv => whnf)
    have hlen : (Tr.ds (ts.eraseIdx p[p.length - 1 - i])).length ≤ 990 := by
      rw [Tr.ds_map, List.length_map, List.length_eraseIdx]; split <;> omega
    refine ⟨by rw [← List.length_append, ek, big_eq]; omega, ?_⟩
    rw [ek]
    have hsplit : p = p.take (p.length - 1 - i) ++ p.drop (p.length - 1 - i) := (List.take_append_drop _ _).symm
    cases hk : ts.eraseIdx p[p.length - 1 - i] with
    | nil =>
      rw [hk] at hrem
      (conv => whnf)
      refine ⟨fun z => Bool.noConfusion z, fun _ => ?_⟩
      exact ⟨rfl, _, _, _, _, _, _, rfl, by rw [show p.length - (i + 1) = p.length - 1 - i by omega]; exact h1, by rw [show p.length - (i + 1) = p.length - 1 - i by omega]; exact hrem⟩
    | cons u r =>
      rw [hk] at hrem
      have hT := Tr.rem_app h1 hrem
      rw [← hsplit, hw] at hT
      cases hT
      (conv => whnf)
      refine ⟨fun _ => ?_, fun z => ?_⟩
      · (conv => whnf)
        refine ⟨_, atI_zero', ?_⟩
        (conv => whnf)
        refine ⟨Nat.le_of_ble_eq_true rfl, ?_⟩
        exact ⟨T, p.take (p.length - 1 - i), _, .node k (u :: r), rfl, h1, by omega, shr_same h⟩
      · have z := of_decide_eq_false z
        have : (Tr.ds (u :: r)).length = r.length + 1 := by rw [Tr.ds_map, List.length_map]; rfl
        omega
  · rintro Γ A' ⟨rfl, v, a, b, c, d, e, rfl, hv, hr⟩
    have hv : T.get (p.take (p.length - (p.length : Int).toNat)) = some v := hv
    have hr : v.rem (p.drop (p.length - (p.length : Int).toNat)) = none := hr
    rw [show p.length - (p.length : Int).toNat = 0 by omega] at hv hr
    rw [List.take_zero] at hv
    rw [List.drop_zero] at hr
    have : v = T := by cases T <;> cases hv <;> rfl
    rw [this, hw] at hr
    cases hr
theorem len__law_without (ds : List D) (A : Ah) (q : D → Ah → Prop) (x : AX) : sp__law_without ds A q x → ds.length = 2 := by
  rintro ⟨T, w, n, rfl, _⟩; rfl
def as_check_tree_8 : AS := (aDPut (aVar 2) (aVar 4) (aC (.bl true)))
def as_check_tree_13 : AS := (aDrop (aMethL aExtendU (aVar 1) (aCons (aFrz (aLc (aRngD (aCons (aOp aSub (aBlt aLen (aCons (aVar 6) aNil)) (aC (.int 1))) (aCons (aNeg (aC (.int 1))) (aCons (aNeg (aC (.int 1))) aNil)))) (agName 7) aYes (aTup (aCons (aOp aIx (aVar 6) (aVar 7)) (aCons (aOp aAdd (aVar 5) (aTup (aCons (aVar 7) aNil))) aNil))) [7])) aNil)))
def as_check_tree_12 : AS := (aSeq (aAsg (aOp aIx (aVar 4) (aC (.int 1))) (agName 6)) as_check_tree_13)
def as_check_tree_11 : AS := (aSeq (aDrop (aMethL aAppend (aVar 3) (aCons (aVar 5) aNil))) as_check_tree_12)
def as_check_tree_6 : AS := (aIf (aTest (aBlt aIsi (aCons (aVar 4) (aCons (aC (.ty "str")) aNil)))) (aSeq (aDrop (aCall sp_refuse_leaf (aCons (aVar 4) (aCons (aVar 2) aNil)))) as_check_tree_8) (aSeq (aDrop (aCall sp_refuse_place (aCons (aVar 4) (aCons (aVar 5) (aCons (aBlt aLen (aCons (aVar 3) aNil)) aNil))))) as_check_tree_11))
def as_check_tree_5 : AS := (aSeq (aAsg (aMethL aPop (aVar 1) aNil) (agTup 2 (agCons (agName 4) (agCons (agName 5) agNil)))) as_check_tree_6)
def as_check_tree_4 : AS := (aSeq (aWhile (aTruth (aVar 1)) as_check_tree_5) (aRet (aVar 0)))
def as_check_tree_3 : AS := (aSeq (aAsg (aLst aNil) (agName 3)) as_check_tree_4)
def as_check_tree_2 : AS := (aSeq (aAsg aDNew (agName 2)) as_check_tree_3)
def as_check_tree : AS := (aSeq (aAsg (aLst (aCons (aTup (aCons (aVar 0) (aCons (aTup aNil) aNil))) aNil)) (agName 1)) as_check_tree_2)

def tpD (s : Tr × List Nat) : D := .tup [s.1.d, pathD s.2]
theorem lkD_node (k : Kd) {ts : List Tr} (h : ts ≠ []) : lkD (Tr.node k ts).d = true ∧ lkOk (Tr.node k ts).d = true := by
  have h1 : inD (.str k.cs) kindsD = true := by cases k <;> decide
  have h2 : neTup (.tup (Tr.ds ts)) = true := by cases ts with | nil => exact absurd rfl h | cons t r => rfl
  have h3 : (D.str k.cs).flat 60 = true := by cases k <;> decide
  refine ⟨?_, ?_⟩
  · show (inD (.str k.cs) kindsD && neTup (.tup (Tr.ds ts))) = true
    rw [h1, h2]; rfl
  · show ((D.str k.cs).flat 60 && true) = true
    rw [h3]; rfl
theorem kid_list (p : List Nat) (ts : List Tr) : (List.range ts.length).map (fun i => D.tup [(ts.getD (ts.length - 1 - i) (.leaf [])).d, pathD (p ++ [ts.length - 1 - i])]) = ((kidS p 0 ts).map tpD).reverse := by
  apply List.ext_getElem?
  intro i
  by_cases h : i < ts.length
  · rw [List.getElem?_map, List.getElem?_range h, List.getElem?_reverse (by rw [List.length_map, kidS_len]; exact h), List.length_map, kidS_len, List.getElem?_map, kidS_get p ts 0 (ts.length - 1 - i) (by omega)]
    simp only [Option.map_some, tpD, Nat.zero_add]
    rw [List.getD_eq_getElem?_getD, List.getElem?_eq_getElem (by omega)]
    rfl
  · rw [List.getElem?_eq_none (by simpa using h), List.getElem?_eq_none (by rw [List.length_reverse, List.length_map, kidS_len]; omega)]
theorem shs_kids {p : List Nat} {ts : List Tr} {r : List (Tr × List Nat)} (h : ∀ s ∈ r, s.1.sh = true ∧ s.1.lit) (h1 : Tr.shs ts = true) (h2 : Tr.lits ts) : ∀ s ∈ kidS p 0 ts ++ r, s.1.sh = true ∧ s.1.lit := by
  have key : ∀ (ts : List Tr) (i : Nat), Tr.shs ts = true → Tr.lits ts → ∀ s ∈ kidS p i ts, s.1.sh = true ∧ s.1.lit := by
    intro ts
    induction ts with
    | nil => intro i _ _ s hs; cases hs
    | cons t r ih =>
      intro i a b s hs
      have a : (t.sh && Tr.shs r) = true := a
      obtain ⟨a1, a2⟩ := (Bool.and_eq_true _ _).mp a
      obtain ⟨b1, b2⟩ := b
      rcases List.mem_cons.mp hs with rfl | hs
      · exact ⟨a1, b1⟩
      · exact ih (i + 1) a2 b2 s hs
  intro s hs
  rcases List.mem_append.mp hs with hs | hs
  · exact key ts 0 h1 h2 s hs
  · exact h s hs
def ckI (T : Tr) (A : Ah) (p k m : Addr) (n : Nat) (Γ : Gt) (A' : Ah) : Prop := ∃ (S : List (Tr × List Nat)) (s : Kn) (kvs : List (Key × D)) (ms : List D) (a b c d : Option D), Γ = [some T.d, some (.ref p), some (.ref k), some (.ref m), a, b, c, d] ∧ Ext A A' ∧
    A' p = some (.lst ((S.map tpD).reverse)) ∧ A' k = some (.dic kvs) ∧ Ks kvs s.names ∧ A' m = some (.lst ms) ∧ ms.length = s.met ∧ s.names.length ≤ 24 ∧ s.met ≤ 60 ∧ n = szS S ∧ szS S ≤ 1000000 ∧ (∀ t ∈ S, t.1.sh = true ∧ t.1.lit) ∧ walkS S s = T.walk [] ⟨[], 0⟩
theorem leafW_ok {n : List Nat} {s s' : Kn} (h : leafW n s = .ok s') : n ∉ s.names ∧ s.names.length < 24 ∧ s' = ⟨s.names ++ [n], s.met⟩ := by
  unfold leafW at h
  split at h
  · cases h
  · split at h
    · cases h
    · split at h
      · cases h
      · cases h
        exact ⟨by assumption, by omega, rfl⟩
theorem tr_vis {t : Tr} (h : t.sh = true) : visD t.d = true := by
  cases t with
  | leaf n => rfl
  | node k ts => rfl
  | bad d =>
    have h : (lkOk d && !isStrD d && !lkD d) = true := h
    have h1 : lkOk d = true := by cases e : lkOk d <;> simp [e] at h ⊢
    show visD d = true
    cases d with
    | tup xs => rfl
    | _ => exact h1
theorem pure_check_tree (ds : List D) (A : Ah) (q : D → Ah → Prop) (x : AX) : sp_check_tree ds A q x → as_check_tree (endsA (shr q) x) (startA ["tree", "left", "known", "met", "nest", "path", "kids", "at"] ds) A := by
  rintro ⟨T, rfl, hsh, hlit, hsz, h1, h2⟩
  (conv => whnf)
  refine ⟨Nat.le_of_ble_eq_true rfl, ?_⟩
  (conv => whnf)
  refine ⟨Nat.le_of_ble_eq_true rfl, ?_⟩
  (conv => whnf)
  refine ⟨Nat.le_of_ble_eq_true rfl, fun p hp => ?_⟩
  (conv => whnf)
  intro k hk
  have hpk : p ≠ k := neA updA_same hk
  (conv => whnf)
  refine ⟨Nat.le_of_ble_eq_true rfl, fun m hm => ?_⟩
  have ek : updA (updA A p (.lst [.tup [T.d, .tup []]])) k (.dic []) k = some (.dic []) := updA_same
  have hkm : k ≠ m := neA ek hm
  have ep : updA (updA A p (.lst [.tup [T.d, .tup []]])) k (.dic []) p = some (.lst [.tup [T.d, .tup []]]) := by rw [updA_ne hpk]; exact updA_same
  have hpm : p ≠ m := neA ep hm
  have ek := Ext.new (c := .lst []) hm _ _ ek
  have ep := Ext.new (c := .lst []) hm _ _ ep
  have em : updA (updA (updA A p (.lst [.tup [T.d, .tup []]])) k (.dic [])) m (.lst []) m = some (.lst []) := updA_same
  have G : Ext A (updA (updA (updA A p (.lst [.tup [T.d, .tup []]])) k (.dic [])) m (.lst [])) := ((Ext.new hp).newer hk).newer hm
  have hAk : A k = none := (Ext.new hp).none hk
  have hAm : A m = none := ((Ext.new hp).newer hk).none hm
  generalize updA (updA (updA A p (.lst [.tup [T.d, .tup []]])) k (.dic [])) m (.lst []) = A1 at ek ep em G ⊢
  refine ⟨ckI T A p k m, ?_, ?_⟩
  · refine ⟨_, [(T, [])], ⟨[], 0⟩, [], [], _, _, _, _, rfl, G, ep, ek, rfl, em, rfl, Nat.zero_le _, Nat.zero_le _, rfl, by simp only [szS, List.map_cons, List.map_nil, Tr.szs]; omega, ?_, ?_⟩
    · intro t ht
      rw [List.mem_singleton.mp ht]
      exact ⟨hsh, hlit⟩
    · rw [walkS]
      cases T.walk [] ⟨[], 0⟩ <;> rfl
  · rintro n Γ A2 ⟨S, s, kvs, ms, a, b, c, d, rfl, G2, ep2, ek2, hks, em2, hms, hnl, hml, rfl, hS, hok, hw⟩
    (conv => whnf)
    refine ⟨_, ep2, ?_⟩
    (conv => whnf)
    cases S with
    | nil =>
      refine ⟨fun z => absurd z (by simp), fun _ => ?_⟩
      have hw : Except.ok s = T.walk [] ⟨[], 0⟩ := hw
      exact ⟨A, G2, h1 s hw.symm⟩
    | cons t r =>
      obtain ⟨t, pt⟩ := t
      have hsz2 : szS ((t, pt) :: r) = t.sz + szS r := rfl
      have hlen := Tr.szs_len (((t, pt) :: r).map (·.1))
      rw [List.length_map] at hlen
      have hlen : ((t, pt) :: r).length ≤ szS ((t, pt) :: r) := hlen
      rw [List.length_cons] at hlen
      have hrl : r.length ≤ szS r := by have := Tr.szs_len (r.map (·.1)); rw [List.length_map] at this; exact this
      have eL : (((t, pt) :: r).map tpD).reverse = (r.map tpD).reverse ++ [tpD (t, pt)] := by rw [List.map_cons, List.reverse_cons]
      rw [eL] at ep2 ⊢
      refine ⟨fun _ => ?_, fun z => absurd z (by simp)⟩
      (conv => whnf)
      refine ⟨⟨_, ep2⟩, ?_⟩
      (conv => whnf)
      refine ⟨_, ep2, tpD (t, pt), by simp, ?_⟩
      (conv => whnf)
      refine ⟨rfl, ?_⟩
      rw [List.dropLast_concat]
      have G3 : Ext A (updA A2 p (.lst (r.map tpD).reverse)) := G2.upd hp
      have ek3 : updA A2 p (.lst (r.map tpD).reverse) k = some (.dic kvs) := by rw [updA_ne (Ne.symm hpk)]; exact ek2
      have em3 : updA A2 p (.lst (r.map tpD).reverse) m = some (.lst ms) := by rw [updA_ne (Ne.symm hpm)]; exact em2
      have ep3 : updA A2 p (.lst (r.map tpD).reverse) p = some (.lst (r.map tpD).reverse) := updA_same
      generalize updA A2 p (.lst (r.map tpD).reverse) = A3 at G3 ek3 em3 ep3 ⊢
      obtain ⟨hsht, hlitt⟩ := hok _ List.mem_cons_self
      have hsht : t.sh = true := hsht
      have hlitt : t.lit := hlitt
      have hokr : ∀ t ∈ r, t.1.sh = true ∧ t.1.lit := fun t m => hok t (List.mem_cons_of_mem _ m)
      have htp := t.sz_pos
      obtain ⟨ty, ty1, ty2⟩ := tyn_vis A3 (tr_vis hsht)
      (conv => whnf)
      refine ⟨rfl, ?_⟩
      (conv => whnf)
      refine ⟨ty, ty1, by decide, ?_⟩
      (conv => whnf)
      rw [ty2]
      have hw2 : (match t.walk pt s with | .error f => .error f | .ok s' => walkS r s') = T.walk [] ⟨[], 0⟩ := hw
      cases t with
      | leaf n =>
        have hw2 : (match leafW n s with | .error f => .error f | .ok s' => walkS r s') = T.walk [] ⟨[], 0⟩ := hw2
        refine ⟨fun _ => ?_, fun z => Bool.noConfusion (show true = false from z)⟩
        (conv => whnf)
        refine ⟨n, k, kvs, s, rfl, hlitt, ek3, hks, fun s' e => ?_, fun f e => ?_⟩
        · rw [e] at hw2
          obtain ⟨hn, h24, rfl⟩ := leafW_ok e
          (conv => whnf)
          refine ⟨kvs, ek3, kS n, rfl, by rw [hks.len, big_eq]; omega, ?_⟩
          refine ⟨szS r, by show szS r < szS ((Tr.leaf n, pt) :: r); omega, r, ⟨s.names ++ [n], s.met⟩, _, ms, _, _, _, _, rfl, G3.upd hAk, by rw [updA_ne hpk]; exact ep3, updA_same, hks.put hn _, by rw [updA_ne (Ne.symm hkm)]; exact em3, hms, by rw [List.length_append, List.length_singleton]; show s.names.length + 1 ≤ 24; omega, hml, rfl, by omega, hokr, hw2⟩
        · rw [e] at hw2
          exact (h2 f hw2.symm).ext G3
      | node kd ts =>
        have hts : ts ≠ [] := by
          intro z; subst z; cases hsht
        have hsht : (!ts.isEmpty && Tr.shs ts) = true := hsht
        obtain ⟨_, hshs⟩ := (Bool.and_eq_true _ _).mp hsht
        obtain ⟨lk1, lk2⟩ := lkD_node kd hts
        have hw2 : (match (if 24 ≤ pt.length then Except.error Flt.depth else if 60 ≤ s.met then .error .places else Tr.walks ts pt 0 ⟨s.names, s.met + 1⟩) with | .error f => .error f | .ok s' => walkS r s') = T.walk [] ⟨[], 0⟩ := hw2
        refine ⟨fun z => Bool.noConfusion (show false = true from z), fun _ => ?_⟩
        (conv => whnf)
        refine ⟨_, em3, ?_⟩
        (conv => whnf)
        refine ⟨(Tr.node kd ts).d, pt, ms.length, rfl, lk2, fun e => ?_, fun f e => ?_⟩
        · unfold placeW at e
          rw [if_neg (by rw [lk1]; decide)] at e
          have h24 : ¬ 24 ≤ pt.length := by intro z; rw [if_pos z] at e; cases e
          rw [if_neg h24] at e
          have h60 : ¬ 60 ≤ ms.length := by intro z; rw [if_pos z] at e; cases e
          (conv => whnf)
          refine ⟨⟨_, em3⟩, ?_⟩
          (conv => whnf)
          refine ⟨_, em3, by rw [big_eq]; omega, ?_⟩
          have G4 : Ext A (updA A3 m (.lst (ms ++ [pathD pt]))) := G3.upd hAm
          have em4 : updA A3 m (.lst (ms ++ [pathD pt])) m = some (.lst (ms ++ [pathD pt])) := updA_same
          have ek4 : updA A3 m (.lst (ms ++ [pathD pt])) k = some (.dic kvs) := by rw [updA_ne hkm]; exact ek3
          have ep4 : updA A3 m (.lst (ms ++ [pathD pt])) p = some (.lst (r.map tpD).reverse) := by rw [updA_ne hpm]; exact ep3
          generalize updA A3 m (.lst (ms ++ [pathD pt])) = A4 at G4 em4 ek4 ep4
          (conv => whnf)
          refine ⟨_, atI_one', ?_⟩
          (conv => whnf)
          refine ⟨⟨_, ep4⟩, ?_⟩
          have htl : (Tr.ds ts).length = ts.length := by rw [Tr.ds_map, List.length_map]
          have hszt : (Tr.node kd ts).sz = Tr.szs ts + 1 := rfl
          have htl2 := Tr.szs_len ts
          (conv => whnf)
          rw [htl]
          refine ⟨⟨rfl, by omega, by omega, by decide, by decide⟩, ?_⟩
          have e1 : ((ts.length : Int) - 1 - -1).toNat = ts.length := by omega
          refine lc_flR (fun i => D.tup [(ts.getD (ts.length - 1 - i) (.leaf [])).d, pathD (pt ++ [ts.length - 1 - i])]) (by rw [e1, big_eq]; omega) (fun i hi A5 k5 _ G5 hk5 => ?_) ?_
          · rw [e1] at hi
            have e2 : ((ts.length : Int) - 1 - (i : Int)) = ((ts.length - 1 - i : Nat) : Int) := by omega
            have hx : L2.atI (Tr.ds ts) ((ts.length - 1 - i : Nat) : Int) = some (ts.getD (ts.length - 1 - i) (.leaf [])).d := by
              rw [Tr.ds_map, atI_map _ (by omega : ts.length - 1 - i < ts.length), List.getD_eq_getElem?_getD, List.getElem?_eq_getElem (by omega)]; rfl
            show agName 7 (D.int ((ts.length : Int) - 1 - (i : Int))) _ _ _
            rw [e2]
            (conv => whnf)
            refine ⟨fun _ => ?_, fun z => Bool.noConfusion z⟩
            (conv => whnf)
            refine ⟨_, hx, ?_⟩
            (conv => whnf)
            refine ⟨Nat.le_of_ble_eq_true rfl, ?_⟩
            (conv => whnf)
            refine ⟨by show (pt.map _).length + 1 ≤ big; rw [List.length_map, big_eq]; omega, ?_⟩
            (conv => whnf)
            refine ⟨Nat.le_of_ble_eq_true rfl, ?_⟩
            have e3 : pathD (pt ++ [ts.length - 1 - i]) = D.tup (pt.map (fun i => D.int (i : Nat)) ++ [D.int ((ts.length - 1 - i : Nat) : Int)]) := by
              unfold pathD; rw [List.map_append]; rfl
            rw [e3] at hk5
            exact hk5
          · rw [e1, kid_list]
            (conv => whnf)
            refine ⟨_, ep4, by rw [List.length_reverse, List.length_reverse, List.length_map, List.length_map, kidS_len, big_eq]; omega, ?_⟩
            have hwk := walkS_node (k := kd) (ts := ts) (p := pt) (r := r) (s := s) (by omega) (by omega)
            have hsk := szS_kids pt kd ts r
            refine ⟨szS (kidS pt 0 ts ++ r), by show szS (kidS pt 0 ts ++ r) < szS ((Tr.node kd ts, pt) :: r); omega, kidS pt 0 ts ++ r, ⟨s.names, s.met + 1⟩, kvs, ms ++ [pathD pt], _, _, _, _, rfl, G4.upd hp, ?_, by rw [updA_ne (Ne.symm hpk)]; exact ek4, hks, by rw [updA_ne (Ne.symm hpm)]; exact em4, by rw [List.length_append, hms]; rfl, hnl, by show s.met + 1 ≤ 60; omega, rfl, by omega, shs_kids hokr hshs hlitt, hwk.symm.trans hw⟩
            rw [updA_same, List.map_append, List.reverse_append]
        · refine (h2 f ?_).ext G3
          unfold placeW at e
          rw [if_neg (by rw [lk1]; decide), hms] at e
          split at e
          · rename_i h24
            cases e
            rw [if_pos h24] at hw2
            exact hw2.symm
          · rename_i h24
            split at e
            · rename_i h60
              cases e
              rw [if_neg h24, if_pos h60] at hw2
              exact hw2.symm
            · cases e
      | bad d =>
        have hsht : (lkOk d && !isStrD d && !lkD d) = true := hsht
        have b1 : lkOk d = true := by cases e : lkOk d <;> simp [e] at hsht ⊢
        have b2 : isStrD d = false := by cases e : isStrD d <;> simp [e] at hsht ⊢
        have b3 : lkD d = false := by cases e : lkD d <;> simp [e] at hsht ⊢
        have hw2 : Except.error (Flt.tree pt) = T.walk [] ⟨[], 0⟩ := hw2
        refine ⟨fun z => absurd (b2.symm.trans z) (by decide), fun _ => ?_⟩
        (conv => whnf)
        refine ⟨_, em3, ?_⟩
        (conv => whnf)
        refine ⟨d, pt, ms.length, rfl, b1, fun e => ?_, fun f e => ?_⟩
        · unfold placeW at e
          rw [if_pos b3] at e
          cases e
        · unfold placeW at e
          rw [if_pos b3] at e
          cases e
          exact (h2 _ hw2.symm).ext G3
theorem len_check_tree (ds : List D) (A : Ah) (q : D → Ah → Prop) (x : AX) : sp_check_tree ds A q x → ds.length = 1 := by
  rintro ⟨T, rfl, _⟩; rfl
def as__law_some_2 : AS := (aRet (aFrz (aLc (aIter (aVar 3)) (agName 4) aYes (aOp aIx (aVar 1) (aVar 4)) [4])))
def as__law_some : AS := (aSeq (aAsg (aFrz (aBlt aSortedU (aCons (aFrz (aSl (aFrz (aCall sp__law_shuffle (aCons (aVar 0) (aCons (aFrz (aLRng1 (aBlt aLen (aCons (aVar 1) aNil)))) aNil)))) aNoP (aPart (aVar 2)))) aNil))) (agName 3)) as__law_some_2)

theorem pure__law_some (ds : List D) (A : Ah) (q : D → Ah → Prop) (x : AX) : sp__law_some ds A q x → as__law_some (endsA (shr q) x) (startA ["store", "items", "many", "chosen", "k"] ds) A := by
  rintro ⟨l, n, d, xs, many, rfl, S, hn, hd, hx, h⟩
  have rest : ∀ (ns' : List Int) (A1 : Ah), Ext A A1 ∨ True → Go l A A1 (n + xs.length) → (∀ i ∈ ns', 0 ≤ i ∧ i < xs.length) → ns'.Pairwise (· < ·) → ns'.length = min many xs.length → as__law_some_2 (endsA (shr q) x) [some (.ref l), some d, some (.int (many : Nat)), some (.fl (ns'.map D.int)), none] A1 := by
    intro ns' A1 _ G hb hp hl
    (conv => whnf)
    refine lc_fl ns' D.int (fun _ => true) (fun i => xs.getD i.toNat .non) (fun _ _ => by exact trivial) (by have := Nat.min_le_right many xs.length; rw [big_eq]; omega) (fun i hi A' κ sk G' h1 _ => ?_) ?_
    · obtain ⟨b1, b2⟩ := hb i hi
      have hx : L2.atI xs i = some (xs.getD i.toNat .non) := by
        obtain ⟨j, rfl⟩ := toN b1
        have hj : j < xs.length := by omega
        rw [Int.toNat_natCast, List.getD_eq_getElem?_getD, List.getElem?_eq_getElem hj]
        exact atI_of (List.getElem?_eq_getElem hj)
      rcases hd with rfl | rfl
      · (conv => whnf)
        refine ⟨fun _ => ?_, fun z => Bool.noConfusion z⟩
        (conv => whnf)
        exact ⟨_, hx, h1 rfl⟩
      · (conv => whnf)
        refine ⟨fun _ => ?_, fun z => Bool.noConfusion z⟩
        (conv => whnf)
        exact ⟨_, hx, h1 rfl⟩
    · rw [show ns'.filter (fun _ => true) = ns' from List.filter_eq_self.mpr fun _ _ => rfl]
      have hs := sub_idx xs .non (ns'.map Int.toNat) 0 (by
        rw [List.pairwise_map]
        refine hp.imp_of_mem fun {a b} ha hb' hab => ?_
        have := (hb a ha).1
        omega) (fun i hi => by
        obtain ⟨j, hj, rfl⟩ := List.mem_map.mp hi
        have := hb j hj
        exact ⟨Nat.zero_le _, by omega⟩)
      rw [List.map_map, List.drop_zero] at hs
      exact shr_same (h _ A1 hs (by rw [List.length_map, hl]) G)
  have shuf : ∀ (κ : D → Ah → Prop) (xx : AX), (∀ (p : Addr) (ns : List Int) A', ns.Perm ((List.range xs.length).map fun k => ((k : Nat) : Int)) → p ≠ l → A p = none → A' p = some (.lst (ns.map D.int)) → Kp l A A' → St A' l (n + xs.length) → κ (.ref p) A') → sp__law_shuffle [.ref l, .fl ((List.range (xs.length : Int).toNat).map fun k => D.int (k : Nat))] A κ xx := by
    intro κ xx hκ
    refine ⟨l, n, _, _, rfl, S, by omega, .inr (.inr rfl), nofun, by rw [List.length_map, List.length_range]; omega, fun p ys A1 hp hpl hpA ep K1 S1 => ?_⟩
    rw [List.length_map, List.length_range, Int.toNat_natCast] at S1
    rw [Int.toNat_natCast] at hp
    have e : (List.range xs.length).map (fun k => D.int (k : Nat)) = ((List.range xs.length).map fun k => ((k : Nat) : Int)).map D.int := by rw [List.map_map]; rfl
    rw [e] at hp
    obtain ⟨ns, rfl, hns⟩ := perm_ints hp
    exact hκ p ns A1 hns hpl hpA ep K1 S1
  have fin : ∀ (p : Addr) (ns : List Int) (A1 : Ah), ns.Perm ((List.range xs.length).map fun k => ((k : Nat) : Int)) → p ≠ l → A p = none → A1 p = some (.lst (ns.map D.int)) → Kp l A A1 → St A1 l (n + xs.length) →
      aPart (aVar 2) [some (.ref l), some d, some (.int (many : Nat)), none, none] (delA A1 p) (fun h A3 => newL A3 (cutD (ns.map D.int) none h) (frzK fun e A4 => aBlt aSortedU (fun Γ A q x => q [e] A) [some (.ref l), some d, some (.int (many : Nat)), none, none] A4 (frzK fun d' A5 => as__law_some_2 (endsA (shr q) x) [some (.ref l), some d, some (.int (many : Nat)), some d', none] A5) fun _ _ => False)) (fun _ _ => False) := by
    intro p ns A1 hns hpl hpA ep K1 S1
    have G : Go l A (delA A1 p) (n + xs.length) := ⟨K1.del hpA, S1.del hpl⟩
    (conv => whnf)
    refine newL_frz ?_
    rw [cut_map, cut_to]
    (conv => whnf)
    refine .inl ⟨_, rfl, fun ns' hp' ho => newL_frz ?_⟩
    have hsub : ∀ i ∈ ns', i ∈ ns := fun i hi => List.mem_of_mem_take (hp'.mem_iff.mp hi)
    have hnd : ns.Nodup := hns.nodup_iff.mpr (by
      rw [List.Nodup, List.pairwise_map]
      exact List.nodup_range.imp fun h e => h (by omega))
    have hnd' : ns'.Nodup := hp'.nodup_iff.mpr (hnd.sublist (List.take_sublist _ _))
    refine rest ns' _ (.inr trivial) G (fun i hi => ?_) ?_ ?_
    · obtain ⟨k, hk, rfl⟩ := List.mem_map.mp (hns.mem_iff.mp (hsub i hi))
      have := List.mem_range.mp hk
      omega
    · exact (ho.and hnd').imp fun {a b} ⟨h1, h2⟩ => by omega
    · rw [hp'.length_eq, List.length_take, hns.length_eq, List.length_map, List.length_range]
  rcases hd with rfl | rfl
  · (conv => whnf)
    refine ⟨by omega, newL_frz ?_⟩
    refine shuf _ (fun _ _ => False) fun p ns A1 h1 h2 h3 h4 h5 h6 => ?_
    exact ⟨_, h4, fin p ns A1 h1 h2 h3 h4 h5 h6⟩
  · (conv => whnf)
    refine ⟨by omega, newL_frz ?_⟩
    refine shuf _ (fun _ _ => False) fun p ns A1 h1 h2 h3 h4 h5 h6 => ?_
    exact ⟨_, h4, fin p ns A1 h1 h2 h3 h4 h5 h6⟩
theorem len__law_some (ds : List D) (A : Ah) (q : D → Ah → Prop) (x : AX) : sp__law_some ds A q x → ds.length = 3 := by
  rintro ⟨l, n, d, xs, many, rfl, _⟩; rfl
def as__law_tree_11 : AS := (aAsg (aTup (aCons (aCall sp__law_pick (aCons (aVar 0) (aCons (aVar 4) aNil))) (aCons (aTup (aCons (aOp aIx (aVar 2) (aVar 7)) aNil)) aNil))) (agSubL (aVar 2) (aVar 7)))
def as__law_tree_10 : AS := (aSeq (aAsg (aCall sp__law_take (aCons (aVar 0) (aCons (aBlt aLen (aCons (aVar 2) aNil)) aNil))) (agName 7)) as__law_tree_11)
def as__law_tree_28 : AS := (aAsg (aTup (aCons (aCall sp__law_pick (aCons (aVar 0) (aCons (aVar 4) aNil))) (aCons (aTup (aCons (aVar 11) aNil)) aNil))) (agName 11))
def as__law_tree_29 : AS := (aAsg (aOp aAdd (aFrz (aOp aAdd (aFrz (aSl (aVar 2) aNoP (aPart (aVar 10)))) (aLstF (aCons (aVar 11) aNil)))) (aFrz (aSl (aVar 2) (aPart (aOp aAdd (aVar 10) (aVar 9))) aNoP))) (agName 2))
def as__law_tree_26 : AS := (aSeq (aIf (aAndT (aTest (aOp aGt (aVar 6) (aC (.int 0)))) (aTest (aOp aEq (aCall sp__law_take (aCons (aVar 0) (aCons (aC (.int 3)) aNil))) (aC (.int 0))))) (aSeq (aAsg (aOp aSub (aVar 6) (aC (.int 1))) (agName 6)) as__law_tree_28) aNext) as__law_tree_29)
def as__law_tree_25 : AS := (aSeq (aAsg (aTup (aCons (aCall sp__law_pick (aCons (aVar 0) (aCons (aVar 4) aNil))) (aCons (aBlt aTuple (aCons (aFrz (aSl (aVar 2) (aPart (aVar 10)) (aPart (aOp aAdd (aVar 10) (aVar 9))))) aNil)) aNil))) (agName 11)) as__law_tree_26)
def as__law_tree_23 : AS := (aSeq (aIf (aTest (aOp aEq (aVar 3) (aC (.int 3)))) (aAsg (aOp aSub (aBlt aLen (aCons (aVar 2) aNil)) (aVar 9)) (agName 10)) aNext) as__law_tree_25)
def as__law_tree_21 : AS := (aSeq (aIf (aTest (aOp aEq (aVar 3) (aC (.int 2)))) (aAsg (aC (.int 0)) (agName 10)) aNext) as__law_tree_23)
def as__law_tree_20 : AS := (aSeq (aAsg (aCall sp__law_take (aCons (aVar 0) (aCons (aOp aAdd (aOp aSub (aBlt aLen (aCons (aVar 2) aNil)) (aVar 9)) (aC (.int 1))) aNil))) (agName 10)) as__law_tree_21)
def as__law_tree_18 : AS := (aSeq (aIf (aTest (aOp aEq (aVar 3) (aC (.int 1)))) (aAsg (aOp aAdd (aC (.int 2)) (aCall sp__law_take (aCons (aVar 0) (aCons (aOp aSub (aBlt aLen (aCons (aVar 2) aNil)) (aC (.int 1))) aNil)))) (agName 9)) aNext) as__law_tree_20)
def as__law_tree_16 : AS := (aSeq (aIf (aTest (aOp aEq (aVar 3) (aC (.int 0)))) (aAsg (aBlt aLen (aCons (aVar 2) aNil)) (agName 9)) aNext) as__law_tree_18)
def as__law_tree_15 : AS := (aSeq (aAsg (aOp aAdd (aC (.int 2)) (aCall sp__law_take (aCons (aVar 0) (aCons (aBlt aMin2 (aCons (aC (.int 2)) (aCons (aOp aSub (aBlt aLen (aCons (aVar 2) aNil)) (aC (.int 1))) aNil))) aNil)))) (agName 9)) as__law_tree_16)
def as__law_tree_13 : AS := (aSeq (aIf (aTest (aOp aLt (aBlt aLen (aCons (aVar 2) aNil)) (aC (.int 2)))) aBreak aNext) as__law_tree_15)
def as__law_tree_32 : AS := (aRet (aOp aIx (aVar 2) (aC (.int 0))))
def as__law_tree_30 : AS := (aSeq (aIf (aAndT (aTest (aOp aGt (aVar 6) (aC (.int 0)))) (aTest (aOp aEq (aCall sp__law_take (aCons (aVar 0) (aCons (aC (.int 2)) aNil))) (aC (.int 0))))) (aAsg (aTup (aCons (aCall sp__law_pick (aCons (aVar 0) (aCons (aVar 4) aNil))) (aCons (aTup (aCons (aOp aIx (aVar 2) (aC (.int 0))) aNil)) aNil))) (agSubL (aVar 2) (aC (.int 0)))) aNext) as__law_tree_32)
def as__law_tree_12 : AS := (aSeq (aFor (aRng1 (aCons (aOp aSub (aBlt aLen (aCons (aVar 2) aNil)) (aC (.int 1))) aNil)) (agName 8) as__law_tree_13) as__law_tree_30)
def as__law_tree_8 : AS := (aSeq (aIf (aAndT (aTest (aOp aGt (aVar 6) (aC (.int 0)))) (aTest (aOp aEq (aCall sp__law_take (aCons (aVar 0) (aCons (aC (.int 3)) aNil))) (aC (.int 0))))) (aSeq (aAsg (aOp aSub (aVar 6) (aC (.int 1))) (agName 6)) as__law_tree_10) aNext) as__law_tree_12)
def as__law_tree_7 : AS := (aSeq (aAsg (aBlt aMin2 (aCons (aCall sp__law_take (aCons (aVar 0) (aCons (aC (.int 4)) aNil))) (aCons (aOp aSub (aC (.int 25)) (aBlt aLen (aCons (aVar 2) aNil))) aNil))) (agName 6)) as__law_tree_8)
def as__law_tree_5 : AS := (aSeq (aIf (aTest (aOp aGt (aVar 5) (aC (.int 1)))) (aAsg (aOp aIx (aLstF (aCons (aLstF (aCons (aC (.str (tl "back"))) (aCons (aC (.str (tl "round"))) aNil))) (aCons (aLstF (aCons (aC (.str (tl "first"))) (aCons (aC (.str (tl "back"))) aNil))) (aCons (aLstF (aCons (aC (.str (tl "round"))) (aCons (aC (.str (tl "round"))) (aCons (aC (.str (tl "first"))) aNil)))) aNil)))) (aOp aSub (aVar 5) (aC (.int 2)))) (agName 4)) aNext) as__law_tree_7)
def as__law_tree_4 : AS := (aSeq (aAsg (aCall sp__law_take (aCons (aVar 0) (aCons (aC (.int 5)) aNil))) (agName 5)) as__law_tree_5)
def as__law_tree_3 : AS := (aSeq (aAsg (aLstF (aCons (aC (.str (tl "first"))) (aCons (aC (.str (tl "back"))) (aCons (aC (.str (tl "round"))) aNil)))) (agName 4)) as__law_tree_4)
def as__law_tree_2 : AS := (aSeq (aAsg (aCall sp__law_take (aCons (aVar 0) (aCons (aC (.int 6)) aNil))) (agName 3)) as__law_tree_3)
def as__law_tree : AS := (aSeq (aAsg (aCall sp__law_shuffle (aCons (aVar 0) (aCons (aVar 1) aNil))) (agName 2)) as__law_tree_2)

theorem atI_at {F : List Tr} {j : Nat} (h : j < F.length) : L2.atI (F.map Tr.d) (j : Int) = some F[j].d := atI_map _ h
theorem ixN_at {α : Type} {xs : List α} {j : Nat} (h : j < xs.length) : L2.ixN xs.length (j : Int) = some j := by
  unfold L2.ixN
  rw [if_pos (by omega), if_pos (by omega)]
  rfl
def trI (A : Ah) (l : Addr) (n : Nat) (L Y : List (List Nat)) (F : List Tr) (Ks : List D) (way : Int) (b c : Option D) (i : Nat) (Γ : Gt) (A' : Ah) : Prop := ∃ (p : Addr) (F' : List Tr) (w m : Nat) (d e f g : Option D), Γ = [some (.ref l), some (.tup (L.map D.str)), some (.ref p), some (.int way), some (.fl Ks), b, some (.int (w : Nat)), c, d, e, f, g] ∧ Fo Y F' w ∧ p ≠ l ∧ A' p = some (.lst (F'.map Tr.d)) ∧ A p = none ∧ Go l A A' m ∧ m ≤ n + 60 + 7 * i ∧ F'.length + i ≤ F.length
theorem pure__law_tree (ds : List D) (A : Ah) (q : D → Ah → Prop) (x : AX) : sp__law_tree ds A q x → as__law_tree (endsA (shr q) x) (startA ["store", "lines", "left", "way", "kinds", "menu", "wraps", "at", "k", "wide", "start", "node"] ds) A := by
  rintro ⟨l, n, L, rfl, S0, hn, hne, hl, hnd, hnm, h⟩
  -- behind the loop
  have fin : ∀ (Y : List (List Nat)) (F : List Tr) (p : Addr) (Ks : List D) (w m : Nat) (a b c d e f g : Option D) (A1 : Ah), Y.Perm L → Fo Y F w → F.length ≤ 1 → KindL Ks → p ≠ l → A1 p = some (.lst (F.map Tr.d)) → A p = none → Go l A A1 m → m ≤ n + 250 →
      as__law_tree_30 (endsA (shr q) x) [some (.ref l), some (.tup (L.map D.str)), some (.ref p), a, some (.fl Ks), b, some (.int (w : Nat)), c, d, e, f, g] A1 := by
    intro Y F p Ks w m a b c d e f g A1 hY hF hF1 hK hpl ep hpA G1 hm
    obtain ⟨t, rfl⟩ : ∃ t, F = [t] := by
      cases F with
      | nil => exact absurd rfl hF.ne
      | cons t r => cases r with
        | nil => exact ⟨t, rfl⟩
        | cons _ _ => simp at hF1
    have last : ∀ (u : Tr) (A2 : Ah) (m2 : Nat) (v : Nat) , Fo Y [u] v → A2 p = some (.lst [u.d]) → Go l A A2 m2 → m2 ≤ n + 300 → as__law_tree_32 (endsA (shr q) x) [some (.ref l), some (.tup (L.map D.str)), some (.ref p), a, some (.fl Ks), b, some (.int (w : Nat)), c, d, e, f, g] A2 := by
      intro u A2 m2 v hu e2 G2 hm2
      obtain ⟨h1, h2, h3, h4⟩ := hu.done hY hnd hnm hl
      (conv => whnf)
      exact ⟨_, e2, _, rfl, shr_same (h u A2 h1 h2 h3 h4 (G2.mono hm2))⟩
    (conv => whnf)
    refine ⟨fun hw => ?_, fun _ => ?_⟩
    · have hw := of_decide_eq_true hw
      obtain ⟨w, rfl⟩ : ∃ v, w = v + 1 := ⟨w - 1, by omega⟩
      (conv => whnf)
      refine ⟨l, _, 2, rfl, G1.st, by omega, by decide, fun j A2 j0 j1 K2 S2 => ?_⟩
      have ep2 := K2 _ _ hpl ep
      have G2 := G1.step K2 S2
      (conv => whnf)
      refine ⟨fun _ => ?_, fun _ => ?_⟩
      · (conv => whnf)
        refine ⟨l, _, _, _, rfl, G2.st, by omega, hK.items A2, nofun, hK.1, hK.big, fun y A3 hy K3 S3 => ?_⟩
        obtain ⟨k, rfl⟩ := hK.2.2 y hy
        have ep3 := K3 _ _ hpl ep2
        have G3 := G2.step K3 S3
        (conv => whnf)
        refine ⟨_, ep3, _, rfl, ?_⟩
        (conv => whnf)
        refine ⟨Nat.le_of_ble_eq_true rfl, ?_⟩
        (conv => whnf)
        refine ⟨Nat.le_of_ble_eq_true rfl, ?_⟩
        (conv => whnf)
        refine ⟨_, ep3, 0, rfl, ?_⟩
        exact last (.node k [t]) _ _ w (Fo.wrapAt (F := [t]) hF (j := 0) (by simp) k) updA_same ⟨(G3.kp).upd hpA, G3.st.upd hpl⟩ (by omega)
      · exact last t A2 _ _ hF ep2 G2 (by omega)
    · (conv => whnf)
      refine ⟨fun z => Bool.noConfusion z, fun _ => ?_⟩
      exact last t A1 _ _ hF ep G1 (by omega)
  -- the loop
  have loop : ∀ (Y : List (List Nat)) (F : List Tr) (p : Addr) (Ks : List D) (w m : Nat) (way : Int) (b c d e f g : Option D) (A1 : Ah), Y.Perm L → Fo Y F w → KindL Ks → p ≠ l → A1 p = some (.lst (F.map Tr.d)) → A p = none → Go l A A1 m → m ≤ n + 60 → F.length ≤ 24 →
      as__law_tree_12 (endsA (shr q) x) [some (.ref l), some (.tup (L.map D.str)), some (.ref p), some (.int way), some (.fl Ks), b, some (.int (w : Nat)), c, d, e, f, g] A1 := by
    intro Y F p Ks w m way b c d e f g A1 hY hF hK hpl ep hpA G1 hm hF24
    have hF0 : 0 < F.length := List.length_pos_iff.mpr hF.ne
    (conv => whnf)
    refine ⟨_, ep, ?_⟩
    (conv => whnf)
    rw [List.length_map]
    have Fsame : (F.length : Int) - 1 = ((F.length - 1 : Nat) : Int) := by omega
    refine ⟨by omega, trI A l n L Y F Ks way b c,
      ⟨p, F, w, m, _, _, _, _, rfl, hF, hpl, ep, hpA, G1, by omega, by omega⟩, fun _ _ _ _ _ => trivial, ?_, ?_⟩
    · rintro i Γ A2 (hi : i < ((F.length : Int) - 1).toNat) ⟨p, F', w, m, d, e, f, g, rfl, hF', hpl, ep, hpA, G2, hm2, hlen⟩
      have hF'0 : 0 < F'.length := List.length_pos_iff.mpr hF'.ne
      have hi24 : i < 24 := by omega
      have turn : ∀ E : AEnds, (∀ Γ A', trI A l n L Y F Ks way b c (i + 1) Γ A' → E.nx Γ A') → (∀ Γ A', as__law_tree_30 (endsA (shr q) x) Γ A' → E.bk Γ A') → as__law_tree_13 E [some (.ref l), some (.tup (L.map D.str)), some (.ref p), some (.int way), some (.fl Ks), b, some (.int (w : Nat)), c, some (.int (0 + (i : Int))), e, f, g] A2 := by
       intro E hnx hbk
       (conv => whnf)
       refine ⟨_, ep, ?_⟩
       (conv => whnf)
       rw [List.length_map]
       refine ⟨fun h2 => ?_, fun h2 => ?_⟩
       · have h2 := of_decide_eq_true h2
         exact hbk _ _ <| fin Y F' p Ks w m _ _ _ _ _ _ _ A2 hY hF' (by omega) hK hpl ep hpA G2 (by omega)
       have h2 := of_decide_eq_false h2
       have h2 : 2 ≤ F'.length := by omega
       (conv => whnf)
       refine ⟨_, ep, ?_⟩
       (conv => whnf)
       rw [List.length_map]
       refine ⟨l, _, _, rfl, G2.st, by omega, by split <;> omega, fun j A3 j0 j1 K3 S3 => ?_⟩
       have ep := K3 _ _ hpl ep
       have G3 := G2.step K3 S3
       obtain ⟨j, rfl⟩ := toN j0
       have hj : 2 + j ≤ F'.length := by split at j1 <;> omega
       -- the width is known
       have s18 : ∀ (wd : Nat) (A4 : Ah) (m4 : Nat), 2 ≤ wd → wd ≤ F'.length → A4 p = some (.lst (F'.map Tr.d)) → Go l A A4 m4 → m4 ≤ m + 2 → ∀ f g : Option D, as__law_tree_20 E
           [some (.ref l), some (.tup (L.map D.str)), some (.ref p), some (.int way), some (.fl Ks), b, some (.int (w : Nat)), c, some (.int (0 + (i : Int))), some (.int (wd : Nat)), f, g] A4 := by
         intro wd A4 m4 hw2 hwl ep G4 hm4 f g
         (conv => whnf)
         refine ⟨_, ep, ?_⟩
         (conv => whnf)
         rw [List.length_map]
         refine ⟨l, _, _, rfl, G4.st, by omega, by omega, fun j A5 j0 j1 K5 S5 => ?_⟩
         have ep := K5 _ _ hpl ep
         have G5 := G4.step K5 S5
         obtain ⟨j, rfl⟩ := toN j0
         have hj : j + wd ≤ F'.length := by omega
         -- the start is known
         have s25 : ∀ (st : Nat), st + wd ≤ F'.length → ∀ g : Option D, as__law_tree_25 E
             [some (.ref l), some (.tup (L.map D.str)), some (.ref p), some (.int way), some (.fl Ks), b, some (.int (w : Nat)), c, some (.int (0 + (i : Int))), some (.int (wd : Nat)), some (.int (st : Nat)), g] A5 := by
           intro st hst g
           (conv => whnf)
           refine ⟨l, _, _, _, rfl, G5.st, by omega, hK.items A5, nofun, hK.1, hK.big, fun y A6 hy K6 S6 => ?_⟩
           obtain ⟨k, rfl⟩ := hK.2.2 y hy
           have ep := K6 _ _ hpl ep
           have G6 := G5.step K6 S6
           (conv => whnf)
           refine ⟨_, ep, newL_frz ?_⟩
           (conv => whnf)
           refine ⟨Nat.le_of_ble_eq_true rfl, ?_⟩
           have e1 : cutD (F'.map Tr.d) (some (st : Int)) (some ((st : Int) + (wd : Int))) = Tr.ds ((F'.drop st).take wd) := by
             rw [show ((st : Int) + (wd : Int)) = ((st + wd : Nat) : Int) by omega, cut_map, cut_mid, Tr.ds_map, Nat.add_sub_cancel_left]
           rw [e1]
           -- the node is made
           have s29 : ∀ (nd : Tr) (w' : Nat) (A7 : Ah) (m7 : Nat), Fo Y (F'.take st ++ [nd] ++ F'.drop (st + wd)) w' → A7 p = some (.lst (F'.map Tr.d)) → Go l A A7 m7 → m7 ≤ m + 6 → as__law_tree_29 E
               [some (.ref l), some (.tup (L.map D.str)), some (.ref p), some (.int way), some (.fl Ks), b, some (.int (w' : Nat)), c, some (.int (0 + (i : Int))), some (.int (wd : Nat)), some (.int (st : Nat)), some nd.d] A7 := by
             intro nd w' A7 m7 hFo ep G7 hm7
             (conv => whnf)
             refine ⟨_, ep, newL_frz ?_⟩
             (conv => whnf)
             refine ⟨Nat.le_of_ble_eq_true rfl, ?_⟩
             rw [cut_map, cut_to]
             refine ⟨by rw [List.length_map, List.length_take, List.length_singleton, big_eq]; omega, newL_frz ?_⟩
             (conv => whnf)
             refine ⟨_, ep, newL_frz ?_⟩
             rw [show ((st : Int) + (wd : Int)) = ((st + wd : Nat) : Int) by omega, cut_map, cut_from]
             (conv => whnf)
             refine ⟨by rw [List.length_append, List.length_map, List.length_take, List.length_singleton, List.length_map, List.length_drop, big_eq]; omega, fun r hr => ?_⟩
             have hrl := G7.st.ne hr
             refine hnx _ _ ⟨r, F'.take st ++ [nd] ++ F'.drop (st + wd), w', m7, _, _, _, _, rfl, hFo, hrl, by rw [updA_same, List.map_append, List.map_append]; rfl, G7.kp.none hr hrl, G7.ext (.new hr), by omega, ?_⟩
             rw [List.length_append, List.length_append, List.length_take, List.length_drop, List.length_singleton]
             omega
           have hjn := hF'.joinAt hw2 hst k
           have hbig : (D.tup (Tr.ds ((F'.drop st).take wd))) = D.tup (Tr.ds ((F'.drop st).take wd)) := rfl
           (conv => whnf)
           refine ⟨fun hw => ?_, fun _ => ?_⟩
           · have hw := of_decide_eq_true hw
             obtain ⟨w, rfl⟩ : ∃ v, w = v + 1 := ⟨w - 1, by omega⟩
             (conv => whnf)
             refine ⟨l, _, 3, rfl, G6.st, by omega, by decide, fun j3 A7 _ _ K7 S7 => ?_⟩
             have ep := K7 _ _ hpl ep
             have G7 := G6.step K7 S7
             (conv => whnf)
             refine ⟨fun _ => ?_, fun _ => ?_⟩
             · (conv => whnf)
               refine ⟨l, _, _, _, rfl, G7.st, by omega, hK.items A7, nofun, hK.1, hK.big, fun y A8 hy K8 S8 => ?_⟩
               obtain ⟨k2, rfl⟩ := hK.2.2 y hy
               have ep := K8 _ _ hpl ep
               have G8 := G7.step K8 S8
               (conv => whnf)
               refine ⟨Nat.le_of_ble_eq_true rfl, ?_⟩
               (conv => whnf)
               refine ⟨Nat.le_of_ble_eq_true rfl, ?_⟩
               have ew : (((w + 1 : Nat) : Int) - 1) = ((w : Nat) : Int) := by omega
               rw [ew]
               exact s29 (.node k2 [.node k ((F'.drop st).take wd)]) w A8 _ (hjn.wrap k2) ep G8 (by omega)
             · exact s29 (.node k ((F'.drop st).take wd)) (w + 1) A7 _ hjn ep G7 (by omega)
           · (conv => whnf)
             refine ⟨fun z => Bool.noConfusion z, fun _ => ?_⟩
             exact s29 (.node k ((F'.drop st).take wd)) w A6 _ hjn ep G6 (by omega)
         (conv => whnf)
         refine ⟨fun _ => ?_, fun _ => ?_⟩
         · (conv => whnf)
           refine ⟨fun _ => ?_, fun _ => ?_⟩
           · (conv => whnf)
             refine ⟨_, ep, ?_⟩
             (conv => whnf)
             rw [List.length_map, show ((F'.length : Int) - (wd : Int)) = ((F'.length - wd : Nat) : Int) by omega]
             exact s25 _ (by omega) _
           · exact s25 0 (by omega) _
         · (conv => whnf)
           refine ⟨fun _ => ?_, fun _ => ?_⟩
           · (conv => whnf)
             refine ⟨_, ep, ?_⟩
             (conv => whnf)
             rw [List.length_map, show ((F'.length : Int) - (wd : Int)) = ((F'.length - wd : Nat) : Int) by omega]
             exact s25 _ (by omega) _
           · exact s25 j hj _
       -- the width
       have way1 : ∀ (wd : Option D) (f g : Option D), aSeq (aAsg (aOp aAdd (aC (.int 2)) (aCall sp__law_take (aCons (aVar 0) (aCons (aOp aSub (aBlt aLen (aCons (aVar 2) aNil)) (aC (.int 1))) aNil)))) (agName 9)) as__law_tree_20 E [some (.ref l), some (.tup (L.map D.str)), some (.ref p), some (.int way), some (.fl Ks), b, some (.int (w : Nat)), c, some (.int (0 + (i : Int))), wd, f, g] A3 := by
        intro wd f g
        (conv => whnf)
        refine ⟨_, ep, ?_⟩
        (conv => whnf)
        rw [List.length_map]
        refine ⟨l, _, _, rfl, G3.st, by omega, by omega, fun j' A5 j0 j1 K5 S5 => ?_⟩
        have ep := K5 _ _ hpl ep
        have G5 := G3.step K5 S5
        obtain ⟨j', rfl⟩ := toN j0
        (conv => whnf)
        rw [show (2 + (j' : Int)) = ((2 + j' : Nat) : Int) by omega]
        exact s18 (2 + j') A5 _ (by omega) (by omega) ep G5 (by omega) _ _
       (conv => whnf)
       refine ⟨fun _ => ?_, fun _ => ?_⟩
       · (conv => whnf)
         refine ⟨_, ep, ?_⟩
         (conv => whnf)
         rw [List.length_map]
         refine ⟨fun _ => ?_, fun _ => ?_⟩
         · exact way1 _ _ _
         · exact s18 F'.length A3 _ h2 (Nat.le_refl _) ep G3 (by omega) _ _
       · (conv => whnf)
         refine ⟨fun _ => ?_, fun _ => ?_⟩
         · exact way1 _ _ _
         · rw [show (2 + (j : Int)) = ((2 + j : Nat) : Int) by omega]
           exact s18 (2 + j) A3 _ (by omega) hj ep G3 (by omega) _ _
      exact turn _ (fun _ _ h => h) (fun _ _ h => h)
    · rintro Γ A2 ⟨p, F', w, m, d, e, f, g, rfl, hF', hpl, ep, hpA, G2, hm2, hlen⟩
      have hlen : F'.length + ((F.length : Int) - 1).toNat ≤ F.length := hlen
      have hm2 : m ≤ n + 60 + 7 * ((F.length : Int) - 1).toNat := hm2
      exact fin Y F' p Ks w m _ _ _ _ _ _ _ A2 hY hF' (by omega) hK hpl ep hpA G2 (by omega)
  (conv => whnf)
  refine ⟨l, n, _, _, rfl, S0, by omega, .inr (.inl rfl), nofun, by rw [List.length_map]; omega, fun p ys A1 hp hpl hpA ep K1 S1 => ?_⟩
  obtain ⟨Y, rfl, hY⟩ := perm_strs hp
  have hYl : Y.length = L.length := hY.length_eq
  have hYne : Y ≠ [] := by intro z; subst z; rw [List.length_nil] at hYl; exact hne (List.eq_nil_of_length_eq_zero hYl.symm)
  rw [List.length_map] at S1
  have G1 := (Go.start S0).step K1 S1
  have ep : A1 p = some (.lst ((Y.map Tr.leaf).map Tr.d)) := by rw [ep, List.map_map]; rfl
  (conv => whnf)
  refine ⟨l, _, 6, rfl, G1.st, by omega, by decide, fun way A2 _ _ K2 S2 => ?_⟩
  have ep := K2 _ _ hpl ep
  have G2 := G1.step K2 S2
  (conv => whnf)
  refine ⟨Nat.le_of_ble_eq_true rfl, ?_⟩
  (conv => whnf)
  refine ⟨l, _, 5, rfl, G2.st, by omega, by decide, fun menu A3 m0 m1 K3 S3 => ?_⟩
  have ep := K3 _ _ hpl ep
  have G3 := G2.step K3 S3
  -- the kinds are known
  have s7 : ∀ Ks, KindL Ks → as__law_tree_7 (endsA (shr q) x) [some (.ref l), some (.tup (L.map D.str)), some (.ref p), some (.int way), some (.fl Ks), some (.int menu), none, none, none, none, none, none] A3 := by
    intro Ks hK
    (conv => whnf)
    refine ⟨l, _, 4, rfl, G3.st, by omega, by decide, fun v A4 v0 v1 K4 S4 => ?_⟩
    have ep := K4 _ _ hpl ep
    have G4 := G3.step K4 S4
    obtain ⟨v, rfl⟩ := toN v0
    (conv => whnf)
    refine ⟨_, ep, ?_⟩
    (conv => whnf)
    rw [List.length_map, List.length_map]
    obtain ⟨w, hw, hw2⟩ : ∃ w : Nat, (if (25 : Int) - (Y.length : Int) < (v : Int) then (25 : Int) - (Y.length : Int) else (v : Int)) = (w : Int) ∧ Y.length + w ≤ 25 := by
      split
      · exact ⟨25 - Y.length, by omega, by omega⟩
      · exact ⟨v, rfl, by omega⟩
    rw [hw]
    have hF := fo_start Y hw2 hYne
    (conv => whnf)
    refine ⟨fun hw => ?_, fun _ => ?_⟩
    · have hw := of_decide_eq_true hw
      obtain ⟨w, rfl⟩ : ∃ v, w = v + 1 := ⟨w - 1, by omega⟩
      (conv => whnf)
      refine ⟨l, _, 3, rfl, G4.st, by omega, by decide, fun j3 A5 _ _ K5 S5 => ?_⟩
      have ep := K5 _ _ hpl ep
      have G5 := G4.step K5 S5
      (conv => whnf)
      refine ⟨fun _ => ?_, fun _ => ?_⟩
      · (conv => whnf)
        refine ⟨_, ep, ?_⟩
        (conv => whnf)
        rw [List.length_map, List.length_map]
        refine ⟨l, _, _, rfl, G5.st, by omega, by omega, fun at_ A6 a0 a1 K6 S6 => ?_⟩
        have ep := K6 _ _ hpl ep
        have G6 := G5.step K6 S6
        obtain ⟨a, rfl⟩ := toN a0
        have hYpos := List.length_pos_iff.mpr hYne
        have ha : a < (Y.map Tr.leaf).length := by rw [List.length_map]; omega
        (conv => whnf)
        refine ⟨l, _, _, _, rfl, G6.st, by omega, hK.items A6, nofun, hK.1, hK.big, fun y A7 hy K7 S7 => ?_⟩
        obtain ⟨k, rfl⟩ := hK.2.2 y hy
        have ep := K7 _ _ hpl ep
        have G7 := G6.step K7 S7
        (conv => whnf)
        refine ⟨_, ep, _, atI_at ha, ?_⟩
        (conv => whnf)
        refine ⟨Nat.le_of_ble_eq_true rfl, ?_⟩
        (conv => whnf)
        refine ⟨Nat.le_of_ble_eq_true rfl, ?_⟩
        (conv => whnf)
        refine ⟨_, ep, a, ixN_at (by rw [List.length_map]; exact ha), ?_⟩
        have ew : (((w + 1 : Nat) : Int) - 1) = ((w : Nat) : Int) := by omega
        rw [ew]
        refine loop Y ((Y.map Tr.leaf).set a (.node k [(Y.map Tr.leaf)[a]])) p Ks w _ way _ _ _ _ _ _ _ hY (hF.wrapAt ha k) hK hpl ?_ hpA ⟨G7.kp.upd hpA, G7.st.upd hpl⟩ (by omega) (by rw [List.length_set, List.length_map]; omega)
        rw [updA_same, List.map_set]
        rfl
      · exact loop Y _ p Ks (w + 1) _ way _ _ _ _ _ _ A5 hY hF hK hpl ep hpA G5 (by omega) (by rw [List.length_map]; omega)
    · (conv => whnf)
      refine ⟨fun z => Bool.noConfusion z, fun _ => ?_⟩
      exact loop Y _ p Ks w _ way _ _ _ _ _ _ A4 hY hF hK hpl ep hpA G4 (by omega) (by rw [List.length_map]; omega)
  (conv => whnf)
  refine ⟨fun hm => ?_, fun _ => s7 _ kinds3⟩
  have hm := of_decide_eq_true hm
  (conv => whnf)
  refine ⟨Nat.le_of_ble_eq_true rfl, ?_⟩
  (conv => whnf)
  refine ⟨Nat.le_of_ble_eq_true rfl, ?_⟩
  (conv => whnf)
  refine ⟨Nat.le_of_ble_eq_true rfl, ?_⟩
  (conv => whnf)
  refine ⟨Nat.le_of_ble_eq_true rfl, ?_⟩
  have : menu = 2 ∨ menu = 3 ∨ menu = 4 := by omega
  rcases this with rfl | rfl | rfl
  · exact ⟨_, rfl, s7 _ kinds2a⟩
  · exact ⟨_, rfl, s7 _ kinds2b⟩
  · exact ⟨_, rfl, s7 _ kinds2c⟩
theorem len__law_tree (ds : List D) (A : Ah) (q : D → Ah → Prop) (x : AX) : sp__law_tree ds A q x → ds.length = 2 := by
  rintro ⟨l, n, L, rfl, _⟩; rfl
def as__law_chain_2 : AS := (aAsg (aTup (aCons (aCall sp__law_pick (aCons (aVar 0) (aCons (aLstF (aCons (aC (.str (tl "first"))) (aCons (aC (.str (tl "back"))) (aCons (aC (.str (tl "round"))) aNil)))) aNil))) (aCons (aTup (aCons (aVar 2) aNil)) aNil))) (agName 2))
def as__law_chain : AS := (aSeq (aFor (aRng1 (aCons (aVar 1) aNil)) (agName 3) as__law_chain_2) (aRet (aVar 2)))

theorem chainT_snoc (ks : List Kd) (k : Kd) (t : Tr) : chainT (ks ++ [k]) t = .node k [chainT ks t] := by unfold chainT; rw [List.foldl_append]; rfl
theorem pure__law_chain (ds : List D) (A : Ah) (q : D → Ah → Prop) (x : AX) : sp__law_chain ds A q x → as__law_chain (endsA (shr q) x) (startA ["store", "many", "nest", "k"] ds) A := by
  rintro ⟨l, n, many, t, rfl, S, hn, hm, h⟩
  (conv => whnf)
  refine ⟨by omega, fun i Γ A' => ∃ (ks : List Kd) (a : Option D), Γ = [some (.ref l), some (.int (many : Nat)), some (chainT ks t).d, a] ∧ ks.length = i ∧ Go l A A' (n + i), ⟨[], _, rfl, rfl, Go.start S⟩, fun _ _ _ _ _ => trivial, ?_, ?_⟩
  · rintro i Γ A1 (hi : i < (many : Int).toNat) ⟨ks, a, rfl, hks, G⟩
    (conv => whnf)
    refine ⟨by decide, ?_⟩
    refine ⟨l, _, _, _, rfl, G.st, by omega, kinds3.items A1, nofun, kinds3.1, kinds3.big, fun y A2 hy K2 S2 => ?_⟩
    obtain ⟨k, rfl⟩ := kinds3.2.2 y hy
    (conv => whnf)
    refine ⟨Nat.le_of_ble_eq_true rfl, ?_⟩
    (conv => whnf)
    refine ⟨Nat.le_of_ble_eq_true rfl, ?_⟩
    refine ⟨ks ++ [k], some (.int (0 + (i : Int))), ?_, by rw [List.length_append, hks]; rfl, G.step K2 S2⟩
    rw [chainT_snoc]; rfl
  · rintro Γ A1 ⟨ks, a, rfl, hks, G⟩
    have hks : ks.length = (many : Int).toNat := hks
    have G : Go l A A1 (n + (many : Int).toNat) := G
    rw [Int.toNat_natCast] at hks G
    exact shr_same (h ks A1 hks G)
theorem len__law_chain (ds : List D) (A : Ah) (q : D → Ah → Prop) (x : AX) : sp__law_chain ds A q x → ds.length = 3 := by
  rintro ⟨l, n, many, t, rfl, _⟩; rfl
def as__law_names_6 : AS := (aIf (aTest (aOp aEq (aVar 3) (aC (.int 0)))) (aDrop (aMethL aAppend (aVar 5) (aCons (aOp aIx (aVar 2) (aOp aAdd (aOp aMod (aVar 4) (aC (.int 3))) (aVar 6))) aNil))) (aIf (aTest (aOp aEq (aVar 3) (aC (.int 1)))) (aDrop (aMethL aAppend (aVar 5) (aCons (aOp aAdd (aC (.str (tl "w"))) (aBlt aStr (aCons (aOp aAdd (aVar 4) (aOp aMul (aC (.int 7)) (aVar 6))) aNil))) aNil))) (aIf (aTest (aOp aEq (aVar 3) (aC (.int 2)))) (aDrop (aMethL aAppend (aVar 5) (aCons (aOp aAdd (aOp aAdd (aSl (aC (.str (tl "mmmmmmmmmmm"))) aNoP (aPart (aVar 4))) (aOp aIx (aVar 2) (aVar 6))) (aSl (aC (.str (tl "mmmmmmmmmmm"))) (aPart (aVar 4)) aNoP)) aNil))) (aDrop (aMethL aAppend (aVar 5) (aCons (aOp aAdd (aOp aAdd (aOp aAdd (aCall sp__law_pick (aCons (aVar 0) (aCons (aVar 2) aNil))) (aBlt aStr (aCons (aCall sp__law_take (aCons (aVar 0) (aCons (aOp aPow (aC (.int 10)) (aC (.int 6))) aNil))) aNil))) (aC (.str (tl ".")))) (aOp aIx (aVar 2) (aVar 6))) aNil))))))
def as__law_names_14 : AS := (aRet (aBlt aTuple (aCons (aFrz (aBlt aSortedU (aCons (aVar 5) aNil))) aNil)))
def as__law_names_5 : AS := (aSeq (aFor (aRng1 (aCons (aVar 1) aNil)) (agName 6) as__law_names_6) as__law_names_14)
def as__law_names_4 : AS := (aSeq (aAsg (aLst aNil) (agName 5)) as__law_names_5)
def as__law_names_3 : AS := (aSeq (aAsg (aCall sp__law_take (aCons (aVar 0) (aCons (aC (.int 12)) aNil))) (agName 4)) as__law_names_4)
def as__law_names_2 : AS := (aSeq (aAsg (aCall sp__law_take (aCons (aVar 0) (aCons (aC (.int 4)) aNil))) (agName 3)) as__law_names_3)
def as__law_names : AS := (aSeq (aAsg (aC (.str (tl "abcdefghijklmnopqrstuvwxyz"))) (agName 2)) as__law_names_2)

theorem pure__law_names (ds : List D) (A : Ah) (q : D → Ah → Prop) (x : AX) : sp__law_names ds A q x → as__law_names (endsA (shr q) x) (startA ["store", "many", "letters", "way", "at", "found", "k"] ds) A := by
  rintro ⟨l, n, many, rfl, S0, hn, hm1, hm24, h⟩
  (conv => whnf)
  refine ⟨l, n, 4, rfl, S0, by omega, by decide, fun w A1 w0 w1 K1 S1 => ?_⟩
  have G1 := (Go.start S0).step K1 S1
  obtain ⟨w, rfl⟩ := toN w0
  (conv => whnf)
  refine ⟨l, _, 12, rfl, G1.st, by omega, by decide, fun a A2 a0 a1 K2 S2 => ?_⟩
  have G2 := G1.step K2 S2
  obtain ⟨a, rfl⟩ := toN a0
  have ha : a < 12 := by omega
  (conv => whnf)
  refine ⟨Nat.le_of_ble_eq_true rfl, fun f hf => ?_⟩
  have hfl := G2.st.ne hf
  have hfA := G2.kp.none hf hfl
  have ef : updA A2 f (.lst []) f = some (.lst []) := updA_same
  have G3 : Go l A (updA A2 f (.lst [])) (n + 2) := (G2.ext (.new hf)).mono (by omega)
  generalize updA A2 f (.lst []) = A3 at ef G3 ⊢
  (conv => whnf)
  refine ⟨by omega, fun i Γ A' => ∃ (F : List (List Nat)) (b : Option D), Γ = [some (.ref l), some (.int (many : Nat)), some (.str lettersD), some (.int (w : Nat)), some (.int (a : Nat)), some (.ref f), b] ∧ F.length = i ∧ (∀ (j : Nat) (c : List Nat), F[j]? = some c → nmP w a j c) ∧ A' f = some (.lst (F.map D.str)) ∧ Go l A A' (n + 2 + 2 * i),
    ⟨[], _, rfl, rfl, nofun, ef, G3⟩, fun _ _ _ _ _ => trivial, ?_, ?_⟩
  · rintro i Γ A4 (hi : i < (many : Int).toNat) ⟨F, b, rfl, hF, hP, ef, G⟩
    have hi : i < many := by omega
    have i24 : i < 24 := by omega
    -- one more
    have next : ∀ (c : List Nat) (A5 : Ah) (m : Nat), nmP w a i c → A5 f = some (.lst (F.map D.str)) → Go l A A5 m → m ≤ n + 2 + 2 * (i + 1) → (F.map D.str).length < big ∧ (∃ (F' : List (List Nat)) (b : Option D), [some (.ref l), some (.int (many : Nat)), some (.str lettersD), some (.int (w : Nat)), some (.int (a : Nat)), some (.ref f), some (.int (0 + (i : Int)))] = [some (.ref l), some (.int (many : Nat)), some (.str lettersD), some (.int (w : Nat)), some (.int (a : Nat)), some (.ref f), b] ∧ F'.length = i + 1 ∧ (∀ (j : Nat) (c : List Nat), F'[j]? = some c → nmP w a j c) ∧ updA A5 f (.lst (F.map D.str ++ [.str c])) f = some (.lst (F'.map D.str)) ∧ Go l A (updA A5 f (.lst (F.map D.str ++ [.str c]))) (n + 2 + 2 * (i + 1))) := by
      intro c A5 m hc e5 G5 hm
      refine ⟨by rw [List.length_map, big_eq]; omega, F ++ [c], _, rfl, by rw [List.length_append, hF]; rfl, fun j c' hj => ?_, by rw [updA_same, List.map_append]; rfl, (⟨G5.kp.upd hfA, G5.st.upd hfl⟩ : Go l A _ m).mono hm⟩
      by_cases e : j < F.length
      · rw [List.getElem?_append_left e] at hj
        exact hP j c' hj
      · have hj2 := (List.getElem?_eq_some_iff.mp hj).1
        rw [List.length_append, List.length_singleton] at hj2
        have : j = F.length := by omega
        subst this
        rw [List.getElem?_append_right (Nat.le_refl _), Nat.sub_self] at hj
        cases hj
        rw [hF]; exact hc
    have hw4 : w = 0 ∨ w = 1 ∨ w = 2 ∨ w = 3 := by omega
    rcases hw4 with rfl | rfl | rfl | rfl
    · (repeat ((conv => whnf); first | (refine ⟨?_, fun _ => ?_⟩; · (intro z; cases z)) | (refine ⟨fun _ => ?_, ?_⟩; rotate_left; · (intro z; cases z)) | (refine ⟨?_, fun _ => ?_⟩; · (intro z; exact absurd z (by decide))) | (refine ⟨fun _ => ?_, ?_⟩; rotate_left; · (intro z; exact absurd z (by decide)))))
      refine ⟨⟨_, ef⟩, ?_⟩
      have e1 : ((a : Int) % 3 + (0 + (i : Int))) = ((a % 3 + i : Nat) : Int) := by omega
      (conv => whnf)
      refine ⟨by decide, ?_⟩
      (conv => whnf)
      rw [e1]
      refine ⟨by decide, _, letN_at (by omega), ?_⟩
      obtain ⟨n1, n2⟩ := next [letN (a % 3 + i)] A4 _ (.inl ⟨rfl, rfl⟩) ef G (by omega)
      (conv => whnf)
      exact ⟨_, ef, n1, n2⟩
    · (repeat ((conv => whnf); first | (refine ⟨?_, fun _ => ?_⟩; · (intro z; cases z)) | (refine ⟨fun _ => ?_, ?_⟩; rotate_left; · (intro z; cases z)) | (refine ⟨?_, fun _ => ?_⟩; · (intro z; exact absurd z (by decide))) | (refine ⟨fun _ => ?_, ?_⟩; rotate_left; · (intro z; exact absurd z (by decide)))))
      refine ⟨⟨_, ef⟩, ?_⟩
      (conv => whnf)
      refine ⟨small128 (by decide) (by decide), small128 (by omega) (by omega), ?_⟩
      have e1 : ((a : Int) + 7 * (0 + (i : Int))) = ((a + 7 * i : Nat) : Int) := by omega
      (conv => whnf)
      rw [e1]
      refine ⟨log_small _ (by omega), ?_⟩
      (conv => whnf)
      have hl := dec_len (k := a + 7 * i) (m := 3) (by decide) (by omega)
      refine ⟨by show 1 + (decN _).length ≤ big; rw [big_eq]; omega, ?_⟩
      obtain ⟨n1, n2⟩ := next (119 :: decN (a + 7 * i : Nat)) A4 _ (.inr (.inl ⟨rfl, rfl⟩)) ef G (by omega)
      (conv => whnf)
      exact ⟨_, ef, n1, n2⟩
    · (repeat ((conv => whnf); first | (refine ⟨?_, fun _ => ?_⟩; · (intro z; cases z)) | (refine ⟨fun _ => ?_, ?_⟩; rotate_left; · (intro z; cases z)) | (refine ⟨?_, fun _ => ?_⟩; · (intro z; exact absurd z (by decide))) | (refine ⟨fun _ => ?_, ?_⟩; rotate_left; · (intro z; exact absurd z (by decide)))))
      refine ⟨⟨_, ef⟩, ?_⟩
      (conv => whnf)
      refine ⟨by decide, ?_⟩
      (conv => whnf)
      refine ⟨by decide, ?_⟩
      rw [show (0 + (i : Int)) = (i : Int) from Int.zero_add _]
      refine ⟨_, letN_at (by omega), ?_⟩
      (conv => whnf)
      rw [show tl "mmmmmmmmmmm" = msD from rfl, cut_to]
      have l1 : (msD.take a).length ≤ 11 := by rw [List.length_take]; exact Nat.min_le_right _ _
      refine ⟨by rw [List.length_singleton, big_eq]; omega, ?_⟩
      (conv => whnf)
      refine ⟨by decide, ?_⟩
      (conv => whnf)
      rw [cut_from]
      have l2 := nmP_len a ha i
      rw [List.length_append] at l2
      refine ⟨by rw [big_eq]; omega, ?_⟩
      obtain ⟨n1, n2⟩ := next (msD.take a ++ [letN i] ++ msD.drop a) A4 _ (.inr (.inr (.inl ⟨rfl, rfl⟩))) ef G (by omega)
      (conv => whnf)
      exact ⟨_, ef, n1, n2⟩
    · (repeat ((conv => whnf); first | (refine ⟨?_, fun _ => ?_⟩; · (intro z; cases z)) | (refine ⟨fun _ => ?_, ?_⟩; rotate_left; · (intro z; cases z)) | (refine ⟨?_, fun _ => ?_⟩; · (intro z; exact absurd z (by decide))) | (refine ⟨fun _ => ?_, ?_⟩; rotate_left; · (intro z; exact absurd z (by decide)))))
      refine ⟨⟨_, ef⟩, ?_⟩
      (conv => whnf)
      refine ⟨l, _, .str lettersD, _, rfl, G.st, by omega, .inl ⟨_, rfl, rfl⟩, nofun, by decide, by decide, fun y A5 hy K5 S5 => ?_⟩
      obtain ⟨c, hc, rfl⟩ := List.mem_map.mp hy
      have ef := K5 _ _ hfl ef
      have G5 := G.step K5 S5
      (conv => whnf)
      refine ⟨by decide, ?_⟩
      (conv => whnf)
      refine ⟨l, _, _, rfl, G5.st, by omega, by decide, fun j A6 j0 j1 K6 S6 => ?_⟩
      have ef := K6 _ _ hfl ef
      have G6 := G5.step K6 S6
      obtain ⟨j, rfl⟩ := toN j0
      have j1 : (j : Int) < 1000000 ∨ (j : Int) = 0 := j1
      have hj : j < 1000000 := by omega
      (conv => whnf)
      refine ⟨log_small _ (by omega), ?_⟩
      (conv => whnf)
      have hl := dec_len (k := j) (m := 6) (by decide) hj
      refine ⟨by rw [List.length_singleton, big_eq]; omega, ?_⟩
      (conv => whnf)
      refine ⟨by rw [List.length_append, List.length_singleton, big_eq]; show 1 + (decN _).length + 1 ≤ _; omega, ?_⟩
      (conv => whnf)
      rw [show (0 + (i : Int)) = (i : Int) from Int.zero_add _]
      refine ⟨by decide, _, letN_at (by omega), ?_⟩
      (conv => whnf)
      refine ⟨by rw [List.length_append, List.length_append, List.length_singleton, List.length_singleton, big_eq]; show 1 + (decN _).length + 1 + 1 ≤ _; omega, ?_⟩
      have e9 : [c] ++ decN (j : Nat) ++ tl "." ++ [letN i] = c :: (decN (j : Nat) ++ [46, letN i]) := by
        show [c] ++ decN (j : Nat) ++ [46] ++ [letN i] = _
        simp
      obtain ⟨n1, n2⟩ := next (c :: (decN (j : Nat) ++ [46, letN i])) A6 _ (.inr (.inr (.inr ⟨rfl, c, hc, j, hj, rfl⟩))) ef G6 (by omega)
      (conv => whnf)
      rw [e9]
      exact ⟨_, ef, n1, n2⟩
  · rintro Γ A4 ⟨F, b, rfl, hF, hP, ef, G⟩
    have hF : F.length = (many : Int).toNat := hF
    have G : Go l A A4 (n + 2 + 2 * (many : Int).toNat) := G
    rw [Int.toNat_natCast] at hF G
    obtain ⟨h1, h2, h3⟩ := nmP_all ha (by omega) hP
    (conv => whnf)
    refine ⟨_, ef, .inr ⟨F, rfl, by omega, fun ys hp hs => newL_frz ?_⟩⟩
    rw [srtN_of h1 hp hs]
    (conv => whnf)
    have hp2 := srtN_perm F
    refine ⟨A4, .rfl, h _ A4 (by rw [hp2.length_eq]; exact hF) (srtN_asc h1) (fun c hc => h2 c (hp2.mem_iff.mp hc)) (h3.of fun c hc => hp2.mem_iff.mp hc) (G.mono (by omega))⟩
theorem len__law_names (ds : List D) (A : Ah) (q : D → Ah → Prop) (x : AX) : sp__law_names ds A q x → ds.length = 2 := by
  rintro ⟨l, n, many, rfl, _⟩; rfl
def as__law_leftover_2 : AS := (aIf (aTest (aOp aNiS (aVar 2) (aVar 1))) (aAsg (aCall sp__law_without (aCons (aVar 0) (aCons (aVar 2) aNil))) (agName 0)) aNext)
def as__law_leftover : AS := (aSeq (aFor (aIter (aCall sp__law_order (aCons (aVar 0) aNil))) (agName 2) as__law_leftover_2) (aRet (aVar 0)))

theorem left_step {T u : Tr} {L : List (List Nat)} (hT : T.Ok) {i : Nat} (hi : i < T.lv.length) {n : List Nat} (hn : n ∈ T.lv) (hnL : n ∈ L) (hu : T.stp (fun c => decide (c ∈ L) || decide (c ∉ T.lv.take i)) = some u) :
    (T.lv[i] ∈ L → T.stp (fun c => decide (c ∈ L) || decide (c ∉ T.lv.take (i + 1))) = some u) ∧ (T.lv[i] ∉ L → T.lv[i] ∈ u.lv ∧ ∃ u', u.rem (u.pth T.lv[i]) = some u' ∧ T.stp (fun c => decide (c ∈ L) || decide (c ∉ T.lv.take (i + 1))) = some u') := by
  have ht : T.lv.take (i + 1) = T.lv.take i ++ [T.lv[i]] := by rw [List.take_succ, List.getElem?_eq_getElem hi]; rfl
  have key : ∀ c, decide (c ∉ T.lv.take (i + 1)) = (decide (c ∉ T.lv.take i) && !decide (c = T.lv[i])) := fun c => by
    rw [ht]
    generalize T.lv[i] = c0
    by_cases h1 : c ∈ T.lv.take i <;> by_cases h2 : c = c0 <;> simp [List.mem_append, h1, h2]
  refine ⟨fun h => ?_, fun h => ?_⟩
  · rw [← hu]
    refine Tr.stp_congr fun c _ => ?_
    show (decide (c ∈ L) || decide (c ∉ T.lv.take (i + 1))) = (decide (c ∈ L) || decide (c ∉ T.lv.take i))
    rw [key]
    by_cases hc : c ∈ L
    · rw [decide_eq_true hc]; rfl
    · have : c ≠ T.lv[i] := fun z => hc (z ▸ h)
      rw [decide_eq_false this, Bool.not_false, Bool.and_true]
  · obtain ⟨uk, us, ul⟩ := Tr.stp_ok hT hu
    have hni : T.lv[i] ∉ T.lv.take i := fun m => by
      have hd := hT.nd
      have e : T.lv = T.lv.take i ++ T.lv.drop i := (List.take_append_drop _ _).symm
      rw [e, List.nodup_append] at hd
      exact hd.2.2 _ m _ (by rw [List.drop_eq_getElem_cons hi]; exact List.mem_cons_self) rfl
    have hm : T.lv[i] ∈ u.lv := by
      rw [ul]
      exact List.mem_filter.mpr ⟨List.getElem_mem hi, by simp [hni]⟩
    refine ⟨hm, ?_⟩
    rw [Tr.rem_stp (pth_mem hm) uk.tru us uk.nd]
    have e := Tr.stp_stp (fun c => decide (c ∈ L) || decide (c ∉ T.lv.take i)) (fun c => !decide (c = T.lv[i])) T
    rw [hu] at e
    have e : u.stp (fun c => !decide (c = T.lv[i])) = _ := e
    have hne : n ≠ T.lv[i] := fun z => h (z ▸ hnL)
    obtain ⟨u', hu'⟩ := Tr.stp_some (f := fun c => decide (c ∈ L) || decide (c ∉ T.lv.take (i + 1))) hT hn (by simp [hnL])
    refine ⟨u', ?_, hu'⟩
    rw [e, ← hu']
    refine Tr.stp_congr fun c _ => ?_
    show ((decide (c ∈ L) || decide (c ∉ T.lv.take i)) && !decide (c = T.lv[i])) = (decide (c ∈ L) || decide (c ∉ T.lv.take (i + 1)))
    rw [key]
    by_cases hc : c = T.lv[i]
    · rw [decide_eq_true hc, hc, decide_eq_false h]; simp
    · rw [decide_eq_false hc, Bool.not_false, Bool.and_true, Bool.and_true]
theorem pure__law_leftover (ds : List D) (A : Ah) (q : D → Ah → Prop) (x : AX) : sp__law_leftover ds A q x → as__law_leftover (endsA (shr q) x) (startA ["tree", "lot", "line"] ds) A := by
  rintro ⟨T, w, L, rfl, hT, hs, hw, h⟩
  rw [Tr.stk_stp] at hw
  obtain ⟨wk, ws, wl⟩ := Tr.stp_ok hT hw
  obtain ⟨n, hn⟩ := List.exists_mem_of_ne_nil _ (lv_ne wk.tru ws)
  rw [wl] at hn
  obtain ⟨hn, hnL⟩ := List.mem_filter.mp hn
  have hnL : n ∈ L := of_decide_eq_true hnL
  (conv => whnf)
  refine ⟨T, rfl, hT.tru, by have := hT.sz; omega, ?_⟩
  (conv => whnf)
  refine ⟨fun i Γ A' => A' = A ∧ ∃ (u : Tr) (b : Option D), Γ = [some u.d, some (.tup (L.map D.str)), b] ∧ T.stp (fun c => decide (c ∈ L) || decide (c ∉ T.lv.take i)) = some u,
    ⟨rfl, T, _, rfl, Tr.stp_all hT.tru hs fun c _ => by simp⟩, fun _ _ _ _ _ => trivial, ?_, ?_⟩
  · rintro i Γ A' (hi : i < (T.lv.map D.str).length) ⟨rfl, u, b, rfl, hu⟩
    rw [List.length_map] at hi
    obtain ⟨g1, g2⟩ := left_step hT hi hn hnL hu
    show agName 2 ((T.lv.map D.str).getD i .non) _ _ _
    rw [map_getD _ hi]
    obtain ⟨uk, us, ul⟩ := Tr.stp_ok hT hu
    (conv => whnf)
    refine ⟨rfl, sc_strs L, ?_⟩
    (conv => whnf)
    refine ⟨fun e => ?_, fun e => ?_⟩
    · have hni : T.lv[i] ∉ L := inD_strF.mp (by simpa using e)
      obtain ⟨m, u', h1, h2⟩ := g2 hni
      (conv => whnf)
      exact ⟨u, u', T.lv[i], rfl, uk.tru, by have := uk.sz; omega, m, h1, rfl, u', _, rfl, h2⟩
    · exact ⟨rfl, u, _, rfl, g1 (inD_str.mp (by simpa using e))⟩
  · rintro Γ A' ⟨rfl, u, b, rfl, hu⟩
    have hu : T.stp (fun c => decide (c ∈ L) || decide (c ∉ T.lv.take (T.lv.map D.str).length)) = some u := hu
    rw [List.length_map, List.take_length, Tr.stp_congr (g := fun c => decide (c ∈ L)) fun c hc => (by simp [hc]), hw] at hu
    cases hu
    exact shr_same h
theorem len__law_leftover (ds : List D) (A : Ah) (q : D → Ah → Prop) (x : AX) : sp__law_leftover ds A q x → ds.length = 2 := by
  rintro ⟨T, w, L, rfl, _⟩; rfl
def as_lines_of_2 : AS := (aRet (aBlt aTuple (aCons (aFrz (aBlt aSortedU (aCons (aCall sp_leaves_under (aCons (aVar 0) aNil)) aNil))) aNil)))
def as_lines_of : AS := (aSeq (aDrop (aCall sp_check_tree (aCons (aVar 0) aNil))) as_lines_of_2)

theorem pure_lines_of (ds : List D) (A : Ah) (q : D → Ah → Prop) (x : AX) : sp_lines_of ds A q x → as_lines_of (endsA (shr q) x) (startA ["tree"] ds) A := by
  rintro ⟨T, rfl, hsh, hlit, hsz, h1, h2⟩
  (conv => whnf)
  refine ⟨T, rfl, hsh, hlit, hsz, fun s hs => ?_, h2⟩
  have ok := Tr.ok_of hs
  (conv => whnf)
  refine ⟨T, rfl, ok.tru, hsz, ?_⟩
  (conv => whnf)
  refine .inr ⟨T.lv, rfl, by have := ok.lines; omega, fun ys hp hs2 => newL_frz ?_⟩
  rw [srtN_of ok.nd hp hs2]
  exact shr_same (h1 s hs)
theorem len_lines_of (ds : List D) (A : Ah) (q : D → Ah → Prop) (x : AX) : sp_lines_of ds A q x → ds.length = 1 := by
  rintro ⟨T, rfl, _⟩; rfl
def as__law_lot_10 : AS := (aAsg (aOp aMul (aVar 3) (aC (.int 2))) (agName 3))
def as__law_lot_11 : AS := (aRet (aCall sp__law_lotof (aCons (aVar 1) (aCons (aOp aAdd (aC (.int 1)) (aCall sp__law_take (aCons (aVar 0) (aCons (aOp aSub (aVar 3) (aC (.int 1))) aNil)))) aNil))))
def as__law_lot_9 : AS := (aSeq (aFor (aIter (aVar 1)) (agName 4) as__law_lot_10) as__law_lot_11)
def as__law_lot_8 : AS := (aSeq (aAsg (aC (.int 1)) (agName 3)) as__law_lot_9)
def as__law_lot_6 : AS := (aSeq (aIf (aAndT (aTest (aOp aEq (aVar 2) (aC (.int 2)))) (aTest (aOp aGt (aBlt aLen (aCons (aVar 1) aNil)) (aC (.int 1))))) (aRet (aBlt aTuple (aCons (aCall sp__law_some (aCons (aVar 0) (aCons (aVar 1) (aCons (aC (.int 2)) aNil)))) aNil))) aNext) as__law_lot_8)
def as__law_lot_4 : AS := (aSeq (aIf (aTest (aOp aEq (aVar 2) (aC (.int 1)))) (aRet (aTup (aCons (aCall sp__law_pick (aCons (aVar 0) (aCons (aVar 1) aNil))) aNil))) aNext) as__law_lot_6)
def as__law_lot_2 : AS := (aSeq (aIf (aTest (aOp aEq (aVar 2) (aC (.int 0)))) (aRet (aBlt aTuple (aCons (aVar 1) aNil))) aNext) as__law_lot_4)
def as__law_lot : AS := (aSeq (aAsg (aCall sp__law_take (aCons (aVar 0) (aCons (aC (.int 8)) aNil))) (agName 2)) as__law_lot_2)

theorem sub_strs {ys : List D} {L : List (List Nat)} (h : ys.Sublist (L.map D.str)) : ∃ S : List (List Nat), ys = S.map D.str ∧ S.Sublist L := by
  obtain ⟨S, hS, rfl⟩ := List.sublist_map_iff.mp h
  exact ⟨S, rfl, hS⟩
theorem pure__law_lot (ds : List D) (A : Ah) (q : D → Ah → Prop) (x : AX) : sp__law_lot ds A q x → as__law_lot (endsA (shr q) x) (startA ["store", "lines", "way", "most", "line"] ds) A := by
  rintro ⟨l, n, L, rfl, S0, hn, hne, hl, h⟩
  (conv => whnf)
  refine ⟨l, n, 8, rfl, S0, by omega, by decide, fun w A1 w0 w1 K1 S1 => ?_⟩
  have G1 := (Go.start S0).step K1 S1
  (conv => whnf)
  refine ⟨fun _ => ?_, fun _ => ?_⟩
  · (conv => whnf)
    exact shr_same (h L A1 (List.Sublist.refl _) hne (G1.mono (by omega)))
  (conv => whnf)
  refine ⟨fun _ => ?_, fun _ => ?_⟩
  · (conv => whnf)
    refine ⟨l, _, _, _, rfl, S1, by omega, .inr (.inr (.inl rfl)), nofun, by simpa using hne, by rw [List.length_map, big_eq]; omega, fun y A2 hy K2 S2 => ?_⟩
    obtain ⟨c, hc, rfl⟩ := List.mem_map.mp hy
    (conv => whnf)
    refine ⟨Nat.le_of_ble_eq_true rfl, ?_⟩
    exact shr_same (h [c] A2 (List.singleton_sublist.mpr hc) (by simp) ((G1.step K2 S2).mono (by omega)))
  have rest : ∀ a b : Option D, as__law_lot_8 (endsA (shr q) x) [some (.ref l), some (.tup (L.map D.str)), some (.int w), a, b] A1 := by
    intro a b
    (conv => whnf)
    refine ⟨fun i Γ A' => A' = A1 ∧ ∃ b, Γ = [some (.ref l), some (.tup (L.map D.str)), some (.int w), some (.int (2 ^ i)), b], ⟨rfl, _, rfl⟩, fun _ _ _ _ _ => trivial, ?_, ?_⟩
    · rintro i Γ A' (hi : i < (L.map D.str).length) ⟨rfl, b, rfl⟩
      rw [List.length_map] at hi
      show agName 4 ((L.map D.str).getD i .non) _ _ _
      rw [map_getD _ hi]
      have hp : (2 : Int) ^ i ≤ 2 ^ 24 := by
        have : (2 : Nat) ^ i ≤ 2 ^ 24 := Nat.pow_le_pow_right (by decide) (by omega)
        exact_mod_cast this
      have h0 : (0 : Int) ≤ 2 ^ i := Int.pow_nonneg (by decide)
      have e24 : (2 : Int) ^ 24 = 16777216 := by decide
      (conv => whnf)
      refine ⟨small128 (by omega) (by omega), small128 (by decide) (by decide), ?_⟩
      exact ⟨rfl, _, rfl⟩
    · rintro Γ A' ⟨rfl, b, rfl⟩
      have hL0 : (L.map D.str).length = L.length := List.length_map ..
      have hp : (2 : Int) ^ L.length ≤ 2 ^ 24 := by
        have : (2 : Nat) ^ L.length ≤ 2 ^ 24 := Nat.pow_le_pow_right (by decide) hl
        exact_mod_cast this
      have e24 : (2 : Int) ^ 24 = 16777216 := by decide
      have hp2 : (2 : Int) ≤ 2 ^ L.length := by
        have : (2 : Nat) ^ 1 ≤ 2 ^ L.length := Nat.pow_le_pow_right (by decide) (List.length_pos_iff.mpr hne)
        exact_mod_cast this
      show as__law_lot_11 (endsA (shr q) x) [some (.ref l), some (.tup (L.map D.str)), some (.int w), some (.int (2 ^ (L.map D.str).length)), b] A'
      rw [hL0]
      (conv => whnf)
      refine ⟨l, _, _, rfl, S1, by omega, by omega, fun j A2 j0 j1 K2 S2 => ?_⟩
      (conv => whnf)
      refine ⟨L, 1 + j, rfl, by omega, fun S hs hS => ?_⟩
      exact shr_same (h S A2 hs (hS (by omega) (by omega)) ((G1.step K2 S2).mono (by omega)))
  (conv => whnf)
  refine ⟨fun _ => ?_, fun _ => ?_⟩
  · (conv => whnf)
    rw [List.length_map]
    refine ⟨fun h1 => ?_, fun _ => rest _ _⟩
    have h1 := of_decide_eq_true h1
    (conv => whnf)
    refine ⟨l, _, _, L.map D.str, 2, rfl, S1, by omega, .inl rfl, by rw [List.length_map]; omega, fun ys A2 hs hy G2 => ?_⟩
    obtain ⟨S, rfl, hS⟩ := sub_strs hs
    rw [List.length_map, List.length_map] at hy
    rw [List.length_map] at G2
    (conv => whnf)
    exact shr_same (h S A2 hS (by intro z; subst z; rw [List.length_nil] at hy; omega) ((G1.trans G2).mono (by omega)))
  · (conv => whnf)
    exact ⟨fun z => Bool.noConfusion z, fun _ => rest _ _⟩
theorem len__law_lot (ds : List D) (A : Ah) (q : D → Ah → Prop) (x : AX) : sp__law_lot ds A q x → ds.length = 2 := by
  rintro ⟨l, n, L, rfl, _⟩; rfl
def as__law_edge_7 : AS := (aRet (aTup (aCons (aVar 2) (aCons (aBlt aTuple (aCons (aFrz (aLc (aRng1 (aCons (aC (.int 24)) aNil)) (agName 3) aYes (aOp aAdd (aC (.str (tl "w"))) (aBlt aStr (aCons (aVar 3) aNil))) [3])) aNil)) aNil))))
def as__law_edge_5 : AS := (aSeq (aIf (aTest (aOp aEq (aVar 1) (aC (.int 1)))) (aRet (aTup (aCons (aVar 2) (aCons (aTup (aCons (aCall sp__law_chain (aCons (aVar 0) (aCons (aC (.int 20)) (aCons (aC (.str (tl "b"))) aNil)))) (aCons (aCall sp__law_chain (aCons (aVar 0) (aCons (aC (.int 19)) (aCons (aC (.str (tl "c"))) aNil)))) (aCons (aCall sp__law_chain (aCons (aVar 0) (aCons (aC (.int 20)) (aCons (aC (.str (tl "a"))) aNil)))) aNil)))) aNil)))) aNext) as__law_edge_7)
def as__law_edge_3 : AS := (aSeq (aIf (aTest (aOp aEq (aVar 1) (aC (.int 0)))) (aRet (aCall sp__law_chain (aCons (aVar 0) (aCons (aC (.int 24)) (aCons (aC (.str (tl "a"))) aNil))))) aNext) as__law_edge_5)
def as__law_edge_2 : AS := (aSeq (aAsg (aCall sp__law_pick (aCons (aVar 0) (aCons (aLstF (aCons (aC (.str (tl "first"))) (aCons (aC (.str (tl "back"))) (aCons (aC (.str (tl "round"))) aNil)))) aNil))) (agName 2)) as__law_edge_3)
def as__law_edge : AS := (aSeq (aAsg (aCall sp__law_take (aCons (aVar 0) (aCons (aC (.int 3)) aNil))) (agName 1)) as__law_edge_2)

theorem pure__law_edge (ds : List D) (A : Ah) (q : D → Ah → Prop) (x : AX) : sp__law_edge ds A q x → as__law_edge (endsA (shr q) x) (startA ["store", "way", "kind", "k"] ds) A := by
  rintro ⟨l, n, rfl, S0, hn, h⟩
  (conv => whnf)
  refine ⟨l, n, 3, rfl, S0, by omega, by decide, fun w A1 w0 w1 K1 S1 => ?_⟩
  have G1 := (Go.start S0).step K1 S1
  (conv => whnf)
  refine ⟨Nat.le_of_ble_eq_true rfl, ?_⟩
  (conv => whnf)
  refine ⟨l, _, _, _, rfl, G1.st, by omega, kinds3.items A1, nofun, kinds3.1, kinds3.big, fun y A2 hy K2 S2 => ?_⟩
  obtain ⟨k, rfl⟩ := kinds3.2.2 y hy
  have G2 := G1.step K2 S2
  (conv => whnf)
  refine ⟨fun _ => ?_, fun _ => ?_⟩
  · (conv => whnf)
    refine ⟨l, _, 24, .leaf (tl "a"), rfl, G2.st, by omega, by decide, fun ks A3 hk G3 => ?_⟩
    rw [chainT_R]
    obtain ⟨a, b, c⟩ := edge1 (a := ks.reverse) (by rw [List.length_reverse]; exact hk)
    exact shr_same (h _ A3 a b (by rw [c]; exact nox_edge.1) ((G2.trans G3).mono (by omega)))
  (conv => whnf)
  refine ⟨fun _ => ?_, fun _ => ?_⟩
  · (conv => whnf)
    refine ⟨l, _, 20, .leaf (tl "b"), rfl, G2.st, by omega, by decide, fun k1 A3 h1 G3 => ?_⟩
    (conv => whnf)
    refine ⟨l, _, 19, .leaf (tl "c"), rfl, G3.st, by omega, by decide, fun k2 A4 h2 G4 => ?_⟩
    (conv => whnf)
    refine ⟨l, _, 20, .leaf (tl "a"), rfl, G4.st, by omega, by decide, fun k3 A5 h3 G5 => ?_⟩
    (conv => whnf)
    refine ⟨Nat.le_of_ble_eq_true rfl, ?_⟩
    (conv => whnf)
    refine ⟨Nat.le_of_ble_eq_true rfl, ?_⟩
    rw [chainT_R, chainT_R, chainT_R]
    obtain ⟨a, b, c⟩ := edge3 k (a := k1.reverse) (b := k2.reverse) (c := k3.reverse) (by rw [List.length_reverse]; exact h1) (by rw [List.length_reverse]; exact h2) (by rw [List.length_reverse]; exact h3)
    exact shr_same (h _ A5 a b (by rw [c]; exact nox_edge.2.1) (((G2.trans G3).trans (G4.trans G5)).mono (by omega)))
  · (conv => whnf)
    refine ⟨by decide, lc_flR (fun i => D.str (119 :: decN (i : Nat))) (Nat.le_of_ble_eq_true rfl) (fun i hi A5 k5 _ G5 hk5 => ?_) ?_⟩
    · have hi : i < 24 := hi
      (conv => whnf)
      refine ⟨fun _ => ?_, fun z => Bool.noConfusion z⟩
      (conv => whnf)
      rw [show (0 + (i : Int)) = (i : Int) from Int.zero_add _]
      refine ⟨log_small _ (by omega), ?_⟩
      (conv => whnf)
      have hl := dec_len (k := i) (m := 3) (by decide) (by omega)
      exact ⟨by show 1 + (decN _).length ≤ big; rw [big_eq]; omega, hk5⟩
    · (conv => whnf)
      refine ⟨Nat.le_of_ble_eq_true rfl, ?_⟩
      obtain ⟨a, b, c⟩ := w24 k
      exact shr_same (h _ A2 a b (by rw [c]; exact nox_edge.2.2) (G2.mono (by omega)))
theorem len__law_edge (ds : List D) (A : Ah) (q : D → Ah → Prop) (x : AX) : sp__law_edge ds A q x → ds.length = 1 := by
  rintro ⟨l, n, rfl, _⟩; rfl
def as__law_wrongnest_8 : AS := (aRet (aLstF (aCons (aCall sp__law_put (aCons (aVar 1) (aCons (aVar 4) (aCons (aVar 7) aNil)))) (aCons (aC (.str (tl "BadName"))) (aCons (aTup (aCons (aVar 7) aNil)) aNil)))))
def as__law_wrongnest_11 : AS := (aRet (aLstF (aCons (aCall sp__law_put (aCons (aVar 1) (aCons (aVar 4) (aCons (aVar 8) aNil)))) (aCons (aC (.str (tl "Twice"))) (aCons (aTup (aCons (aVar 8) aNil)) aNil)))))
def as__law_wrongnest_18 : AS := (aRet (aLstF (aCons (aTup (aCons (aVar 5) (aCons (aBlt aTuple (aCons (aVar 9) aNil)) aNil))) (aCons (aC (.str (tl "TooMany"))) (aCons (aTup (aCons (aC (.str (tl "places"))) (aCons (aC (.int 60)) aNil))) aNil)))))
def as__law_wrongnest_22 : AS := (aRet (aLstF (aCons (aCall sp__law_put (aCons (aVar 1) (aCons (aVar 4) (aCons (aCall sp__law_pick (aCons (aVar 0) (aCons (aVar 10) aNil))) aNil)))) (aCons (aC (.str (tl "BadTree"))) (aCons (aTup (aCons (aVar 4) aNil)) aNil)))))
def as__law_wrongnest_21 : AS := (aSeq (aDrop (aMethL aExtendU (aVar 10) (aCons (aLstF (aCons (aTup (aCons (aTup (aCons (aVar 5) (aCons (aTup (aCons (aC (.str (tl "a"))) aNil)) aNil))) aNil)) (aCons (aTup (aCons (aC (.int 0)) (aCons (aTup (aCons (aC (.str (tl "a"))) aNil)) aNil))) (aCons (aTup (aCons (aC (.str (tl "a"))) (aCons (aTup (aCons (aC (.str (tl "b"))) aNil)) aNil))) (aCons (aTup (aCons (aC (.str (tl "round "))) (aCons (aTup (aCons (aC (.str (tl "a"))) aNil)) aNil))) aNil))))) aNil))) as__law_wrongnest_22)
def as__law_wrongnest_20 : AS := (aSeq (aDrop (aMethL aExtendU (aVar 10) (aCons (aLstF (aCons (aTup (aCons (aC (.str (tl "First"))) (aCons (aTup (aCons (aC (.str (tl "a"))) aNil)) aNil))) (aCons (aTup (aCons (aC (.str (tl ""))) (aCons (aTup (aCons (aC (.str (tl "a"))) aNil)) aNil))) (aCons (aTup (aCons (aC .non) (aCons (aTup (aCons (aC (.str (tl "a"))) aNil)) aNil))) (aCons (aTup (aCons (aTup (aCons (aVar 5) aNil)) (aCons (aTup (aCons (aC (.str (tl "a"))) aNil)) aNil))) (aCons (aTup (aCons (aVar 5) (aCons (aC .non) aNil))) (aCons (aTup (aCons (aVar 5) (aCons (aC (.int 0)) aNil))) aNil))))))) aNil))) as__law_wrongnest_21)
def as__law_wrongnest_19 : AS := (aSeq (aAsg (aLst (aCons (aC .non) (aCons (aC (.bl true)) (aCons (aC (.bl false)) (aCons (aC (.int 0)) (aCons (aC (.int 1)) (aCons (aTup aNil) (aCons (aTup (aCons (aVar 5) aNil)) (aCons (aTup (aCons (aVar 5) (aCons (aTup aNil) aNil))) (aCons (aTup (aCons (aVar 5) (aCons (aC (.str (tl "a"))) aNil))) (aCons (aTup (aCons (aVar 5) (aCons (aTup (aCons (aC (.str (tl "a"))) aNil)) (aCons (aTup aNil) aNil)))) (aCons (aTup (aCons (aC (.str (tl "let"))) (aCons (aTup (aCons (aC (.str (tl "a"))) aNil)) aNil))) aNil)))))))))))) (agName 10)) as__law_wrongnest_20)
def as__law_wrongnest_16 : AS := (aSeq (aIf (aTest (aOp aEq (aVar 6) (aC (.int 4)))) (aSeq (aAsg (aFrz (aLc (aIter (aLstF (aCons (aC (.str (tl "a"))) (aCons (aC (.str (tl "b"))) (aCons (aC (.str (tl "c"))) aNil))))) (agName 8) aYes (aCall sp__law_chain (aCons (aVar 0) (aCons (aC (.int 20)) (aCons (aVar 8) aNil)))) [8])) (agName 9)) as__law_wrongnest_18) aNext) as__law_wrongnest_19)
def as__law_wrongnest_14 : AS := (aSeq (aIf (aTest (aOp aEq (aVar 6) (aC (.int 3)))) (aRet (aLstF (aCons (aTup (aCons (aVar 5) (aCons (aBlt aTuple (aCons (aFrz (aLc (aRng1 (aCons (aC (.int 25)) aNil)) (agName 12) aYes (aOp aAdd (aC (.str (tl "w"))) (aBlt aStr (aCons (aVar 12) aNil))) [12])) aNil)) aNil))) (aCons (aC (.str (tl "TooMany"))) (aCons (aTup (aCons (aC (.str (tl "lines"))) (aCons (aC (.int 24)) aNil))) aNil))))) aNext) as__law_wrongnest_16)
def as__law_wrongnest_12 : AS := (aSeq (aIf (aTest (aOp aEq (aVar 6) (aC (.int 2)))) (aRet (aLstF (aCons (aCall sp__law_chain (aCons (aVar 0) (aCons (aC (.int 25)) (aCons (aOp aIx (aOp aIx (aVar 2) (aC (.int 0))) (aC (.int 0))) aNil)))) (aCons (aC (.str (tl "TooMany"))) (aCons (aTup (aCons (aC (.str (tl "depth"))) (aCons (aC (.int 24)) aNil))) aNil))))) aNext) as__law_wrongnest_14)
def as__law_wrongnest_9 : AS := (aSeq (aIf (aAndT (aTest (aOp aEq (aVar 6) (aC (.int 1)))) (aTest (aOp aGt (aVar 3) (aC (.int 0))))) (aSeq (aAsg (aOp aIx (aOp aIx (aVar 2) (aCall sp__law_take (aCons (aVar 0) (aCons (aVar 3) aNil)))) (aC (.int 0))) (agName 8)) as__law_wrongnest_11) aNext) as__law_wrongnest_12)
def as__law_wrongnest_6 : AS := (aSeq (aIf (aTest (aOp aEq (aVar 6) (aC (.int 0)))) (aSeq (aAsg (aCall sp__law_pick (aCons (aVar 0) (aCons (aLstF (aCons (aC (.str (tl ""))) (aCons (aC (.str (tl "first"))) (aCons (aC (.str (tl "let"))) (aCons (aC (.str (tl "9a"))) (aCons (aC (.str (tl "a..b"))) (aCons (aC (.str (tl "a."))) (aCons (aC (.str (tl ".a"))) (aCons (aC (.str (tl "A"))) (aCons (aC (.str (tl "abcdefghijklm"))) (aCons (aC (.str (tl "a b"))) (aCons (aC (.str (tl "a\n"))) (aCons (aC (.str (tl "_"))) aNil))))))))))))) aNil))) (agName 7)) as__law_wrongnest_8) aNext) as__law_wrongnest_9)
def as__law_wrongnest_5 : AS := (aSeq (aAsg (aCall sp__law_take (aCons (aVar 0) (aCons (aC (.int 6)) aNil))) (agName 6)) as__law_wrongnest_6)
def as__law_wrongnest_4 : AS := (aSeq (aAsg (aCall sp__law_pick (aCons (aVar 0) (aCons (aLstF (aCons (aC (.str (tl "first"))) (aCons (aC (.str (tl "back"))) (aCons (aC (.str (tl "round"))) aNil)))) aNil))) (agName 5)) as__law_wrongnest_5)
def as__law_wrongnest_3 : AS := (aSeq (aAsg (aOp aIx (aOp aIx (aVar 2) (aVar 3)) (aC (.int 2))) (agName 4)) as__law_wrongnest_4)
def as__law_wrongnest_2 : AS := (aSeq (aAsg (aCall sp__law_take (aCons (aVar 0) (aCons (aBlt aLen (aCons (aVar 2) aNil)) aNil))) (agName 3)) as__law_wrongnest_3)
def as__law_wrongnest : AS := (aSeq (aAsg (aFrz (aLc (aIter (aCall sp__law_nodes (aCons (aVar 1) aNil))) (agName 11) (aTest (aBlt aIsi (aCons (aOp aIx (aVar 11) (aC (.int 0))) (aCons (aC (.ty "str")) aNil)))) (aVar 11) [11])) (agName 2)) as__law_wrongnest_2)

theorem put_facts : ∀ {t : Tr} {q : List Nat} {v u : Tr}, t.get q = some v → t.sh = true → t.lit → u.sh = true → u.lit → (t.put q u).sh = true ∧ (t.put q u).lit ∧ (t.put q u).sz ≤ t.sz + u.sz
  | t, [], v, u, h, _, _, h1, h2 => by
    have : t.put [] u = u := by cases t <;> rfl
    rw [this]
    exact ⟨h1, h2, Nat.le_add_left _ _⟩
  | .leaf _, _ :: _, _, _, h, _, _, _, _ => by cases h
  | .bad _, _ :: _, _, _, h, _, _, _, _ => by cases h
  | .node k ts, i :: q, v, u, h, s, l, h1, h2 => by
    rw [Tr.get] at h
    cases e : ts[i]? with
    | none => rw [e] at h; cases h
    | some c =>
      rw [e] at h
      have h : c.get q = some v := h
      obtain ⟨hi, ei⟩ := List.getElem?_eq_some_iff.mp e
      have s : (!ts.isEmpty && Tr.shs ts) = true := s
      obtain ⟨s1, s2⟩ := (Bool.and_eq_true _ _).mp s
      have lall : ∀ ts : List Tr, Tr.lits ts ↔ ∀ t ∈ ts, t.lit := fun ts => by
        induction ts with
        | nil => exact ⟨fun _ _ m => (by cases m), fun _ => trivial⟩
        | cons a r ih =>
          refine ⟨fun ⟨x, y⟩ t m => ?_, fun g => ⟨g a List.mem_cons_self, ih.mpr fun t m => g t (List.mem_cons_of_mem _ m)⟩⟩
          rcases List.mem_cons.mp m with rfl | m
          · exact x
          · exact ih.mp y t m
      have cm : c ∈ ts := List.mem_of_getElem? e
      obtain ⟨g1, g2, g3⟩ := put_facts h (Tr.shs_iff.mp s2 c cm) ((lall ts).mp l c cm) h1 h2
      rw [Tr.put_cons e]
      refine ⟨?_, (lall _).mpr fun t m => ?_, ?_⟩
      · show (!(ts.set i (c.put q u)).isEmpty && Tr.shs (ts.set i (c.put q u))) = true
        rw [Tr.shs_iff.mpr fun t m => ?_, Bool.and_true]
        · cases ts with
          | nil => cases cm
          | cons a r => cases i <;> rfl
        · rcases List.mem_or_eq_of_mem_set m with m | rfl
          · exact Tr.shs_iff.mp s2 t m
          · exact g1
      · rcases List.mem_or_eq_of_mem_set m with m | rfl
        · exact (lall ts).mp l t m
        · exact g2
      · obtain ⟨e1, _⟩ := set_split hi c
        obtain ⟨_, e2⟩ := set_split hi (c.put q u)
        have z1 : Tr.szs ts = Tr.szs (ts.take i) + (c.sz + 0) + Tr.szs (ts.drop (i + 1)) := by
          conv => lhs; rw [e1, ei]
          rw [Tr.szs_app, Tr.szs_app]; rfl
        show Tr.szs (ts.set i (c.put q u)) + 1 ≤ Tr.szs ts + 1 + u.sz
        rw [e2, Tr.szs_app, Tr.szs_app, z1]
        show _ + ((c.put q u).sz + 0) + _ + 1 ≤ _
        omega
theorem rows_leaf : ∀ {R : List Nrow} {j : Nat} {r : Nrow}, (R.filter fun r => isLeaf r.1)[j]? = some r → ∃ n par q, r = (.leaf n, par, q) ∧ (R.filterMap leafRow)[j]? = some (n, q)
  | [], _, _, h => by cases h
  | (t, par, p) :: R, j, r, h => by
    cases t with
    | leaf n =>
      rw [List.filter_cons_of_pos (by rfl)] at h
      rw [List.filterMap_cons_some (b := (n, p)) (by rfl)]
      cases j with
      | zero => cases h; exact ⟨n, par, p, rfl, rfl⟩
      | succ j => exact rows_leaf h
    | node k ts =>
      rw [List.filter_cons_of_neg (by exact Bool.false_ne_true)] at h
      rw [List.filterMap_cons_none (by rfl)]
      exact rows_leaf h
    | bad d =>
      rw [List.filter_cons_of_neg (by exact Bool.false_ne_true)] at h
      rw [List.filterMap_cons_none (by rfl)]
      exact rows_leaf h
theorem rows_leaf_len : ∀ R : List Nrow, (R.filter fun r => isLeaf r.1).length = (R.filterMap leafRow).length
  | [] => rfl
  | (t, par, p) :: R => by
    have ih := rows_leaf_len R
    cases t with
    | leaf n => rw [List.filter_cons_of_pos (by rfl), List.filterMap_cons_some (b := (n, p)) (by rfl), List.length_cons, List.length_cons, ih]
    | node k ts => rw [List.filter_cons_of_neg (by exact Bool.false_ne_true), List.filterMap_cons_none (by rfl), ih]
    | bad d => rw [List.filter_cons_of_neg (by exact Bool.false_ne_true), List.filterMap_cons_none (by rfl), ih]
def wrD (Ks : List (List Kd)) : List D := Ks.mapIdx fun i k => (chainT k (.leaf [97 + i])).d
theorem wrD_snoc (Ks : List (List Kd)) (k : List Kd) : wrD (Ks ++ [k]) = wrD Ks ++ [(chainT k (.leaf [97 + Ks.length])).d] := by unfold wrD; rw [List.mapIdx_concat]
theorem pure__law_wrongnest (ds : List D) (A : Ah) (q : D → Ah → Prop) (x : AX) : sp__law_wrongnest ds A q x → as__law_wrongnest (endsA (shr q) x) (startA ["store", "tree", "leaves", "at", "path", "kind", "way", "bad", "name", "three", "found", "row", "k"] ds) A := by
  rintro ⟨l, n, T, rfl, S0, hn, hT, hsh, h⟩
  (conv => whnf)
  refine ⟨T, rfl, hT.tru, by have := hT.sz; omega, ?_⟩
  (conv => whnf)
  refine lc_fl T.rows rowE (fun r => isLeaf r.1) rowE (fun _ _ => by exact trivial) (by rw [rows_len, big_eq]; have := hT.sz; omega) (fun r hr A' κ sk G h1 h2 => ?_) ?_
  · have hrt := rows_tru hT.tru r hr
    obtain ⟨ty, t1, t2⟩ := tyn_vis A' (tr_visT hrt)
    rw [← tru_leaf hrt, ← t2] at h1 h2
    (conv => whnf)
    refine ⟨_, atI_zero', ?_⟩
    (conv => whnf)
    refine ⟨ty, t1, by decide, ?_⟩
    (conv => whnf)
    exact ⟨fun e => h1 e, fun e => h2 e⟩
  generalize hR : T.rows.filter (fun r => isLeaf r.1) = R
  have hRl : R.length = T.lvr.length := by rw [← hR, rows_leaf_len, T.rows_lvr]
  have hLl : T.lvr.length = T.lv.length := by rw [← T.lvr_fst, List.length_map]
  have hR1 : ∀ (j : Nat) (hj : j < R.length), ∃ m par p, R[j] = (.leaf m, par, p) ∧ T.lvr[j]? = some (m, p) := fun j hj => by
    have := rows_leaf (R := T.rows) (j := j) (r := R[j]) (by rw [hR, List.getElem?_eq_getElem hj])
    rwa [T.rows_lvr] at this
  have hR0 : 0 < R.length := by rw [hRl, hLl]; exact List.length_pos_iff.mpr (lv_ne hT.tru hsh)
  have h24 := hT.lines
  (conv => whnf)
  rw [List.length_map]
  refine ⟨l, n, _, rfl, S0, by omega, by omega, fun a A1 a0 a1 K1 S1 => ?_⟩
  have G1 := (Go.start S0).step K1 S1
  obtain ⟨a, rfl⟩ := toN a0
  have ha : a < R.length := by omega
  obtain ⟨m, par, p, e1, e2⟩ := hR1 a ha
  have hg : T.get p = some (.leaf m) := Tr.lvr_get (List.mem_of_getElem? e2)
  have hpl := (get_sz hg).2
  have hTz := hT.sz
  -- a leaf replaced
  have swp : ∀ (u : Tr) (f : Flt), u.sh = true → u.lit → u.sz ≤ 100 → (∀ (N : List (List Nat)) (k : Nat), N = (T.lvr.take a).map (·.1) → u.walk p ⟨N, k⟩ = .error f) → (T.put p u).sh = true ∧ (T.put p u).lit ∧ (T.put p u).sz ≤ 1000 ∧ (T.put p u).walk [] ⟨[], 0⟩ = .error f := by
    intro u f hu hl hz hw
    obtain ⟨g1, g2, g3⟩ := put_facts hg hsh hT.lit hu hl
    refine ⟨g1, g2, by omega, Tr.walk_put (X := T.lvr.take a) (Y := T.lvr.drop (a + 1)) (n := m) hT.walk ?_ fun k => hw _ k rfl⟩
    obtain ⟨hi, e⟩ := List.getElem?_eq_some_iff.mp e2
    rw [← e, ← List.drop_eq_getElem_cons hi, List.take_append_drop]
  (conv => whnf)
  refine ⟨_, atI_map rowE ha, ?_⟩
  rw [e1]
  (conv => whnf)
  refine ⟨_, rfl, ?_⟩
  (conv => whnf)
  refine ⟨Nat.le_of_ble_eq_true rfl, ?_⟩
  (conv => whnf)
  refine ⟨l, _, _, _, rfl, G1.st, by omega, kinds3.items A1, nofun, kinds3.1, kinds3.big, fun y A2 hy K2 S2 => ?_⟩
  obtain ⟨k, rfl⟩ := kinds3.2.2 y hy
  have G2 := G1.step K2 S2
  (conv => whnf)
  refine ⟨l, _, 6, rfl, G2.st, by omega, by decide, fun w A3 w0 w1 K3 S3 => ?_⟩
  have G3 := G2.step K3 S3
  -- what is no tree
  have tend : ∀ (d : D) (A4 : Ah) (m' : Nat) (b c e f g i j : Option D), badD d = true → Go l A A4 m' → m' ≤ n + 90 → q (.fl [(T.put p (.bad d)).d, .str (tl "BadTree"), .tup [pathD p]]) A4 := by
    intro d A4 m' b c e f g i j hd G4 hm
    obtain ⟨g1, g2, g3, g4⟩ := swp (.bad d) (.tree p) hd trivial (by show 1 ≤ 100; omega) fun N k _ => by rw [Tr.walk]
    exact h _ _ A4 g1 g2 g3 g4 (fun p' z => by cases z; omega) (G4.mono (by omega))
  have t19 : ∀ b c e f g i : Option D, as__law_wrongnest_19 (endsA (shr q) x) [some (.ref l), some T.d, some (.fl (R.map rowE)), some (.int (a : Nat)), some (pathD p), some (.str k.cs), some (.int w), b, c, e, f, g, i] A3 := by
    intro b c e f g i
    (repeat ((conv => whnf); refine ⟨Nat.le_of_ble_eq_true rfl, ?_⟩))
    refine fun r hr => ?_
    have hrl := G3.st.ne hr
    have hrA := G3.kp.none hr hrl
    (repeat ((conv => whnf); refine ⟨Nat.le_of_ble_eq_true rfl, ?_⟩))
    refine ⟨⟨_, updA_same⟩, ?_⟩
    (repeat ((conv => whnf); refine ⟨Nat.le_of_ble_eq_true rfl, ?_⟩))
    refine ⟨_, updA_same, Nat.le_of_ble_eq_true rfl, ?_⟩
    rw [updA_updA]
    (conv => whnf)
    refine ⟨⟨_, updA_same⟩, ?_⟩
    (repeat ((conv => whnf); refine ⟨Nat.le_of_ble_eq_true rfl, ?_⟩))
    refine ⟨_, updA_same, Nat.le_of_ble_eq_true rfl, ?_⟩
    rw [updA_updA]
    (conv => whnf)
    refine ⟨l, _, _, _, rfl, (G3.ext (.new hr)).st, by omega, .inr (.inl ⟨r, rfl, updA_same⟩), fun z => ?_, by simp, Nat.le_of_ble_eq_true rfl, fun y A4 hy K4 S4 => ?_⟩
    · cases z; exact hrl rfl
    have G4 := (G3.ext (.new hr)).step K4 S4
    have hb : badD y = true := by
      simp only [List.mem_append, List.mem_cons, List.not_mem_nil, or_false] at hy
      rcases hy with ((rfl | rfl | rfl | rfl | rfl | rfl | rfl | rfl | rfl | rfl | rfl) | (rfl | rfl | rfl | rfl | rfl | rfl)) | (rfl | rfl | rfl | rfl) <;> first | rfl | (cases k <;> rfl)
    (conv => whnf)
    refine ⟨T, p, .leaf m, .bad y, rfl, hg, by omega, ?_⟩
    (repeat ((conv => whnf); refine ⟨Nat.le_of_ble_eq_true rfl, ?_⟩))
    exact shr_same (tend y A4 _ none none none none none none none hb G4 (by omega))
  (conv => whnf)
  refine ⟨fun hw => ?_, fun hw => ?_⟩
  · -- a text that is no name
    (conv => whnf)
    refine ⟨Nat.le_of_ble_eq_true rfl, ?_⟩
    refine ⟨l, _, _, _, rfl, G3.st, by omega, .inr (.inr (.inr rfl)), nofun, by simp, Nat.le_of_ble_eq_true rfl, fun y A4 hy K4 S4 => ?_⟩
    have G4 := G3.step K4 S4
    have t8 : ∀ b : List Nat, isNm b = false → b.length ≤ 20 → ∀ (c e f g i j : Option D), as__law_wrongnest_8 (endsA (shr q) x) [some (.ref l), some T.d, some (.fl (R.map rowE)), some (.int (a : Nat)), some (pathD p), some (.str k.cs), some (.int w), some (.str b), c, e, f, g, i] A4 := by
      intro b hb hbl c e f g i j
      obtain ⟨g1, g2, g3, g4⟩ := swp (.leaf b) (.name b) rfl (by show b.length ≤ big; rw [big_eq]; omega) (by show 1 ≤ 100; omega) fun N k _ => by rw [Tr.walk]; unfold leafW; rw [if_pos hb]
      (conv => whnf)
      refine ⟨T, p, .leaf m, .leaf b, rfl, hg, by omega, ?_⟩
      (repeat ((conv => whnf); refine ⟨Nat.le_of_ble_eq_true rfl, ?_⟩))
      exact shr_same (h _ _ A4 g1 g2 g3 g4 nofun (G4.mono (by omega)))
    simp only [List.mem_cons, List.not_mem_nil, or_false] at hy
    rcases hy with rfl | rfl | rfl | rfl | rfl | rfl | rfl | rfl | rfl | rfl | rfl | rfl <;> exact t8 _ (by decide) (by decide) _ _ _ _ _ none
  have hw0 := of_decide_eq_false hw
  obtain ⟨w, rfl⟩ := toN w0
  have h5 : w = 1 ∨ w = 2 ∨ w = 3 ∨ w = 4 ∨ w = 5 := by omega
  rcases h5 with rfl | rfl | rfl | rfl | rfl
  · -- a name that stands elsewhere
    (repeat ((conv => whnf); first | (refine ⟨?_, fun _ => ?_⟩; · (intro z; cases z)) | (refine ⟨fun _ => ?_, ?_⟩; rotate_left; · (intro z; cases z)) | (refine ⟨?_, fun _ => ?_⟩; · (intro z; exact absurd z (by decide))) | (refine ⟨fun _ => ?_, ?_⟩; rotate_left; · (intro z; exact absurd z (by decide)))))
    (conv => whnf)
    refine ⟨fun hp => ?_, fun _ => ?_⟩
    · have hp := of_decide_eq_true hp
      (conv => whnf)
      refine ⟨l, _, _, rfl, G3.st, by omega, by omega, fun j A4 j0 j1 K4 S4 => ?_⟩
      have G4 := G3.step K4 S4
      obtain ⟨j, rfl⟩ := toN j0
      have hj : j < a := by omega
      obtain ⟨m2, par2, p2, f1, f2⟩ := hR1 j (by omega)
      refine ⟨_, atI_map rowE (by omega : j < R.length), ?_⟩
      rw [f1]
      (conv => whnf)
      refine ⟨_, atI_zero', ?_⟩
      have hm2 : m2 ∈ T.lv := by rw [← T.lvr_fst]; exact List.mem_map.mpr ⟨_, List.mem_of_getElem? f2, rfl⟩
      have hm3 : m2 ∈ (T.lvr.take a).map (·.1) := List.mem_map.mpr ⟨(m2, p2), List.mem_of_getElem? (i := j) (by rw [List.getElem?_take_of_lt hj]; exact f2), rfl⟩
      obtain ⟨g1, g2, g3, g4⟩ := swp (.leaf m2) (.twice m2) rfl (nm_big (hT.nm _ hm2)) (by show 1 ≤ 100; omega) fun N k e => by
        rw [Tr.walk]; unfold leafW; rw [if_neg (by rw [hT.nm _ hm2]; decide), if_pos (by rw [e]; exact hm3)]
      (conv => whnf)
      refine ⟨T, p, .leaf m, .leaf m2, rfl, hg, by omega, ?_⟩
      (repeat ((conv => whnf); refine ⟨Nat.le_of_ble_eq_true rfl, ?_⟩))
      exact shr_same (h _ _ A4 g1 g2 g3 g4 nofun (G4.mono (by omega)))
    · (repeat ((conv => whnf); first | (refine ⟨?_, fun _ => ?_⟩; · (intro z; cases z)) | (refine ⟨fun _ => ?_, ?_⟩; rotate_left; · (intro z; cases z)) | (refine ⟨?_, fun _ => ?_⟩; · (intro z; exact absurd z (by decide))) | (refine ⟨fun _ => ?_, ?_⟩; rotate_left; · (intro z; exact absurd z (by decide)))))
      exact t19 _ _ _ _ _ _
  · -- too deep
    (repeat ((conv => whnf); first | (refine ⟨?_, fun _ => ?_⟩; · (intro z; cases z)) | (refine ⟨fun _ => ?_, ?_⟩; rotate_left; · (intro z; cases z)) | (refine ⟨?_, fun _ => ?_⟩; · (intro z; exact absurd z (by decide))) | (refine ⟨fun _ => ?_, ?_⟩; rotate_left; · (intro z; exact absurd z (by decide)))))
    (conv => whnf)
    obtain ⟨m0, par0, p0, f1, f2⟩ := hR1 0 hR0
    refine ⟨_, atI_map rowE hR0, ?_⟩
    rw [f1]
    (conv => whnf)
    refine ⟨_, atI_zero', ?_⟩
    (conv => whnf)
    refine ⟨l, _, 25, .leaf m0, rfl, G3.st, by omega, by decide, fun ks A4 hk G4 => ?_⟩
    have hm0 : m0 ∈ T.lv := by rw [← T.lvr_fst]; exact List.mem_map.mpr ⟨_, List.mem_of_getElem? f2, rfl⟩
    (repeat ((conv => whnf); refine ⟨Nat.le_of_ble_eq_true rfl, ?_⟩))
    obtain ⟨c1, c2, c3, c4, c5, c6, c7⟩ := chain_facts m0 ks.reverse
    rw [chainT_R]
    rw [List.length_reverse, hk] at c6
    exact shr_same (h _ .depth A4 c2 (c7 (nm_big (hT.nm _ hm0))) (by rw [c6]; decide) (chain_depth _ _ _ _ (by decide) (by rw [List.length_reverse, hk]; decide) (by decide)) nofun ((G3.trans G4).mono (by omega)))
  · -- too many lines
    (repeat ((conv => whnf); first | (refine ⟨?_, fun _ => ?_⟩; · (intro z; cases z)) | (refine ⟨fun _ => ?_, ?_⟩; rotate_left; · (intro z; cases z)) | (refine ⟨?_, fun _ => ?_⟩; · (intro z; exact absurd z (by decide))) | (refine ⟨fun _ => ?_, ?_⟩; rotate_left; · (intro z; exact absurd z (by decide)))))
    (conv => whnf)
    refine ⟨by decide, lc_flR (fun i => D.str (119 :: decN (i : Nat))) (Nat.le_of_ble_eq_true rfl) (fun i hi A5 k5 _ G5 hk5 => ?_) ?_⟩
    · have hi : i < 25 := hi
      (conv => whnf)
      refine ⟨fun _ => ?_, fun z => Bool.noConfusion z⟩
      (conv => whnf)
      rw [show (0 + (i : Int)) = (i : Int) from Int.zero_add _]
      refine ⟨log_small _ (by omega), ?_⟩
      (conv => whnf)
      have hl := dec_len (k := i) (m := 3) (by decide) (by omega)
      exact ⟨by show 1 + (decN _).length ≤ big; rw [big_eq]; omega, hk5⟩
    · (repeat ((conv => whnf); refine ⟨Nat.le_of_ble_eq_true rfl, ?_⟩))
      obtain ⟨g1, g2, g3⟩ := w25_lit k
      exact shr_same (h _ .lines A3 g1 g2 (by rw [g3]; decide) (w25 k) nofun (G3.mono (by omega)))
  · -- too many places
    (repeat ((conv => whnf); first | (refine ⟨?_, fun _ => ?_⟩; · (intro z; cases z)) | (refine ⟨fun _ => ?_, ?_⟩; rotate_left; · (intro z; cases z)) | (refine ⟨?_, fun _ => ?_⟩; · (intro z; exact absurd z (by decide))) | (refine ⟨fun _ => ?_, ?_⟩; rotate_left; · (intro z; exact absurd z (by decide)))))
    (conv => whnf)
    refine ⟨Nat.le_of_ble_eq_true rfl, ?_⟩
    (conv => whnf)
    unfold lcR
    intro r hr
    have hrl := G3.st.ne hr
    have hrA := G3.kp.none hr hrl
    refine ⟨fun i acc A' => A' r = some (.lst acc) ∧ ∃ Ks : List (List Kd), Ks.length = i ∧ (∀ z ∈ Ks, z.length = 20) ∧ acc = wrD Ks ∧ Go l A A' (n + 3 + 20 * i), ⟨updA_same, [], rfl, nofun, rfl, (G3.ext (.new hr)).mono (by omega)⟩, fun i acc A' _ h => ⟨trivial, h.1⟩, ?_, ?_⟩
    · rintro i acc A' hi ⟨er, Ks, hK, hKl, rfl, G⟩
      have hi : i < 3 := hi
      have hit : [D.str (tl "a"), D.str (tl "b"), D.str (tl "c")].getD i D.non = (Tr.leaf [97 + i]).d := by
        have : i = 0 ∨ i = 1 ∨ i = 2 := by omega
        rcases this with rfl | rfl | rfl <;> rfl
      show agName 8 ([D.str (tl "a"), D.str (tl "b"), D.str (tl "c")].getD i D.non) _ _ _
      rw [hit]
      (conv => whnf)
      refine ⟨fun _ => ?_, fun z => Bool.noConfusion z⟩
      (conv => whnf)
      refine ⟨l, _, 20, .leaf [97 + i], rfl, G.st, by omega, by decide, fun ks A5 hk G5 => ?_⟩
      refine ⟨_, G5.kp _ _ hrl er, ?_, updA_same, Ks ++ [ks], by rw [List.length_append, hK]; rfl, fun z hz => ?_, by rw [wrD_snoc, hK], (⟨(G.trans G5).kp.upd hrA, (G.trans G5).st.upd hrl⟩ : Go l A _ _).mono (by omega)⟩
      · unfold wrD
        rw [List.length_mapIdx, hK, big_eq]; omega
      · rcases List.mem_append.mp hz with hz | hz
        · exact hKl z hz
        · rw [List.mem_singleton.mp hz]; exact hk
    · rintro acc A' ⟨er, Ks, hK, hKl, rfl, G⟩
      refine ⟨_, er, ?_⟩
      have hK : Ks.length = 3 := hK
      have G : Go l A A' (n + 3 + 20 * 3) := G
      have Gd : Go l A (delA A' r) (n + 3 + 20 * 3) := ⟨G.kp.del hrA, G.st.del hrl⟩
      obtain ⟨a1, a2, a3, rfl⟩ : ∃ a1 a2 a3, Ks = [a1, a2, a3] := by
        match Ks, hK with
        | [a1, a2, a3], _ => exact ⟨a1, a2, a3, rfl⟩
      have b1 : a1.reverse.length = 20 := by rw [List.length_reverse]; exact hKl _ (by simp)
      have b2 : a2.reverse.length = 20 := by rw [List.length_reverse]; exact hKl _ (by simp)
      have b3 : a3.reverse.length = 20 := by rw [List.length_reverse]; exact hKl _ (by simp)
      have hw3 : wrD [a1, a2, a3] = [(chainR a1.reverse (.leaf (tl "a"))).d, (chainR a2.reverse (.leaf (tl "b"))).d, (chainR a3.reverse (.leaf (tl "c"))).d] := by
        rw [← chainT_R, ← chainT_R, ← chainT_R]; rfl
      rw [hw3]
      obtain ⟨g1, g2, g3⟩ := chain3_sh k b1 b2 b3
      have := h _ .places (delA A' r) g1 g2 (by rw [g3]; decide) (chain3 k b1 b2 b3) nofun (Gd.mono (by omega))
      (repeat ((conv => whnf); refine ⟨Nat.le_of_ble_eq_true rfl, ?_⟩))
      exact shr_same this
  · (repeat ((conv => whnf); first | (refine ⟨?_, fun _ => ?_⟩; · (intro z; cases z)) | (refine ⟨fun _ => ?_, ?_⟩; rotate_left; · (intro z; cases z)) | (refine ⟨?_, fun _ => ?_⟩; · (intro z; exact absurd z (by decide))) | (refine ⟨fun _ => ?_, ?_⟩; rotate_left; · (intro z; exact absurd z (by decide)))))
    exact t19 _ _ _ _ _ _
theorem len__law_wrongnest (ds : List D) (A : Ah) (q : D → Ah → Prop) (x : AX) : sp__law_wrongnest ds A q x → ds.length = 2 := by
  rintro ⟨l, n, T, rfl, _⟩; rfl
def as__law_grove_7 : AS := (aRet (aCall sp__law_tree (aCons (aVar 0) (aCons (aCall sp__law_names (aCons (aVar 0) (aCons (aVar 3) aNil))) aNil))))
def as__law_grove_5 : AS := (aSeq (aIf (aTest (aOp aEq (aVar 2) (aC (.int 1)))) (aAsg (aOp aAdd (aVar 1) (aCall sp__law_take (aCons (aVar 0) (aCons (aOp aSub (aC (.int 25)) (aVar 1)) aNil)))) (agName 3)) aNext) as__law_grove_7)
def as__law_grove_4 : AS := (aSeq (aAsg (aOp aAdd (aC (.int 1)) (aCall sp__law_take (aCons (aVar 0) (aCons (aVar 1) aNil)))) (agName 3)) as__law_grove_5)
def as__law_grove_2 : AS := (aSeq (aIf (aTest (aOp aEq (aVar 2) (aC (.int 0)))) (aRet (aCall sp__law_edge (aCons (aVar 0) aNil))) aNext) as__law_grove_4)
def as__law_grove : AS := (aSeq (aAsg (aCall sp__law_take (aCons (aVar 0) (aCons (aC (.int 8)) aNil))) (agName 2)) as__law_grove_2)

theorem pure__law_grove (ds : List D) (A : Ah) (q : D → Ah → Prop) (x : AX) : sp__law_grove ds A q x → as__law_grove (endsA (shr q) x) (startA ["store", "most", "way", "many"] ds) A := by
  rintro ⟨l, n, most, rfl, S0, hn, h1, h24, h⟩
  (conv => whnf)
  refine ⟨l, n, 8, rfl, S0, by omega, by decide, fun w A1 w0 w1 K1 S1 => ?_⟩
  have G1 := (Go.start S0).step K1 S1
  have tail : ∀ (m : Nat) (A2 : Ah) (k : Nat), 1 ≤ m → m ≤ 24 → Go l A A2 k → k ≤ n + 3 → as__law_grove_7 (endsA (shr q) x) [some (.ref l), some (.int (most : Nat)), some (.int w), some (.int (m : Nat))] A2 := by
    intro m A2 k m1 m24 G2 hk
    (conv => whnf)
    refine ⟨l, k, m, rfl, G2.st, by omega, m1, m24, fun L A3 hL hA hnm hx G3 => ?_⟩
    (conv => whnf)
    refine ⟨l, _, L, rfl, G3.st, by omega, by intro z; subst z; rw [List.length_nil] at hL; omega, by omega, asc_nodup hA, hnm, fun T A4 hT hs hp _ G4 => ?_⟩
    exact shr_same (h T A4 hT hs (hx.of fun c hc => hp.mem_iff.mp hc) ((G2.trans (G3.trans G4)).mono (by omega)))
  (conv => whnf)
  refine ⟨fun _ => ?_, fun _ => ?_⟩
  · (conv => whnf)
    exact ⟨l, _, rfl, G1.st, by omega, fun T A2 hT hs hx G2 => shr_same (h T A2 hT hs hx ((G1.trans G2).mono (by omega)))⟩
  (conv => whnf)
  refine ⟨l, _, _, rfl, G1.st, by omega, by omega, fun j A2 j0 j1 K2 S2 => ?_⟩
  have G2 := G1.step K2 S2
  obtain ⟨j, rfl⟩ := toN j0
  (conv => whnf)
  refine ⟨fun _ => ?_, fun _ => ?_⟩
  · (conv => whnf)
    refine ⟨l, _, _, rfl, G2.st, by omega, by omega, fun i A3 i0 i1 K3 S3 => ?_⟩
    have G3 := G2.step K3 S3
    obtain ⟨i, rfl⟩ := toN i0
    (conv => whnf)
    rw [show ((most : Int) + (i : Int)) = ((most + i : Nat) : Int) by omega]
    exact tail (most + i) A3 _ (by omega) (by omega) G3 (by omega)
  · rw [show ((1 : Int) + (j : Int)) = ((1 + j : Nat) : Int) by omega]
    exact tail (1 + j) A2 _ (by omega) (by omega) G2 (by omega)
theorem len__law_grove (ds : List D) (A : Ah) (q : D → Ah → Prop) (x : AX) : sp__law_grove ds A q x → ds.length = 2 := by
  rintro ⟨l, n, most, rfl, _⟩; rfl
def as__law_wronglot_8 : AS := (aRet (aLstF (aCons (aBlt aTuple (aCons (aFrz (aOp aAdd (aFrz (aOp aAdd (aFrz (aSl (aVar 2) aNoP (aPart (aOp aSub (aVar 3) (aC (.int 1)))))) (aLstF (aCons (aOp aIx (aVar 2) (aVar 3)) (aCons (aOp aIx (aVar 2) (aOp aSub (aVar 3) (aC (.int 1)))) aNil))))) (aFrz (aSl (aVar 2) (aPart (aOp aAdd (aVar 3) (aC (.int 1)))) aNoP)))) aNil)) (aCons (aC (.str (tl "BadLot"))) (aCons (aTup (aCons (aVar 3) aNil)) aNil)))))
def as__law_wronglot_12 : AS := (aRet (aLstF (aCons (aBlt aTuple (aCons (aFrz (aOp aAdd (aFrz (aOp aAdd (aFrz (aSl (aVar 2) aNoP (aPart (aVar 3)))) (aLstF (aCons (aVar 5) aNil)))) (aFrz (aSl (aVar 2) (aPart (aOp aAdd (aVar 3) (aOp aMod (aVar 4) (aC (.int 2))))) aNoP)))) aNil)) (aCons (aC (.str (tl "NoSuchLine"))) (aCons (aTup (aCons (aVar 5) aNil)) aNil)))))
def as__law_wronglot_11 : AS := (aSeq (aAsg (aCall sp__law_pick (aCons (aVar 0) (aCons (aLstF (aCons (aC (.str (tl ""))) (aCons (aC (.str (tl "A"))) (aCons (aC (.str (tl "first"))) (aCons (aC (.str (tl "zz.zz"))) (aCons (aC (.str (tl "a."))) (aCons (aOp aAdd (aOp aIx (aVar 1) (aC (.int 0))) (aC (.str (tl "x")))) (aCons (aOp aAdd (aOp aIx (aVar 1) (aNeg (aC (.int 1)))) (aC (.str (tl "\n")))) (aCons (aC (.str (tl "9"))) (aCons (aC (.str (tl "a+b"))) aNil)))))))))) aNil))) (agName 5)) as__law_wronglot_12)
def as__law_wronglot_9 : AS := (aSeq (aIf (aTest (aOp aEq (aVar 4) (aC (.int 2)))) (aRet (aLstF (aCons (aBlt aTuple (aCons (aFrz (aOp aAdd (aFrz (aSl (aVar 2) aNoP (aPart (aOp aAdd (aVar 3) (aC (.int 1)))))) (aFrz (aSl (aVar 2) (aPart (aVar 3)) aNoP)))) aNil)) (aCons (aC (.str (tl "BadLot"))) (aCons (aTup (aCons (aOp aAdd (aVar 3) (aC (.int 1))) aNil)) aNil))))) aNext) as__law_wronglot_11)
def as__law_wronglot_6 : AS := (aSeq (aIf (aAndT (aTest (aOp aEq (aVar 4) (aC (.int 1)))) (aTest (aOp aGt (aBlt aLen (aCons (aVar 2) aNil)) (aC (.int 1))))) (aSeq (aAsg (aBlt aMax2 (aCons (aVar 3) (aCons (aC (.int 1)) aNil))) (agName 3)) as__law_wronglot_8) aNext) as__law_wronglot_9)
def as__law_wronglot_4 : AS := (aSeq (aIf (aTest (aOp aEq (aVar 4) (aC (.int 0)))) (aRet (aLstF (aCons (aTup aNil) (aCons (aC (.str (tl "BadLot"))) (aCons (aTup (aCons (aC (.int 0)) aNil)) aNil))))) aNext) as__law_wronglot_6)
def as__law_wronglot_3 : AS := (aSeq (aAsg (aCall sp__law_take (aCons (aVar 0) (aCons (aC (.int 5)) aNil))) (agName 4)) as__law_wronglot_4)
def as__law_wronglot_2 : AS := (aSeq (aAsg (aCall sp__law_take (aCons (aVar 0) (aCons (aBlt aLen (aCons (aVar 2) aNil)) aNil))) (agName 3)) as__law_wronglot_3)
def as__law_wronglot : AS := (aSeq (aAsg (aFrz (aBlt aList (aCons (aCall sp__law_lot (aCons (aVar 0) (aCons (aVar 1) aNil))) aNil))) (agName 2)) as__law_wronglot_2)

theorem pure__law_wronglot (ds : List D) (A : Ah) (q : D → Ah → Prop) (x : AX) : sp__law_wronglot ds A q x → as__law_wronglot (endsA (shr q) x) (startA ["store", "lines", "lot", "at", "way", "bad"] ds) A := by
  rintro ⟨l, n, L, rfl, S0, hn, hne, h24, hA, hnm, hx, h⟩
  (conv => whnf)
  refine ⟨l, n, L, rfl, S0, by omega, hne, h24, fun S A1 hS hSne G1 => ?_⟩
  have hSl := hS.length_le
  have hSp := List.length_pos_iff.mpr hSne
  have hSL : ∀ c ∈ S, c ∈ L := fun c m => hS.subset m
  have hSA : Asc S := hA.sublist hS
  (conv => whnf)
  refine newL_frz ?_
  (conv => whnf)
  rw [List.length_map]
  refine ⟨l, _, _, rfl, G1.st, by omega, by omega, fun a A2 a0 a1 K2 S2 => ?_⟩
  have G2 := G1.step K2 S2
  obtain ⟨a, rfl⟩ := toN a0
  have ha : a < S.length := by omega
  (conv => whnf)
  refine ⟨l, _, 5, rfl, G2.st, by omega, by decide, fun w A3 w0 w1 K3 S3 => ?_⟩
  have G3 := G2.step K3 S3
  obtain ⟨w, rfl⟩ := toN w0
  -- a swap
  have t8 : ∀ b : Nat, 1 ≤ b → b < S.length → as__law_wronglot_8 (endsA (shr q) x) [some (.ref l), some (.tup (L.map D.str)), some (.fl (S.map D.str)), some (.int (b : Nat)), some (.int (w : Nat)), none] A3 := by
    intro b b1 hb
    (conv => whnf)
    refine newL_frz ?_
    have eb : ((b : Int) - 1) = ((b - 1 : Nat) : Int) := by omega
    rw [eb, cut_map, cut_to]
    (conv => whnf)
    refine ⟨_, atI_map D.str hb, ?_⟩
    (conv => whnf)
    rw [eb]
    refine ⟨_, atI_map D.str (by omega : b - 1 < S.length), ?_⟩
    (conv => whnf)
    refine ⟨Nat.le_of_ble_eq_true rfl, ?_⟩
    (conv => whnf)
    refine ⟨by rw [List.length_map, List.length_take]; show _ + 2 ≤ _; rw [big_eq]; omega, newL_frz ?_⟩
    (conv => whnf)
    refine newL_frz ?_
    rw [show ((b : Int) + 1) = ((b + 1 : Nat) : Int) by omega, cut_map, cut_from]
    (conv => whnf)
    refine ⟨by rw [List.length_append, List.length_map, List.length_take, List.length_map, List.length_drop]; show _ + 2 + _ ≤ _; rw [big_eq]; omega, newL_frz ?_⟩
    (conv => whnf)
    refine ⟨Nat.le_of_ble_eq_true rfl, ?_⟩
    (conv => whnf)
    refine ⟨Nat.le_of_ble_eq_true rfl, ?_⟩
    have e := swap_kno hSL hSA b1 hb (S.drop (b + 1))
    have := h _ _ A3 (by simp only [List.length_append, List.length_take, List.length_cons, List.length_drop, List.length_nil]; omega) e (G3.mono (by omega))
    rw [List.append_assoc, List.map_append] at this
    refine shr_same ?_
    rw [List.append_assoc]
    exact this
  -- a stranger
  have t12 : ∀ (m : List Nat) (A4 : Ah) (k : Nat), m ∉ L → m.length ≤ 100 → Go l A A4 k → k ≤ n + 90 → as__law_wronglot_12 (endsA (shr q) x) [some (.ref l), some (.tup (L.map D.str)), some (.fl (S.map D.str)), some (.int (a : Nat)), some (.int (w : Nat)), some (.str m)] A4 := by
    intro m A4 k hm hml G4 hk
    (conv => whnf)
    refine newL_frz ?_
    rw [cut_map, cut_to]
    (conv => whnf)
    refine ⟨Nat.le_of_ble_eq_true rfl, ?_⟩
    (conv => whnf)
    refine ⟨by rw [List.length_map, List.length_take]; show _ + 1 ≤ _; rw [big_eq]; omega, newL_frz ?_⟩
    (conv => whnf)
    refine ⟨by decide, newL_frz ?_⟩
    obtain ⟨c, hc⟩ : ∃ c : Nat, ((a : Int) + (w : Int) % 2) = ((c : Nat) : Int) := ⟨a + w % 2, by omega⟩
    rw [hc, cut_map, cut_from]
    (conv => whnf)
    refine ⟨by rw [List.length_append, List.length_map, List.length_take, List.length_map, List.length_drop]; show _ + 1 + _ ≤ _; rw [big_eq]; omega, newL_frz ?_⟩
    (conv => whnf)
    refine ⟨Nat.le_of_ble_eq_true rfl, ?_⟩
    (conv => whnf)
    refine ⟨Nat.le_of_ble_eq_true rfl, ?_⟩
    have e := knoF_in (K := L) (X := S.take a) (r := S.drop c) (c := m) (fun d hd => hSL d (List.mem_of_mem_take hd)) (hSA.sublist (List.take_sublist _ S)) hm
    have := h _ _ A4 (by rw [List.length_append, List.length_take, List.length_cons, List.length_drop]; omega) e (G4.mono (by omega))
    rw [List.map_append] at this
    refine shr_same ?_
    rw [List.append_assoc]
    exact this
  have t11 : as__law_wronglot_11 (endsA (shr q) x) [some (.ref l), some (.tup (L.map D.str)), some (.fl (S.map D.str)), some (.int (a : Nat)), some (.int (w : Nat)), none] A3 := by
    have hLp := List.length_pos_iff.mpr hne
    have h0 : L2.atI (L.map D.str) (0 : Int) = some (.str L[0]) := atI_map D.str hLp
    (conv => whnf)
    obtain ⟨z, hz, hzL⟩ := atI_last hne
    have hz : L2.atI (L.map D.str) (-1 : Int) = some (.str z) := by
      rw [atI_neg] at hz ⊢
      rw [List.getLast?_map, hz]; rfl
    have l0 := (nm_len (hnm L[0] (List.getElem_mem hLp))).2
    have l1 := (nm_len (hnm z hzL)).2
    refine ⟨_, h0, ?_⟩
    (conv => whnf)
    refine ⟨by show _ + 1 ≤ _; rw [big_eq]; omega, ?_⟩
    (conv => whnf)
    refine ⟨_, hz, ?_⟩
    (conv => whnf)
    refine ⟨by show _ + 1 ≤ _; rw [big_eq]; omega, ?_⟩
    (conv => whnf)
    refine ⟨Nat.le_of_ble_eq_true rfl, ?_⟩
    (conv => whnf)
    refine ⟨l, _, _, _, rfl, G3.st, by omega, .inr (.inr (.inr rfl)), nofun, by simp, Nat.le_of_ble_eq_true rfl, fun y A4 hy K4 S4 => ?_⟩
    have G4 := G3.step K4 S4
    have bad : ∀ m : List Nat, isNm m = false → m ∉ L := fun m hm hL => by rw [hnm m hL] at hm; cases hm
    simp only [List.mem_cons, List.not_mem_nil, or_false] at hy
    rcases hy with rfl | rfl | rfl | rfl | rfl | rfl | rfl | rfl | rfl
    · exact t12 _ A4 _ (bad _ (by decide)) (by decide) G4 (by omega)
    · exact t12 _ A4 _ (bad _ (by decide)) (by decide) G4 (by omega)
    · exact t12 _ A4 _ (bad _ (by decide)) (by decide) G4 (by omega)
    · exact t12 _ A4 _ hx.zz (by decide) G4 (by omega)
    · exact t12 _ A4 _ (bad _ (by decide)) (by decide) G4 (by omega)
    · exact t12 _ A4 _ (hx.x _ (List.getElem_mem hLp)) (by rw [List.length_append]; show _ + 1 ≤ _; omega) G4 (by omega)
    · exact t12 _ A4 _ (bad _ (nm_sign (e := 10) (List.mem_append_right _ (List.mem_singleton.mpr rfl)) (by decide))) (by rw [List.length_append]; show _ + 1 ≤ _; omega) G4 (by omega)
    · exact t12 _ A4 _ (bad _ (by decide)) (by decide) G4 (by omega)
    · exact t12 _ A4 _ (bad _ (by decide)) (by decide) G4 (by omega)
  have h5 : w = 0 ∨ w = 1 ∨ w = 2 ∨ 3 ≤ w := by omega
  rcases h5 with rfl | rfl | rfl | h3
  · (conv => whnf)
    refine ⟨fun _ => ?_, fun z => Bool.noConfusion z⟩
    (conv => whnf)
    refine ⟨Nat.le_of_ble_eq_true rfl, ?_⟩
    (conv => whnf)
    refine ⟨Nat.le_of_ble_eq_true rfl, ?_⟩
    (conv => whnf)
    refine ⟨Nat.le_of_ble_eq_true rfl, ?_⟩
    exact shr_same (h [] (.inr 0) A3 (Nat.zero_le _) rfl (G3.mono (by omega)))
  · (repeat ((conv => whnf); first | (refine ⟨?_, fun _ => ?_⟩; · (intro z; cases z)) | (refine ⟨fun _ => ?_, ?_⟩; rotate_left; · (intro z; cases z)) | (refine ⟨?_, fun _ => ?_⟩; · (intro z; exact absurd z (by decide))) | (refine ⟨fun _ => ?_, ?_⟩; rotate_left; · (intro z; exact absurd z (by decide)))))
    (conv => whnf)
    rw [List.length_map]
    refine ⟨fun hl => ?_, fun _ => ?_⟩
    · have hl := of_decide_eq_true hl
      (conv => whnf)
      by_cases hz : (a : Int) < 1
      · rw [if_pos hz]
        exact t8 1 (Nat.le_refl _) (by omega)
      · rw [if_neg hz]
        exact t8 a (by omega) ha
    · (repeat ((conv => whnf); first | (refine ⟨?_, fun _ => ?_⟩; · (intro z; cases z)) | (refine ⟨fun _ => ?_, ?_⟩; rotate_left; · (intro z; cases z)) | (refine ⟨?_, fun _ => ?_⟩; · (intro z; exact absurd z (by decide))) | (refine ⟨fun _ => ?_, ?_⟩; rotate_left; · (intro z; exact absurd z (by decide)))))
      exact t11
  · (repeat ((conv => whnf); first | (refine ⟨?_, fun _ => ?_⟩; · (intro z; cases z)) | (refine ⟨fun _ => ?_, ?_⟩; rotate_left; · (intro z; cases z)) | (refine ⟨?_, fun _ => ?_⟩; · (intro z; exact absurd z (by decide))) | (refine ⟨fun _ => ?_, ?_⟩; rotate_left; · (intro z; exact absurd z (by decide)))))
    (conv => whnf)
    refine newL_frz ?_
    rw [show ((a : Int) + 1) = ((a + 1 : Nat) : Int) by omega, cut_map, cut_to]
    (conv => whnf)
    refine newL_frz ?_
    rw [cut_map, cut_from]
    (conv => whnf)
    refine ⟨by rw [List.length_map, List.length_take, List.length_map, List.length_drop, big_eq]; omega, newL_frz ?_⟩
    (conv => whnf)
    refine ⟨Nat.le_of_ble_eq_true rfl, ?_⟩
    (conv => whnf)
    refine ⟨Nat.le_of_ble_eq_true rfl, ?_⟩
    have e := dup_kno hSL hSA ha (S.drop (a + 1))
    rw [← List.drop_eq_getElem_cons ha] at e
    have := h _ _ A3 (by rw [List.length_append, List.length_take, List.length_drop]; omega) e (G3.mono (by omega))
    rw [List.map_append] at this
    exact shr_same this
  · (conv => whnf)
    refine ⟨fun z => ?_, fun _ => ?_⟩
    · have z := of_decide_eq_true z; omega
    (conv => whnf)
    refine ⟨fun z => ?_, fun _ => ?_⟩
    · have z := of_decide_eq_true z; omega
    (conv => whnf)
    refine ⟨fun z => Bool.noConfusion z, fun _ => ?_⟩
    (conv => whnf)
    refine ⟨fun z => ?_, fun _ => ?_⟩
    · have z := of_decide_eq_true z; omega
    exact t11
theorem len__law_wronglot (ds : List D) (A : Ah) (q : D → Ah → Prop) (x : AX) : sp__law_wronglot ds A q x → ds.length = 2 := by
  rintro ⟨l, n, L, rfl, _⟩; rfl
def as__law_world_7 : AS := (aRet (aLstF (aCons (aVar 1) (aCons (aVar 3) (aCons (aVar 2) (aCons (aVar 4) (aCons (aVar 5) (aCons (aVar 6) (aCons (aCall sp__law_wrongnest (aCons (aVar 0) (aCons (aVar 1) aNil))) aNil)))))))))
def as__law_world_6 : AS := (aSeq (aAsg (aCall sp__law_wronglot (aCons (aVar 0) (aCons (aVar 2) aNil))) (agName 6)) as__law_world_7)
def as__law_world_5 : AS := (aSeq (aAsg (aCall sp__law_lot (aCons (aVar 0) (aCons (aVar 4) aNil))) (agName 5)) as__law_world_6)
def as__law_world_4 : AS := (aSeq (aAsg (aCall sp__law_lot (aCons (aVar 0) (aCons (aVar 2) aNil))) (agName 4)) as__law_world_5)
def as__law_world_3 : AS := (aSeq (aAsg (aCall sp__law_tree (aCons (aVar 0) (aCons (aVar 2) aNil))) (agName 3)) as__law_world_4)
def as__law_world_2 : AS := (aSeq (aAsg (aBlt aTuple (aCons (aFrz (aBlt aSortedU (aCons (aCall sp__law_order (aCons (aVar 1) aNil)) aNil))) aNil)) (agName 2)) as__law_world_3)
def as__law_world : AS := (aSeq (aAsg (aCall sp__law_grove (aCons (aVar 0) (aCons (aC (.int 6)) aNil))) (agName 1)) as__law_world_2)

theorem pure__law_world (ds : List D) (A : Ah) (q : D → Ah → Prop) (x : AX) : sp__law_world ds A q x → as__law_world (endsA (shr q) x) (startA ["store", "tree", "lines", "other", "lot", "inner", "wrong"] ds) A := by
  rintro ⟨l, rfl, S0, h⟩
  (conv => whnf)
  refine ⟨l, 0, 6, rfl, S0, by decide, by decide, by decide, fun T A1 hT hs hx G1 => ?_⟩
  have hz := hT.sz
  have hp := srtN_perm T.lv
  have hlen : (srtN T.lv).length ≤ 24 := by rw [hp.length_eq]; exact hT.lines
  have hne : srtN T.lv ≠ [] := fun z => by
    rw [z] at hp
    exact lv_ne hT.tru hs (List.nil_perm.mp hp)
  have hA := srtN_asc hT.nd
  (conv => whnf)
  refine ⟨T, rfl, hT.tru, by omega, ?_⟩
  (conv => whnf)
  refine ⟨T.lv, rfl, by have := hT.lines; omega, fun ys hp' hs' => newL_frz ?_⟩
  rw [srtN_of hT.nd hp' hs']
  (conv => whnf)
  refine ⟨l, _, srtN T.lv, rfl, G1.st, by omega, hne, hlen, asc_nodup hA, fun c m => hT.nm c (hp.mem_iff.mp m), fun O A2 hO hOs hOp _ G2 => ?_⟩
  (conv => whnf)
  refine ⟨l, _, srtN T.lv, rfl, G2.st, by omega, hne, hlen, fun lot A3 h1 h2 G3 => ?_⟩
  (conv => whnf)
  refine ⟨l, _, lot, rfl, G3.st, by omega, h2, by have := h1.length_le; omega, fun inner A4 h3 h4 G4 => ?_⟩
  (conv => whnf)
  refine ⟨l, _, srtN T.lv, rfl, G4.st, by omega, hne, hlen, hA, fun c m => hT.nm c (hp.mem_iff.mp m), hx.of fun c m => hp.mem_iff.mp m, fun M e A5 hM hk G5 => ?_⟩
  (conv => whnf)
  refine ⟨l, _, T, rfl, G5.st, by omega, hT, hs, fun t f A6 g1 g2 g3 g4 g5 _ => ?_⟩
  (conv => whnf)
  exact ⟨Nat.le_of_ble_eq_true rfl, shr_same (h T O lot inner M e t f A6 hT hs hO hOs (hOp.trans hp) h1 h2 h3 h4 hM hk g1 g2 g3 g4 g5)⟩
theorem len__law_world (ds : List D) (A : Ah) (q : D → Ah → Prop) (x : AX) : sp__law_world ds A q x → ds.length = 1 := by
  rintro ⟨l, rfl, _⟩; rfl
def as_struck_6 (n : Nat) : AS := (aRet (aIfE (aTest (aOp aGt (aBlt aLen (aCons (aVar 5) aNil)) (aC (.int 0)))) (aTup (aCons (aVar 2) (aCons (aVar 5) aNil))) (aC .non)))
def as_struck_5 (n : Nat) : AS := (aSeq (aAsg (aBlt aTuple (aCons (aFrz (aLc (aIter (aVar 4)) (agName 7) (aTest (aOp aIsNot (aVar 7) (aC .non))) (aVar 7) [7])) aNil)) (agName 5)) (as_struck_6 n))
def as_struck_4 (n : Nat) : AS := (aSeq (aAsg (aFrz (aLc (aIter (aVar 3)) (agName 6) aYes (aCall (spr_struck n) (aCons (aVar 6) (aCons (aVar 1) aNil))) [6])) (agName 4)) (as_struck_5 n))
def as_struck_3 (n : Nat) : AS := (aSeq (aAsg (aVar 0) (agTup 2 (agCons (agName 2) (agCons (agName 3) agNil)))) (as_struck_4 n))
def as_struck (n : Nat) : AS := (aSeq (aIf (aTest (aBlt aIsi (aCons (aVar 0) (aCons (aC (.ty "str")) aNil)))) (aRet (aIfE (aTest (aOp aInS (aVar 0) (aVar 1))) (aVar 0) (aC .non))) aNext) (as_struck_3 n))

theorem no_struck {ds : List D} {A : Ah} {q : D → Ah → Prop} {x : AX} : spr_struck 0 ds A q x → False := by
  rintro ⟨T, L, _, _, h, _⟩; omega
theorem dps_mem : ∀ {ts : List Tr} {t : Tr}, t ∈ ts → t.dp ≤ Tr.dps ts ∧ t.sz ≤ Tr.szs ts
  | u :: r, t, h => by
    rcases List.mem_cons.mp h with rfl | h
    · exact ⟨Nat.le_max_left _ _, Nat.le_add_right _ _⟩
    · have ⟨a, b⟩ := dps_mem h
      exact ⟨Nat.le_trans a (Nat.le_max_right _ _), Nat.le_trans b (Nat.le_add_left _ _)⟩
mutual
theorem stk_tru (L : List (List Nat)) : ∀ {t u : Tr}, t.tru = true → t.stk L = some u → u.tru = true
  | .leaf n, u, _, h => by
    rw [Tr.stk] at h
    split at h
    · cases h; rfl
    · cases h
  | .node k ts, u, ht, h => by
    rw [Tr.stk] at h
    have hs := stks_tru L (ts := ts) ht
    split at h
    · cases h
    · rename_i a b e
      cases h
      rw [e] at hs
      exact hs
  | .bad _, _, ht, _ => by cases ht
theorem stks_tru (L : List (List Nat)) : ∀ {ts : List Tr}, Tr.trus ts = true → Tr.trus (Tr.stks L ts) = true
  | [], _ => rfl
  | t :: r, h => by
    have h : (t.tru && Tr.trus r) = true := h
    obtain ⟨h1, h2⟩ := (Bool.and_eq_true _ _).mp h
    rw [Tr.stks]
    cases e : t.stk L with
    | none => exact stks_tru L h2
    | some u =>
      show (u.tru && Tr.trus (Tr.stks L r)) = true
      rw [stk_tru L h1 e, stks_tru L h2]; rfl
end
theorem opt_filter (L : List (List Nat)) {ts : List Tr} (h : Tr.trus ts = true) : ((ts.map fun t => optD (t.stk L)).filter fun d => !d.isNon) = (Tr.stks L ts).map Tr.d := by
  induction ts with
  | nil => rfl
  | cons t r ih =>
    have h : (t.tru && Tr.trus r) = true := h
    obtain ⟨h1, h2⟩ := (Bool.and_eq_true _ _).mp h
    rw [List.map_cons, List.filter_cons, Tr.stks]
    cases e : t.stk L with
    | none => exact ih h2
    | some u =>
      have := tru_non (stk_tru L h1 e)
      show (if (!u.d.isNon) = true then _ else _) = _
      rw [if_pos (by rw [this]; rfl), ih h2]; rfl
theorem pure_struck (n : Nat) (ds : List D) (A : Ah) (q : D → Ah → Prop) (x : AX) : spr_struck (n + 1) ds A q x → as_struck n (endsA (shr q) x) (startA ["tree", "lot", "kind", "children", "parts", "left", "child", "part"] ds) A := by
  rintro ⟨T, L, rfl, ht, hd, hs, h⟩
  rcases tru_d ht with ⟨m, rfl⟩ | ⟨k, ts, rfl, hts⟩
  · have h : q (optD (if m ∈ L then some (.leaf m) else none)) A := h
    (conv => whnf)
    refine ⟨_, rfl, by decide, ?_⟩
    (repeat ((conv => whnf); first | (refine ⟨?_, fun _ => ?_⟩; · (intro z; cases z)) | (refine ⟨fun _ => ?_, ?_⟩; rotate_left; · (intro z; cases z)) | (refine ⟨?_, fun _ => ?_⟩; · (intro z; exact absurd z (by decide))) | (refine ⟨fun _ => ?_, ?_⟩; rotate_left; · (intro z; exact absurd z (by decide)))))
    refine ⟨rfl, sc_strs L, ?_⟩
    (conv => whnf)
    refine ⟨fun e => ?_, fun e => ?_⟩
    · rw [if_pos (inD_str.mp e)] at h
      exact shr_same h
    · rw [if_neg (inD_strF.mp e)] at h
      exact shr_same h
  · have hd : Tr.dps ts + 1 < n + 1 := hd
    have hs : Tr.szs ts + 1 ≤ 1000000 := hs
    have htl := Tr.szs_len ts
    have h : q (optD (match Tr.stks L ts with | [] => none | t :: r => some (.node k (t :: r)))) A := h
    (conv => whnf)
    refine ⟨_, rfl, by decide, ?_⟩
    (repeat ((conv => whnf); first | (refine ⟨?_, fun _ => ?_⟩; · (intro z; cases z)) | (refine ⟨fun _ => ?_, ?_⟩; rotate_left; · (intro z; cases z)) | (refine ⟨?_, fun _ => ?_⟩; · (intro z; exact absurd z (by decide))) | (refine ⟨fun _ => ?_, ?_⟩; rotate_left; · (intro z; exact absurd z (by decide)))))
    refine ⟨rfl, ?_⟩
    (conv => whnf)
    refine ⟨rfl, ?_⟩
    (conv => whnf)
    rw [Tr.ds_map]
    refine lc_fl ts Tr.d (fun _ => true) (fun t : Tr => optD (t.stk L)) (fun _ _ => by exact trivial) (by rw [big_eq]; omega) (fun t ht A' κ sk G hk _ => ?_) ?_
    · (conv => whnf)
      refine ⟨fun _ => ?_, fun z => Bool.noConfusion z⟩
      (conv => whnf)
      have := dps_mem ht
      exact ⟨t, L, rfl, Tr.trus_iff.mp hts t ht, by omega, by omega, hk rfl⟩
    · rw [show ts.filter (fun _ => true) = ts from List.filter_eq_self.mpr fun _ _ => rfl]
      (conv => whnf)
      refine lc_flD (ts.map fun t : Tr => optD (t.stk L)) (fun d => !d.isNon) (fun d => d) (fun _ _ => by exact trivial) (by rw [List.length_map, big_eq]; omega) (fun d hd A' κ sk G hk hs => ?_) ?_
      · (conv => whnf)
        exact ⟨fun e => hk e, fun e => hs e⟩
      · rw [List.map_id', opt_filter L hts]
        (conv => whnf)
        cases e : Tr.stks L ts with
        | nil =>
          rw [e] at h
          (conv => whnf)
          exact ⟨fun z => absurd z (by decide), fun _ => shr_same h⟩
        | cons t r =>
          rw [e] at h
          (conv => whnf)
          refine ⟨fun _ => ?_, fun z => absurd z (by simp)⟩
          (conv => whnf)
          refine ⟨Nat.le_of_ble_eq_true rfl, ?_⟩
          have h : q (Tr.node k (t :: r)).d A := h
          have e2 : (Tr.node k (t :: r)).d = .tup [.str k.cs, .tup ((t :: r).map Tr.d)] := by rw [← Tr.ds_map]; rfl
          rw [e2] at h
          exact shr_same h
theorem len_struck (n : Nat) (ds : List D) (A : Ah) (q : D → Ah → Prop) (x : AX) : spr_struck n ds A q x → ds.length = 2 := by
  rintro ⟨T, L, rfl, _⟩; rfl
def as_strike_3 : AS := (aRet (aCall sp_struck (aCons (aVar 0) (aCons (aVar 1) aNil))))
def as_strike_2 : AS := (aSeq (aDrop (aCall sp_check_lot (aCons (aCall sp_lines_of (aCons (aVar 0) aNil)) (aCons (aVar 1) aNil)))) as_strike_3)
def as_strike : AS := (aSeq (aDrop (aCall sp_check_tree (aCons (aVar 0) aNil))) as_strike_2)

theorem pure_strike (ds : List D) (A : Ah) (q : D → Ah → Prop) (x : AX) : sp_strike ds A q x → as_strike (endsA (shr q) x) (startA ["tree", "lot"] ds) A := by
  rintro ⟨T, L, rfl, hl, hsh, hlit, hsz, h1, h2⟩
  (conv => whnf)
  refine ⟨T, rfl, hsh, hlit, hsz, fun s hs => ?_, h2⟩
  have ok := Tr.ok_of hs
  obtain ⟨g1, g2, g3⟩ := h1 s hs
  (conv => whnf)
  refine ⟨T, rfl, hsh, hlit, hsz, fun _ _ => ?_, h2⟩
  (conv => whnf)
  refine ⟨_, L, rfl, hl, fun e => ?_, g2, g3⟩
  (conv => whnf)
  exact ⟨T, L, rfl, ok.tru, by have := ok.depth; omega, hsz, shr_same (g1 e)⟩
theorem len_strike (ds : List D) (A : Ah) (q : D → Ah → Prop) (x : AX) : sp_strike ds A q x → ds.length = 2 := by
  rintro ⟨T, L, rfl, _⟩; rfl
def as__law_tried : AS := (aTry excs 2 (aRet (aTup (aCons (aC (.str (tl ""))) (aCons (aCall sp_strike (aCons (aVar 0) (aCons (aVar 1) aNil))) aNil)))) (fun a ε => (aRet (aCall (hsp__law_error a ε) (aCons (aVar 2) aNil)))))

theorem pure__law_tried (ds : List D) (A : Ah) (q : D → Ah → Prop) (x : AX) : sp__law_tried ds A q x → as__law_tried (endsA (shr q) x) (startA ["tree", "lot", "e"] ds) A := by
  rintro ⟨T, L, rfl, hL, hs, hl, hz, h⟩
  unfold triedD at h
  (conv => whnf)
  refine ⟨T, L, rfl, hL, hs, hl, hz, fun s e => ?_, fun f e d A' G hd => ?_⟩
  · rw [e] at h
    refine ⟨fun e2 => ?_, fun cs e2 d A' G hd => ?_, fun i e2 d A' G hd => ?_⟩
    · rw [e2] at h
      (conv => whnf)
      exact ⟨Nat.le_of_ble_eq_true rfl, shr_same h⟩
    · rw [e2] at h
      refine ⟨by show ("NoSuchLine" : Str) ∈ excs; decide, fun a ha => ?_⟩
      (conv => whnf)
      exact ⟨rfl, .inr (.inr (.inr (.inr (.inr ⟨_, rfl, hd, A, G, h⟩))))⟩
    · rw [e2] at h
      refine ⟨by show ("BadLot" : Str) ∈ excs; decide, fun a ha => ?_⟩
      (conv => whnf)
      exact ⟨rfl, .inr (.inr (.inr (.inr (.inl ⟨_, rfl, hd, A, G, h⟩))))⟩
  · rw [e] at h
    cases f with
    | name n =>
      refine ⟨by show ("BadName" : Str) ∈ excs; decide, fun a ha => ?_⟩
      (conv => whnf)
      exact ⟨rfl, .inl ⟨_, rfl, hd, A, G, h⟩⟩
    | twice n =>
      refine ⟨by show ("Twice" : Str) ∈ excs; decide, fun a ha => ?_⟩
      (conv => whnf)
      exact ⟨rfl, .inr (.inl ⟨_, rfl, hd, A, G, h⟩)⟩
    | lines =>
      refine ⟨by show ("TooMany" : Str) ∈ excs; decide, fun a ha => ?_⟩
      (conv => whnf)
      exact ⟨rfl, .inr (.inr (.inl ⟨_, _, rfl, hd, A, G, h⟩))⟩
    | tree p =>
      refine ⟨by show ("BadTree" : Str) ∈ excs; decide, fun a ha => ?_⟩
      (conv => whnf)
      exact ⟨rfl, .inr (.inr (.inr (.inl ⟨_, rfl, hd, A, G, h⟩)))⟩
    | depth =>
      refine ⟨by show ("TooMany" : Str) ∈ excs; decide, fun a ha => ?_⟩
      (conv => whnf)
      exact ⟨rfl, .inr (.inr (.inl ⟨_, _, rfl, hd, A, G, h⟩))⟩
    | places =>
      refine ⟨by show ("TooMany" : Str) ∈ excs; decide, fun a ha => ?_⟩
      (conv => whnf)
      exact ⟨rfl, .inr (.inr (.inl ⟨_, _, rfl, hd, A, G, h⟩))⟩
theorem len__law_tried (ds : List D) (A : Ah) (q : D → Ah → Prop) (x : AX) : sp__law_tried ds A q x → ds.length = 2 := by
  rintro ⟨T, L, rfl, _⟩; rfl
def as__law_struckright_10 : AS := (aRet (aCall sp__law_equal (aCons (aCall sp__law_tried (aCons (aVar 0) (aCons (aVar 1) aNil))) (aCons (aTup (aCons (aC (.str (tl ""))) (aCons (aVar 0) aNil))) aNil))))
def as__law_struckright_8 : AS := (aSeq (aIf (aAndT (aTest (aOp aGt (aBlt aLen (aCons (aVar 6) aNil)) (aC (.int 0)))) (aNotT (aTest (aCall sp__law_equal (aCons (aCall sp__law_tried (aCons (aOp aIx (aVar 4) (aC (.int 1))) (aCons (aVar 1) aNil))) (aCons (aTup (aCons (aC (.str (tl "NoSuchLine"))) (aCons (aTup (aCons (aOp aIx (aVar 6) (aC (.int 0))) aNil)) aNil))) aNil)))))) (aRet (aC (.bl false))) aNext) as__law_struckright_10)
def as__law_struckright_7 : AS := (aSeq (aAsg (aFrz (aLc (aIter (aVar 1)) (agName 7) (aTest (aOp aNiS (aVar 7) (aVar 2))) (aVar 7) [7])) (agName 6)) as__law_struckright_8)
def as__law_struckright_5 : AS := (aSeq (aIf (aOrT (aNotT (aTest (aCall sp__law_equal (aCons (aCall sp__law_tried (aCons (aVar 0) (aCons (aVar 3) aNil))) (aCons (aVar 5) aNil))))) (aNotT (aTest (aCall sp__law_equal (aCons (aCall sp__law_tried (aCons (aOp aIx (aVar 4) (aC (.int 1))) (aCons (aVar 3) aNil))) (aCons (aVar 5) aNil)))))) (aRet (aC (.bl false))) aNext) as__law_struckright_7)
def as__law_struckright_4 : AS := (aSeq (aAsg (aTup (aCons (aC (.str (tl ""))) (aCons (aCall sp__law_leftover (aCons (aVar 0) (aCons (aVar 3) aNil))) aNil))) (agName 5)) as__law_struckright_5)
def as__law_struckright_2 : AS := (aSeq (aIf (aNotT (aTest (aCall sp__law_equal (aCons (aVar 4) (aCons (aTup (aCons (aC (.str (tl ""))) (aCons (aCall sp__law_leftover (aCons (aVar 0) (aCons (aVar 2) aNil))) aNil))) aNil))))) (aRet (aC (.bl false))) aNext) as__law_struckright_4)
def as__law_struckright : AS := (aSeq (aAsg (aCall sp__law_tried (aCons (aVar 0) (aCons (aVar 2) aNil))) (agName 4)) as__law_struckright_2)

theorem pure__law_struckright (ds : List D) (A : Ah) (q : D → Ah → Prop) (x : AX) : sp__law_struckright ds A q x → as__law_struckright (endsA (shr q) x) (startA ["tree", "lines", "lot", "inner", "told", "due", "lost", "line"] ds) A := by
  rintro ⟨T, lines, lot, inner, rfl, hT, hs, hl, hlot, hln, hin, hinn, h⟩
  have hz := hT.sz
  have hlA : Asc lines := by rw [hl]; exact srtN_asc hT.nd
  have hll : lines.length ≤ 24 := by rw [hl, (srtN_perm _).length_eq]; exact hT.lines
  have hmem : ∀ c, c ∈ lines ↔ c ∈ T.lv := fun c => by rw [hl]; exact (srtN_perm T.lv).mem_iff
  have lotl := hlot.length_le
  have innl := hin.length_le
  have lotm : ∀ c ∈ lot, c ∈ T.lv := fun c m => (hmem c).mp (hlot.subset m)
  have innm : ∀ c ∈ inner, c ∈ T.lv := fun c m => lotm c (hin.subset m)
  have lotA : Asc lot := hlA.sublist hlot
  have innA : Asc inner := lotA.sublist hin
  obtain ⟨w, hw, wk, ws, wl⟩ := stk_some hT lotm hln
  obtain ⟨v, hv, vk, vs, vl⟩ := stk_some hT innm hinn
  have wmem : ∀ c, c ∈ w.lv ↔ c ∈ lot := fun c => by
    rw [wl, List.mem_filter]
    exact ⟨fun ⟨_, z⟩ => of_decide_eq_true z, fun m => ⟨lotm c m, decide_eq_true m⟩⟩
  have wsrt : srtN w.lv = lot := (srtN_eq wk.nd lotA fun c => (wmem c).symm).symm
  have hwz := wk.sz
  have hvw : w.stk inner = some v := by
    have e := Tr.stp_stp (fun c => decide (c ∈ lot)) (fun c => decide (c ∈ inner)) T
    rw [← Tr.stk_stp, hw] at e
    have e : w.stp (fun c => decide (c ∈ inner)) = _ := e
    rw [Tr.stk_stp, e, ← hv, Tr.stk_stp]
    refine Tr.stp_congr fun c _ => ?_
    by_cases m : c ∈ inner
    · simp [m, hin.subset m]
    · simp [m]
  have hTall : T.stk lines = some T := by
    rw [Tr.stk_stp]
    exact Tr.stp_all hT.tru hs fun c m => by simpa using (hmem c).mpr m
  obtain ⟨nw, pw, hnw⟩ := told_pl wk
  obtain ⟨nv, pv, hnv⟩ := told_pl vk
  obtain ⟨nt, pt, hnt⟩ := told_pl hT
  have hlne : lines ≠ [] := fun z => by rw [z] at hlot; exact hln (List.sublist_nil.mp hlot)
  (conv => whnf)
  refine ⟨T, lot, rfl, by omega, hs, hT.lit, by omega, ?_⟩
  rw [tried_ok hT hw lotA lotm hln]
  (conv => whnf)
  refine ⟨T, w, lot, rfl, hT, hs, hw, ?_⟩
  (conv => whnf)
  refine ⟨Nat.le_of_ble_eq_true rfl, ?_⟩
  (conv => whnf)
  refine ⟨_, nw, rfl, pw, hnw, ?_⟩
  (conv => whnf)
  refine ⟨fun z => Bool.noConfusion z, fun _ => ?_⟩
  (conv => whnf)
  refine ⟨T, v, inner, rfl, hT, hs, hv, ?_⟩
  (conv => whnf)
  refine ⟨Nat.le_of_ble_eq_true rfl, ?_⟩
  (conv => whnf)
  refine ⟨T, inner, rfl, by omega, hs, hT.lit, by omega, ?_⟩
  rw [tried_ok hT hv innA innm hinn]
  (conv => whnf)
  refine ⟨_, nv, rfl, pv, hnv, ?_⟩
  (conv => whnf)
  refine ⟨fun z => Bool.noConfusion z, fun _ => ?_⟩
  (conv => whnf)
  refine ⟨_, atI_one', ?_⟩
  (conv => whnf)
  refine ⟨w, inner, rfl, by omega, ws, wk.lit, by omega, ?_⟩
  rw [tried_ok wk hvw innA (fun c m => (wmem c).mpr (hin.subset m)) hinn]
  (conv => whnf)
  refine ⟨_, nv, rfl, pv, hnv, ?_⟩
  (conv => whnf)
  refine ⟨fun z => Bool.noConfusion z, fun _ => ?_⟩
  (conv => whnf)
  refine lc_fl lines D.str (fun c => !decide (c ∈ lot)) D.str (fun _ _ => by exact trivial) (by rw [big_eq]; omega) (fun c hc A' κ sk G h1 h2 => ?_) ?_
  · (conv => whnf)
    refine ⟨rfl, sc_strs lot, ?_⟩
    (conv => whnf)
    refine ⟨fun e => h1 ?_, fun e => h2 ?_⟩
    · have := inD_strF.mp (show inD (.str c) (lot.map D.str) = false by simpa using e)
      rw [decide_eq_false this]; rfl
    · have := inD_str.mp (show inD (.str c) (lot.map D.str) = true by simpa using e)
      rw [decide_eq_true this]; rfl
  generalize hlost : lines.filter (fun c => !decide (c ∈ lot)) = lost
  have fin : ∀ a b c d e : Option D, as__law_struckright_10 (endsA (shr q) x) [some T.d, some (.tup (lines.map D.str)), some (.tup (lot.map D.str)), some (.tup (inner.map D.str)), a, b, c, d] A := by
    intro a b c d e
    (conv => whnf)
    refine ⟨T, lines, rfl, by omega, hs, hT.lit, by omega, ?_⟩
    rw [tried_ok hT hTall hlA (fun c m => (hmem c).mp m) hlne]
    (conv => whnf)
    refine ⟨Nat.le_of_ble_eq_true rfl, ?_⟩
    (conv => whnf)
    exact ⟨_, nt, rfl, pt, hnt, shr_same h⟩
  cases lost with
  | nil =>
    (conv => whnf)
    refine ⟨fun z => Bool.noConfusion z, fun _ => ?_⟩
    (conv => whnf)
    refine ⟨fun z => Bool.noConfusion z, fun _ => ?_⟩
    exact fin _ _ _ _ none
  | cons c r =>
    obtain ⟨X, Y, e1, e2, e3, _⟩ := List.filter_eq_cons_iff.mp hlost
    have hk : knoF lot lines = some (.inl c) := by
      rw [e1]
      refine knoF_in (fun d m => ?_) ((e1 ▸ hlA : Asc (X ++ c :: Y)).sublist (List.sublist_append_left _ _)) (by simpa using e3)
      have := e2 d m
      simpa using this
    have hto : triedD w lines = .tup [.str (tl "NoSuchLine"), .tup [.str c]] := by
      unfold triedD
      rw [wk.walk]
      show (match knoF (srtN w.lv) lines with | some e => _ | none => _) = _
      rw [wsrt, hk]
      rfl
    (conv => whnf)
    refine ⟨fun _ => ?_, fun z => ?_⟩
    · (conv => whnf)
      refine ⟨_, atI_one', ?_⟩
      (conv => whnf)
      refine ⟨w, lines, rfl, by omega, ws, wk.lit, by omega, ?_⟩
      rw [hto]
      (conv => whnf)
      refine ⟨_, atI_zero', ?_⟩
      (conv => whnf)
      refine ⟨Nat.le_of_ble_eq_true rfl, ?_⟩
      (conv => whnf)
      refine ⟨Nat.le_of_ble_eq_true rfl, ?_⟩
      (conv => whnf)
      refine ⟨_, _, rfl, .tup (.cons (.str _) (.cons (.tup (.cons (.str _) .nil)) .nil)), by decide, ?_⟩
      (conv => whnf)
      refine ⟨fun z => Bool.noConfusion z, fun _ => ?_⟩
      exact fin _ _ _ _ none
    · exfalso
      have z := of_decide_eq_false z
      rw [List.length_map, List.length_cons] at z
      omega
theorem len__law_struckright (ds : List D) (A : Ah) (q : D → Ah → Prop) (x : AX) : sp__law_struckright ds A q x → ds.length = 4 := by
  rintro ⟨T, lines, lot, inner, rfl, _⟩; rfl
def as_law_10 : AS := (aIf (aNotT (aTest (aCall sp__law_equal (aCons (aCall sp__law_tried (aCons (aOp aIx (aVar 6) (aC (.int 0))) (aCons (aVar 7) aNil))) (aCons (aTup (aCons (aOp aIx (aVar 6) (aC (.int 1))) (aCons (aOp aIx (aVar 6) (aC (.int 2))) aNil))) aNil))))) (aRet (aC (.bl false))) aNext)
def as_law_14 : AS := (aRet (aCall sp__law_equal (aCons (aCall sp__law_tried (aCons (aVar 2) (aCons (aVar 4) aNil))) (aCons (aTup (aCons (aC (.str (tl ""))) (aCons (aCall sp__law_leftover (aCons (aVar 2) (aCons (aVar 4) aNil))) aNil))) aNil))))
def as_law_12 : AS := (aSeq (aIf (aNotT (aTest (aCall sp__law_equal (aCons (aCall sp__law_tried (aCons (aVar 2) (aCons (aOp aIx (aVar 5) (aC (.int 0))) aNil))) (aCons (aTup (aCons (aOp aIx (aVar 5) (aC (.int 1))) (aCons (aOp aIx (aVar 5) (aC (.int 2))) aNil))) aNil))))) (aRet (aC (.bl false))) aNext) as_law_14)
def as_law_9 : AS := (aSeq (aFor (aIter (aLstF (aCons (aVar 4) (aCons (aOp aIx (aVar 5) (aC (.int 0))) (aCons (aVar 3) aNil))))) (agName 7) as_law_10) as_law_12)
def as_law_7 : AS := (aSeq (aIf (aOrT (aNotT (aTest (aCall sp__law_struckright (aCons (aVar 2) (aCons (aVar 3) (aCons (aVar 4) (aCons (aOp aIx (aVar 1) (aC (.int 4))) aNil))))))) (aNotT (aTest (aCall sp__law_struckright (aCons (aOp aIx (aVar 1) (aC (.int 1))) (aCons (aVar 3) (aCons (aVar 4) (aCons (aOp aIx (aVar 1) (aC (.int 4))) aNil)))))))) (aRet (aC (.bl false))) aNext) as_law_9)
def as_law_6 : AS := (aSeq (aAsg (aOp aIx (aVar 1) (aC (.int 6))) (agName 6)) as_law_7)
def as_law_5 : AS := (aSeq (aAsg (aOp aIx (aVar 1) (aC (.int 5))) (agName 5)) as_law_6)
def as_law_4 : AS := (aSeq (aAsg (aOp aIx (aVar 1) (aC (.int 3))) (agName 4)) as_law_5)
def as_law_3 : AS := (aSeq (aAsg (aOp aIx (aVar 1) (aC (.int 2))) (agName 3)) as_law_4)
def as_law_2 : AS := (aSeq (aAsg (aOp aIx (aVar 1) (aC (.int 0))) (agName 2)) as_law_3)
def as_law : AS := (aSeq (aAsg (aCall sp__law_world (aCons (aCall sp__law_store (aCons (aVar 0) aNil)) aNil)) (agName 1)) as_law_2)

theorem vs_pl (f : Flt) (h : ∀ p, f = .tree p → p.length ≤ 1000) : ∃ n, Pl n (.tup [.str (tl f.cls), .tup f.vs]) ∧ n < 400000 := by
  have two : ∀ d : D, Pl 1 d → ∀ c : List Nat, Pl (1 + (1 + 0 + 1 + 0) + 1) (.tup [.str c, .tup [d]]) := fun d hd c => .tup (.cons (.str _) (.cons (.tup (.cons hd .nil)) .nil))
  have three : ∀ (a : List Nat) (i : Int) (c : List Nat), Pl (1 + (1 + (1 + 0) + 1 + 0) + 1) (.tup [.str c, .tup [.str a, .int i]]) := fun a i c => .tup (.cons (.str _) (.cons (.tup (.cons (.str _) (.cons (.int _) .nil))) .nil))
  cases f with
  | name n => exact ⟨_, two _ (.str _) _, by decide⟩
  | twice n => exact ⟨_, two _ (.str _) _, by decide⟩
  | lines => exact ⟨_, three _ _ _, by decide⟩
  | depth => exact ⟨_, three _ _ _, by decide⟩
  | places => exact ⟨_, three _ _ _, by decide⟩
  | tree p =>
    have := h p rfl
    exact ⟨_, .tup (.cons (.str _) (.cons (.tup (.cons (plPath p) .nil)) .nil)), by omega⟩
theorem pure_law (ds : List D) (A : Ah) (q : D → Ah → Prop) (x : AX) : sp_law ds A q x → as_law (endsA (shr q) x) (startA ["script", "world", "tree", "lines", "lot", "wrong", "bad", "thing"] ds) A := by
  rintro ⟨is, rfl, h⟩
  (conv => whnf)
  refine ⟨is, rfl, fun l A1 S1 => ?_⟩
  (conv => whnf)
  refine ⟨l, rfl, S1, fun T O lot inner M e t f A2 hT hs hO hOs hOp h1 h2 h3 h4 hM hk g1 g2 g3 g4 g5 => ?_⟩
  have hTz := hT.sz
  have hlen : (srtN T.lv).length ≤ 24 := by rw [(srtN_perm _).length_eq]; exact hT.lines
  have hll := h1.length_le
  have hOT : srtN T.lv = srtN O.lv := srtN_eq hO.nd (srtN_asc hT.nd) fun c => ((srtN_perm T.lv).mem_iff).trans hOp.mem_iff.symm
  (conv => whnf)
  refine ⟨_, atI_zero', ?_⟩
  (conv => whnf)
  refine ⟨_, rfl, ?_⟩
  (conv => whnf)
  refine ⟨_, rfl, ?_⟩
  (conv => whnf)
  refine ⟨_, rfl, ?_⟩
  (conv => whnf)
  refine ⟨_, rfl, ?_⟩
  (conv => whnf)
  refine ⟨_, rfl, ?_⟩
  (conv => whnf)
  refine ⟨T, srtN T.lv, lot, inner, rfl, hT, hs, rfl, h1, h2, h3, h4, ?_⟩
  (conv => whnf)
  refine ⟨fun z => Bool.noConfusion z, fun _ => ?_⟩
  (conv => whnf)
  refine ⟨_, atI_one', ?_⟩
  (conv => whnf)
  refine ⟨_, rfl, ?_⟩
  (conv => whnf)
  refine ⟨O, srtN T.lv, lot, inner, rfl, hO, hOs, hOT, h1, h2, h3, h4, ?_⟩
  (conv => whnf)
  refine ⟨fun z => Bool.noConfusion z, fun _ => ?_⟩
  (conv => whnf)
  refine ⟨_, atI_zero', ?_⟩
  (conv => whnf)
  refine ⟨Nat.le_of_ble_eq_true rfl, ?_⟩
  have lotm : ∀ c ∈ lot, c ∈ T.lv := fun c m => (srtN_perm T.lv).mem_iff.mp (h1.subset m)
  obtain ⟨w, hw, wk, ws, wl⟩ := stk_some hT lotm h2
  have htl : ∀ L : List (List Nat), triedD t L = .tup [.str (tl f.cls), .tup f.vs] := fun L => by unfold triedD; rw [g4]
  have htM : triedD T M = .tup [.str (tl (kCls e)), .tup [kVal e]] := by
    unfold triedD
    rw [hT.walk]
    show (match knoF (srtN T.lv) M with | some e => _ | none => _) = _
    rw [hk]
  obtain ⟨nf, pf, hnf⟩ := vs_pl f g5
  obtain ⟨nw, pw, hnw⟩ := told_pl wk
  refine ⟨fun i Γ A' => A' = A2 ∧ ∃ b : Option D, Γ = [some (.lof (is.map D.int)), some (.fl [T.d, O.d, .tup ((srtN T.lv).map D.str), .tup (lot.map D.str), .tup (inner.map D.str), .fl [.tup (M.map D.str), .str (tl (kCls e)), .tup [kVal e]], .fl [t.d, .str (tl f.cls), .tup f.vs]]), some T.d, some (.tup ((srtN T.lv).map D.str)), some (.tup (lot.map D.str)), some (.fl [.tup (M.map D.str), .str (tl (kCls e)), .tup [kVal e]]), some (.fl [t.d, .str (tl f.cls), .tup f.vs]), b],
    ⟨rfl, _, rfl⟩, fun _ _ _ _ _ => trivial, ?_, ?_⟩
  · rintro i Γ A' (hi : i < 3) ⟨rfl, b, rfl⟩
    obtain ⟨L, hL, hLl⟩ : ∃ L : List (List Nat), [D.tup (lot.map D.str), D.tup (M.map D.str), D.tup ((srtN T.lv).map D.str)].getD i .non = .tup (L.map D.str) ∧ L.length ≤ 100000 := by
      have : i = 0 ∨ i = 1 ∨ i = 2 := by omega
      rcases this with rfl | rfl | rfl
      · exact ⟨lot, rfl, by omega⟩
      · exact ⟨M, rfl, by omega⟩
      · exact ⟨_, rfl, by omega⟩
    show agName 7 ([D.tup (lot.map D.str), D.tup (M.map D.str), D.tup ((srtN T.lv).map D.str)].getD i .non) _ _ _
    rw [hL]
    (conv => whnf)
    refine ⟨_, atI_zero', ?_⟩
    (conv => whnf)
    refine ⟨t, L, rfl, hLl, g1, g2, by omega, ?_⟩
    rw [htl]
    (conv => whnf)
    refine ⟨_, atI_one', ?_⟩
    (conv => whnf)
    refine ⟨_, rfl, ?_⟩
    (conv => whnf)
    refine ⟨Nat.le_of_ble_eq_true rfl, ?_⟩
    (conv => whnf)
    refine ⟨_, nf, rfl, pf, hnf, ?_⟩
    (conv => whnf)
    refine ⟨fun z => Bool.noConfusion z, fun _ => ?_⟩
    exact ⟨rfl, _, rfl⟩
  · rintro Γ A' ⟨rfl, b, rfl⟩
    (conv => whnf)
    refine ⟨_, atI_zero', ?_⟩
    (conv => whnf)
    refine ⟨T, M, rfl, by omega, hs, hT.lit, by omega, ?_⟩
    rw [htM]
    (conv => whnf)
    refine ⟨_, atI_one', ?_⟩
    (conv => whnf)
    refine ⟨_, rfl, ?_⟩
    (conv => whnf)
    refine ⟨Nat.le_of_ble_eq_true rfl, ?_⟩
    (conv => whnf)
    refine ⟨_, 4, rfl, ?_, by decide, ?_⟩
    · cases e with
      | inl c => exact .tup (.cons (n := 1) (.str _) (.cons (n := 2) (m := 0) (.tup (.cons (n := 1) (m := 0) (.str _) .nil)) .nil))
      | inr i => exact .tup (.cons (n := 1) (.str _) (.cons (n := 2) (m := 0) (.tup (.cons (n := 1) (m := 0) (.int _) .nil)) .nil))
    (conv => whnf)
    refine ⟨fun z => Bool.noConfusion z, fun _ => ?_⟩
    (conv => whnf)
    refine ⟨T, lot, rfl, by omega, hs, hT.lit, by omega, ?_⟩
    rw [tried_ok hT hw ((srtN_asc hT.nd).sublist h1) lotm h2]
    (conv => whnf)
    refine ⟨T, w, lot, rfl, hT, hs, hw, ?_⟩
    (conv => whnf)
    refine ⟨Nat.le_of_ble_eq_true rfl, ?_⟩
    (conv => whnf)
    exact ⟨_, nw, rfl, pw, hnw, shr_same (h _)⟩
theorem len_law (ds : List D) (A : Ah) (q : D → Ah → Prop) (x : AX) : sp_law ds A q x → ds.length = 1 := by
  rintro ⟨is, rfl, _⟩; rfl
section
variable {P : Program} {w : World} {K : Fg} {mg : Str → Option Value} {base : Heap}
theorem tm_is_name (T : Tx K mg P w base) {fd : FuncData} {ad : Addr} (F : FunD K "is_name" "is_name" (defArgs st_is_name) (defBody st_is_name) (defScope st_is_name) [] [] ad fd)
    (len : ∀ ds A q e, sp_is_name ds A q e → ds.length = 1) (pure : ∀ ds A q x, sp_is_name ds A q x → (as_is_name) (endsA q x) (startA ["name", "sign"] ds) A) : FnA P w K mg base 1 ad fd ["name"] sp_is_name := by
  refine fnA_of F sc_is_name len (fun cdv A outer s H E hr tk hp => ?_) pure
  have hu := hr.units
  exact ⟨_, (gb_cons (gs_if (gt_not (gt_chain ca_le ca_le ga_int (ga_blt ba_len T.f_len (gs_cons (ga_var (i := 0)) gs_nil)) ga_int)) (gb_one (gs_ret ga_bl)) gb_nil)
    (gb_cons (gs_if (gt_cmp ca_in (ga_var (i := 0)) (ga_globT T.c_KEPT_WORDS)) (gb_one (gs_ret ga_bl)) gb_nil)
    (gb_cons (gs_if (gt_bool (gw_or (gt_cmp ca_ni (ga_ix (ga_var (i := 0)) ga_int) (ga_globS T.c_LETTERS)) (gw_or1 (gt_cmp (ca_eq hu) (ga_ix (ga_var (i := 0)) (ga_neg ga_int)) ga_str)))) (gb_one (gs_ret ga_bl)) gb_nil)
    (gb_cons (gs_for hp rfl (gi_seq (ga_var (i := 0))) (gg_name (i := 1) sc_is_name.nd) (gb_one (gs_if (gt_cmp ca_ni (ga_var (i := 1)) (ga_globS T.c_NAME_SIGNS)) (gb_one (gs_ret ga_bl)) gb_nil)))
    (gb_one (gs_ret (ga_cmp ca_ni ga_str (ga_var (i := 0)))))))))⟩

theorem tm_looks_like_place (T : Tx K mg P w base) {fd : FuncData} {ad : Addr} (F : FunD K "looks_like_place" "looks_like_place" (defArgs st_looks_like_place) (defBody st_looks_like_place) (defScope st_looks_like_place) [] [] ad fd)
    (len : ∀ ds A q e, sp_looks_like_place ds A q e → ds.length = 1) (pure : ∀ ds A q x, sp_looks_like_place ds A q x → (as_looks_like_place) (endsA (shr q) x) (startA ["nest"] ds) A) : FnA P w K mg base 1 ad fd ["nest"] sp_looks_like_place := by
  refine fnB_of F sc_looks_like_place len (fun cdv A outer s H E hr tk hp => ?_) pure
  have hu := hr.units
  exact ⟨_, (gb_cons (gs_if (gt_bool (gw_or (gt_not (gt_val (ga_blt ba_isi T.f_isinstance (gs_cons (ga_var (i := 0)) (gs_cons (ga_bltn T.f_tuple (v := .ty "tuple") (u := .type "tuple") (by decide +kernel) rfl (fun _ => .ty _)) gs_nil))))) (gw_or1 (gt_cmp (ca_ne hu) (ga_blt ba_len T.f_len (gs_cons (ga_var (i := 0)) gs_nil)) ga_int)))) (gb_one (gs_ret ga_bl)) gb_nil)
    (gb_one (gs_ret (ga_and (ga_cmp (ca_inU hu) (ga_ix (ga_var (i := 0)) ga_int) (ga_globT T.c_KINDS)) (ga_and (ga_blt ba_isi T.f_isinstance (gs_cons (ga_ix (ga_var (i := 0)) ga_int) (gs_cons (ga_bltn T.f_tuple (v := .ty "tuple") (u := .type "tuple") (by decide +kernel) rfl (fun _ => .ty _)) gs_nil))) (ga_one (ga_cmp ca_gt (ga_blt ba_len T.f_len (gs_cons (ga_ix (ga_var (i := 0)) ga_int) gs_nil)) ga_int)))))))⟩

theorem tm_leaves_under (T : Tx K mg P w base) {fd : FuncData} {ad : Addr} (F : FunD K "leaves_under" "leaves_under" (defArgs st_leaves_under) (defBody st_leaves_under) (defScope st_leaves_under) [] [] ad fd)
    (len : ∀ ds A q e, sp_leaves_under ds A q e → ds.length = 1) (pure : ∀ ds A q x, sp_leaves_under ds A q x → (as_leaves_under) (endsA (shr q) x) (startA ["subtree", "left", "found", "one"] ds) A) : FnA P w K mg base 1 ad fd ["subtree"] sp_leaves_under := by
  refine fnB_of F sc_leaves_under len (fun cdv A outer s H E hr tk hp => ?_) pure
  have hu := hr.units
  exact ⟨_, (gb_cons (gs_set (i := 1) sc_leaves_under.nd (ga_lst (gs_cons (ga_var (i := 0)) gs_nil)))
    (gb_cons (gs_set (i := 2) sc_leaves_under.nd (ga_lst gs_nil))
    (gb_cons (gs_while hp (gt_truth (ga_var (i := 1))) (gb_cons (gs_set (i := 3) sc_leaves_under.nd (ga_mL0 ml_pop (ga_var (i := 1))))
    (gb_one (gs_if (gt_val (ga_blt ba_isi T.f_isinstance (gs_cons (ga_var (i := 3)) (gs_cons (ga_bltn T.f_str (v := .ty "str") (u := .type "str") (by decide +kernel) rfl (fun _ => .ty _)) gs_nil)))) (gb_one (gs_expr (ga_mL ml_append (ga_var (i := 2)) (gs_cons (ga_var (i := 3)) gs_nil)))) (gb_one (gs_expr (ga_mL ml_extendU (ga_var (i := 1)) (gs_cons (ga_revU (ga_ix (ga_var (i := 3)) ga_int)) gs_nil))))))))
    (gb_one (gs_ret (ga_frz (ga_var (i := 2))))))))⟩

theorem tm__law_mix (T : Tx K mg P w base) {fd : FuncData} {ad : Addr} (F : FunD K "_law_mix" "_law_mix" (defArgs st__law_mix) (defBody st__law_mix) (defScope st__law_mix) [] [] ad fd)
    (len : ∀ ds A q e, sp__law_mix ds A q e → ds.length = 1) (pure : ∀ ds A q x, sp__law_mix ds A q x → (as__law_mix) (endsA q x) (startA ["number", "large", "value"] ds) A) : FnA P w K mg base 1 ad fd ["number"] sp__law_mix := by
  refine fnA_of F sc__law_mix len (fun cdv A outer s H E hr tk hp => ?_) pure
  have hu := hr.units
  exact ⟨_, (gb_cons (gs_set (i := 1) sc__law_mix.nd ga_int)
    (gb_cons (gs_set (i := 2) sc__law_mix.nd (ga_mod (ga_bty ba_int T.f_int (gs_cons (ga_var (i := 0)) gs_nil)) (ga_var (i := 1))))
    (gb_cons (gs_set (i := 2) sc__law_mix.nd (ga_mod (ga_bty ba_int T.f_int (gs_cons (ga_add (ga_mul (ga_var (i := 2)) ga_int) ga_int) gs_nil)) (ga_var (i := 1))))
    (gb_cons (gs_set (i := 2) sc__law_mix.nd (ga_mod (ga_bty ba_int T.f_int (gs_cons (ga_add (ga_add (ga_mul (ga_var (i := 2)) (ga_var (i := 2))) (ga_mul (ga_div (ga_var (i := 2)) ga_int) ga_int)) ga_int) gs_nil)) (ga_var (i := 1))))
    (gb_one (gs_ret (ga_mod (ga_bty ba_int T.f_int (gs_cons (ga_add (ga_add (ga_mul (ga_div (ga_var (i := 2)) ga_int) ga_int) (ga_mul (ga_var (i := 2)) ga_int)) ga_int) gs_nil)) (ga_var (i := 1)))))))))⟩

theorem tm__law_lotof (T : Tx K mg P w base) {fd : FuncData} {ad : Addr} (F : FunD K "_law_lotof" "_law_lotof" (defArgs st__law_lotof) (defBody st__law_lotof) (defScope st__law_lotof) [] [] ad fd)
    (len : ∀ ds A q e, sp__law_lotof ds A q e → ds.length = 2) (pure : ∀ ds A q x, sp__law_lotof ds A q x → (as__law_lotof) (endsA (shr q) x) (startA ["lines", "number", "found", "line"] ds) A) : FnA P w K mg base 1 ad fd ["lines", "number"] sp__law_lotof := by
  refine fnB_of F sc__law_lotof len (fun cdv A outer s H E hr tk hp => ?_) pure
  have hu := hr.units
  exact ⟨_, (gb_cons (gs_set (i := 2) sc__law_lotof.nd (ga_lst gs_nil))
    (gb_cons (gs_for hp rfl (gi_seq (ga_var (i := 0))) (gg_name (i := 3) sc__law_lotof.nd) (gb_cons (gs_if (gt_cmp (ca_eq hu) (ga_mod (ga_bty ba_int T.f_int (gs_cons (ga_var (i := 1)) gs_nil)) ga_int) ga_int) (gb_one (gs_expr (ga_mL ml_append (ga_var (i := 2)) (gs_cons (ga_var (i := 3)) gs_nil)))) gb_nil)
    (gb_one (gs_set (i := 1) sc__law_lotof.nd (ga_div (ga_var (i := 1)) ga_int)))))
    (gb_one (gs_ret (ga_bty ba_tuple T.f_tuple (gs_cons (ga_var (i := 2)) gs_nil))))))⟩

theorem tm__law_nodes (T : Tx K mg P w base) {fd : FuncData} {ad : Addr} (F : FunD K "_law_nodes" "_law_nodes" (defArgs st__law_nodes) (defBody st__law_nodes) (defScope st__law_nodes) [] [] ad fd)
    (len : ∀ ds A q e, sp__law_nodes ds A q e → ds.length = 1) (pure : ∀ ds A q x, sp__law_nodes ds A q x → (as__law_nodes) (endsA (shr q) x) (startA ["tree", "rows", "stack", "k", "row", "kids", "i", "at"] ds) A) : FnA P w K mg base 1 ad fd ["tree"] sp__law_nodes := by
  refine fnB_of F sc__law_nodes len (fun cdv A outer s H E hr tk hp => ?_) pure
  have hu := hr.units
  exact ⟨_, (gb_cons (gs_set (i := 1) sc__law_nodes.nd (ga_lst gs_nil))
    (gb_cons (gs_set (i := 2) sc__law_nodes.nd (ga_lst (gs_cons (ga_lstF (gs_cons (ga_var (i := 0)) (gs_cons (ga_neg ga_int) (gs_cons (ga_tup gs_nil) gs_nil)))) gs_nil)))
    (gb_cons (gs_for hp rfl (gi_rng1 (gs_cons ga_int gs_nil) T.f_range) (gg_name (i := 3) sc__law_nodes.nd) (gb_cons (gs_if (gt_cmp (ca_eq hu) (ga_blt ba_len T.f_len (gs_cons (ga_var (i := 2)) gs_nil)) ga_int) (gb_one gs_break) gb_nil)
    (gb_cons (gs_set (i := 4) sc__law_nodes.nd (ga_mL0 ml_pop (ga_var (i := 2))))
    (gb_cons (gs_expr (ga_mL ml_append (ga_var (i := 1)) (gs_cons (ga_var (i := 4)) gs_nil)))
    (gb_one (gs_if (gt_val (ga_blt ba_isi T.f_isinstance (gs_cons (ga_ix (ga_var (i := 4)) ga_int) (gs_cons (ga_bltn T.f_tuple (v := .ty "tuple") (u := .type "tuple") (by decide +kernel) rfl (fun _ => .ty _)) gs_nil)))) (gb_cons (gs_set (i := 5) sc__law_nodes.nd (ga_frz (ga_bty ba_list T.f_list (gs_cons (ga_ix (ga_ix (ga_var (i := 4)) ga_int) ga_int) gs_nil))))
    (gb_one (gs_for hp rfl (gi_rng1 (gs_cons (ga_blt ba_len T.f_len (gs_cons (ga_var (i := 5)) gs_nil)) gs_nil) T.f_range) (gg_name (i := 6) sc__law_nodes.nd) (gb_cons (gs_set (i := 7) sc__law_nodes.nd (ga_sub (ga_sub (ga_blt ba_len T.f_len (gs_cons (ga_var (i := 5)) gs_nil)) ga_int) (ga_var (i := 6))))
    (gb_one (gs_expr (ga_mL ml_append (ga_var (i := 2)) (gs_cons (ga_lstF (gs_cons (ga_ix (ga_var (i := 5)) (ga_var (i := 7))) (gs_cons (ga_var (i := 3)) (gs_cons (ga_add (ga_ix (ga_var (i := 4)) ga_int) (ga_tup (gs_cons (ga_var (i := 7)) gs_nil))) gs_nil)))) gs_nil)))))))) gb_nil))))))
    (gb_one (gs_ret (ga_frz (ga_var (i := 1))))))))⟩

theorem tm__law_at (T : Tx K mg P w base) {fd : FuncData} {ad : Addr} (F : FunD K "_law_at" "_law_at" (defArgs st__law_at) (defBody st__law_at) (defScope st__law_at) [] [] ad fd)
    (len : ∀ ds A q e, sp__law_at ds A q e → ds.length = 2) (pure : ∀ ds A q x, sp__law_at ds A q x → (as__law_at) (endsA (shr q) x) (startA ["tree", "path", "k"] ds) A) : FnA P w K mg base 1 ad fd ["tree", "path"] sp__law_at := by
  refine fnB_of F sc__law_at len (fun cdv A outer s H E hr tk hp => ?_) pure
  have hu := hr.units
  exact ⟨_, (gb_cons (gs_for hp rfl (gi_seq (ga_var (i := 1))) (gg_name (i := 2) sc__law_at.nd) (gb_one (gs_set (i := 0) sc__law_at.nd (ga_ix (ga_ix (ga_var (i := 0)) ga_int) (ga_var (i := 2))))))
    (gb_one (gs_ret (ga_var (i := 0)))))⟩

theorem tm__law_put (T : Tx K mg P w base) {fd : FuncData} {ad : Addr} (F : FunD K "_law_put" "_law_put" (defArgs st__law_put) (defBody st__law_put) (defScope st__law_put) [] [] ad fd)
    (len : ∀ ds A q e, sp__law_put ds A q e → ds.length = 3) (pure : ∀ ds A q x, sp__law_put ds A q x → (as__law_put) (endsA (shr q) x) (startA ["tree", "path", "new", "above", "k", "i", "at", "node"] ds) A) : FnA P w K mg base 1 ad fd ["tree", "path", "new"] sp__law_put := by
  refine fnB_of F sc__law_put len (fun cdv A outer s H E hr tk hp => ?_) pure
  have hu := hr.units
  exact ⟨_, (gb_cons (gs_set (i := 3) sc__law_put.nd (ga_lst gs_nil))
    (gb_cons (gs_for hp rfl (gi_seq (ga_var (i := 1))) (gg_name (i := 4) sc__law_put.nd) (gb_cons (gs_expr (ga_mL ml_append (ga_var (i := 3)) (gs_cons (ga_var (i := 0)) gs_nil)))
    (gb_one (gs_set (i := 0) sc__law_put.nd (ga_ix (ga_ix (ga_var (i := 0)) ga_int) (ga_var (i := 4)))))))
    (gb_cons (gs_for hp rfl (gi_rng1 (gs_cons (ga_blt ba_len T.f_len (gs_cons (ga_var (i := 3)) gs_nil)) gs_nil) T.f_range) (gg_name (i := 5) sc__law_put.nd) (gb_cons (gs_set (i := 6) sc__law_put.nd (ga_ix (ga_var (i := 1)) (ga_sub (ga_sub (ga_blt ba_len T.f_len (gs_cons (ga_var (i := 3)) gs_nil)) ga_int) (ga_var (i := 5)))))
    (gb_cons (gs_set (i := 7) sc__law_put.nd (ga_ix (ga_var (i := 3)) (ga_sub (ga_sub (ga_blt ba_len T.f_len (gs_cons (ga_var (i := 3)) gs_nil)) ga_int) (ga_var (i := 5)))))
    (gb_one (gs_set (i := 2) sc__law_put.nd (ga_tup (gs_cons (ga_ix (ga_var (i := 7)) ga_int) (gs_cons (ga_add (ga_add (ga_sl (ga_ix (ga_var (i := 7)) ga_int) go_none (go_some (ga_var (i := 6)))) (ga_tup (gs_cons (ga_var (i := 2)) gs_nil))) (ga_sl (ga_ix (ga_var (i := 7)) ga_int) (go_some (ga_add (ga_var (i := 6)) ga_int)) go_none)) gs_nil))))))))
    (gb_one (gs_ret (ga_var (i := 2)))))))⟩

theorem tm__law_equal (T : Tx K mg P w base) {fd : FuncData} {ad : Addr} (F : FunD K "_law_equal" "_law_equal" (defArgs st__law_equal) (defBody st__law_equal) (defScope st__law_equal) [] [] ad fd)
    (len : ∀ ds A q e, sp__law_equal ds A q e → ds.length = 2) (pure : ∀ ds A q x, sp__law_equal ds A q x → (as__law_equal) (endsA (shr q) x) (startA ["got", "due", "stack", "k", "one", "two", "x", "i"] ds) A) : FnA P w K mg base 1 ad fd ["got", "due"] sp__law_equal := by
  refine fnB_of F sc__law_equal len (fun cdv A outer s H E hr tk hp => ?_) pure
  have hu := hr.units
  exact ⟨_, (gb_cons (gs_set (i := 2) sc__law_equal.nd (ga_lst (gs_cons (ga_tup (gs_cons (ga_var (i := 0)) (gs_cons (ga_var (i := 1)) gs_nil))) gs_nil)))
    (gb_cons (gs_for hp rfl (gi_rng1 (gs_cons ga_int gs_nil) T.f_range) (gg_name (i := 3) sc__law_equal.nd) (gb_cons (gs_if (gt_cmp (ca_eq hu) (ga_blt ba_len T.f_len (gs_cons (ga_var (i := 2)) gs_nil)) ga_int) (gb_one (gs_ret ga_bl)) gb_nil)
    (gb_cons (gs_set (i := 4) sc__law_equal.nd (ga_ix (ga_ix (ga_var (i := 2)) (ga_neg ga_int)) ga_int))
    (gb_cons (gs_set (i := 5) sc__law_equal.nd (ga_ix (ga_ix (ga_var (i := 2)) (ga_neg ga_int)) ga_int))
    (gb_cons (gs_expr (ga_mL0 ml_pop (ga_var (i := 2))))
    (gb_one (gs_if (gt_val (ga_blt ba_isi T.f_isinstance (gs_cons (ga_var (i := 5)) (gs_cons (ga_bltn T.f_dict (v := .ty "dict") (u := .type "dict") (by decide +kernel) rfl (fun _ => .ty _)) gs_nil)))) (gb_cons (gs_if (gt_bool (gw_or (gt_not (gt_val (ga_blt ba_isi T.f_isinstance (gs_cons (ga_var (i := 4)) (gs_cons (ga_bltn T.f_dict (v := .ty "dict") (u := .type "dict") (by decide +kernel) rfl (fun _ => .ty _)) gs_nil))))) (gw_or (gt_cmp (ca_ne hu) (ga_blt ba_len T.f_len (gs_cons (ga_var (i := 4)) gs_nil)) (ga_blt ba_len T.f_len (gs_cons (ga_var (i := 5)) gs_nil))) (gw_or1 (gt_cmp ca_gt (ga_blt ba_len T.f_len (gs_cons (ga_frz (ga_lc (own := [("x", 6)]) rfl sc__law_equal.nd (gi_seq (ga_frz (ga_bty ba_list T.f_list (gs_cons (ga_var (i := 5)) gs_nil)))) (show BlkOk ["got", "due", "stack", "k", "one", "two", "x", "i"] (defScope st__law_equal) _ [("x", 6)] from ⟨rfl, by decide +kernel, by decide +kernel, by decide +kernel, by decide +kernel⟩) (fun s H C cl fp => (gg_name (i := 6) sc__law_equal.nd)) (fun s H C cl fp => (gts_one (gt_cmp ca_ni (ga_var (i := 6)) (ga_var (i := 4))))) (fun s H C cl fp => (ga_var (i := 6))) (tw_name (by decide)))) gs_nil)) ga_int))))) (gb_one (gs_ret ga_bl)) gb_nil)
    (gb_one (gs_expr (ga_mL ml_extendU (ga_var (i := 2)) (gs_cons (ga_frz (ga_lc (own := [("x", 6)]) rfl sc__law_equal.nd (gi_seq (ga_frz (ga_bty ba_list T.f_list (gs_cons (ga_var (i := 5)) gs_nil)))) (show BlkOk ["got", "due", "stack", "k", "one", "two", "x", "i"] (defScope st__law_equal) _ [("x", 6)] from ⟨rfl, by decide +kernel, by decide +kernel, by decide +kernel, by decide +kernel⟩) (fun s H C cl fp => (gg_name (i := 6) sc__law_equal.nd)) (fun s H C cl fp => gts_nil) (fun s H C cl fp => (ga_tup (gs_cons (ga_ix (ga_var (i := 4)) (ga_var (i := 6))) (gs_cons (ga_ix (ga_var (i := 5)) (ga_var (i := 6))) gs_nil)))) (tw_name (by decide)))) gs_nil))))) (gb_one (gs_if (gt_val (ga_blt ba_isi T.f_isinstance (gs_cons (ga_var (i := 5)) (gs_cons (ga_bltn T.f_tuple (v := .ty "tuple") (u := .type "tuple") (by decide +kernel) rfl (fun _ => .ty _)) gs_nil)))) (gb_cons (gs_if (gt_bool (gw_or (gt_not (gt_val (ga_blt ba_isi T.f_isinstance (gs_cons (ga_var (i := 4)) (gs_cons (ga_bltn T.f_tuple (v := .ty "tuple") (u := .type "tuple") (by decide +kernel) rfl (fun _ => .ty _)) gs_nil))))) (gw_or1 (gt_cmp (ca_ne hu) (ga_blt ba_len T.f_len (gs_cons (ga_var (i := 4)) gs_nil)) (ga_blt ba_len T.f_len (gs_cons (ga_var (i := 5)) gs_nil)))))) (gb_one (gs_ret ga_bl)) gb_nil)
    (gb_one (gs_expr (ga_mL ml_extendU (ga_var (i := 2)) (gs_cons (ga_frz (ga_lc (own := [("i", 7)]) rfl sc__law_equal.nd (gi_rng1 (gs_cons (ga_blt ba_len T.f_len (gs_cons (ga_var (i := 5)) gs_nil)) gs_nil) T.f_range) (show BlkOk ["got", "due", "stack", "k", "one", "two", "x", "i"] (defScope st__law_equal) _ [("i", 7)] from ⟨rfl, by decide +kernel, by decide +kernel, by decide +kernel, by decide +kernel⟩) (fun s H C cl fp => (gg_name (i := 7) sc__law_equal.nd)) (fun s H C cl fp => gts_nil) (fun s H C cl fp => (ga_tup (gs_cons (ga_ix (ga_var (i := 4)) (ga_var (i := 7))) (gs_cons (ga_ix (ga_var (i := 5)) (ga_var (i := 7))) gs_nil)))) (tw_name (by decide)))) gs_nil))))) (gb_one (gs_if (gt_cmp ca_is (ga_var (i := 5)) ga_non) (gb_one (gs_if (gt_cmp ca_isn (ga_var (i := 4)) ga_non) (gb_one (gs_ret ga_bl)) gb_nil)) (gb_one (gs_if (gt_bool (gw_or (gt_cmp (ca_ne hu) (ga_blt ba_isi T.f_isinstance (gs_cons (ga_var (i := 4)) (gs_cons (ga_bltn T.f_str (v := .ty "str") (u := .type "str") (by decide +kernel) rfl (fun _ => .ty _)) gs_nil))) (ga_blt ba_isi T.f_isinstance (gs_cons (ga_var (i := 5)) (gs_cons (ga_bltn T.f_str (v := .ty "str") (u := .type "str") (by decide +kernel) rfl (fun _ => .ty _)) gs_nil)))) (gw_or1 (gt_cmp (ca_ne hu) (ga_blt ba_isi T.f_isinstance (gs_cons (ga_var (i := 4)) (gs_cons (ga_bltn T.f_bool (v := .ty "bool") (u := .type "bool") (by decide +kernel) rfl (fun _ => .ty _)) gs_nil))) (ga_blt ba_isi T.f_isinstance (gs_cons (ga_var (i := 5)) (gs_cons (ga_bltn T.f_bool (v := .ty "bool") (u := .type "bool") (by decide +kernel) rfl (fun _ => .ty _)) gs_nil))))))) (gb_one (gs_ret ga_bl)) (gb_one (gs_if (gt_bool (gw_or (gt_cmp (ca_ne hu) (ga_blt ba_isi T.f_isinstance (gs_cons (ga_var (i := 4)) (gs_cons (ga_bltn T.f_int (v := .ty "int") (u := .type "int") (by decide +kernel) rfl (fun _ => .ty _)) gs_nil))) (ga_blt ba_isi T.f_isinstance (gs_cons (ga_var (i := 5)) (gs_cons (ga_bltn T.f_int (v := .ty "int") (u := .type "int") (by decide +kernel) rfl (fun _ => .ty _)) gs_nil)))) (gw_or1 (gt_cmp (ca_ne hu) (ga_var (i := 4)) (ga_var (i := 5)))))) (gb_one (gs_ret ga_bl)) gb_nil)))))))))))))))
    (gb_one (gs_ret ga_bl))))⟩

theorem htm__law_error (T : Tx K mg P w base) {fd : FuncData} {ad : Addr} (F : FunD K "_law_error" "_law_error" (defArgs st__law_error) (defBody st__law_error) (defScope st__law_error) [] [] ad fd)
    (len : ∀ a e ds A q x, hsp__law_error a e ds A q x → ds.length = 1) (pure : ∀ a ε ds A q x, hsp__law_error a ε ds A q x → (has__law_error K a ε) (endsA (shr q) x) (startA ["e", "flags"] ds) A) : FnE P w K mg base (L2N.CX P w) 1 ad fd ["e"] (liftH K excs hsp__law_error) := by
  refine fnHB_of (cl := excs) F sc__law_error len (fun cdv A outer s H E p ε hcl hot hz hf rh tk hp => ?_) pure
  have hu : (A.deeper (envOfC "_law_error" (defScope st__law_error) s.heap.objs.size ad cdv)).units + 64 < cLine := by
    have := rh.un
    omega
  have hpn : p ∈ [p] := List.mem_cons_self
  have hc : L2H.HotC (L2H.cxH (L2N.CX P w) P w K mg base ["e", "flags"] "_law_error" (defScope st__law_error) ad cdv A outer s H E p) := ⟨p, hot, hpn⟩
  obtain ⟨a, oe⟩ := p
  exact ⟨_, (gb_cons (gs_set (i := 1) sc__law_error.nd (ga_lst (gs_cons (ga_blt (ba_isE (T.ec _ hcl) hz hf hpn) T.f_isinstance (gs_cons (ga_var (i := 0)) (gs_cons (ga_globC T.n_BadName) gs_nil))) (gs_cons (ga_blt (ba_isE (T.ec _ hcl) hz hf hpn) T.f_isinstance (gs_cons (ga_var (i := 0)) (gs_cons (ga_globC T.n_BadKind) gs_nil))) (gs_cons (ga_blt (ba_isE (T.ec _ hcl) hz hf hpn) T.f_isinstance (gs_cons (ga_var (i := 0)) (gs_cons (ga_globC T.n_BadTree) gs_nil))) (gs_cons (ga_blt (ba_isE (T.ec _ hcl) hz hf hpn) T.f_isinstance (gs_cons (ga_var (i := 0)) (gs_cons (ga_globC T.n_NoSubtree) gs_nil))) gs_nil))))))
    (gb_cons (gs_expr (ga_mL ml_extendU (ga_var (i := 1)) (gs_cons (ga_lstF (gs_cons (ga_blt (ba_isE (T.ec _ hcl) hz hf hpn) T.f_isinstance (gs_cons (ga_var (i := 0)) (gs_cons (ga_globC T.n_Twice) gs_nil))) (gs_cons (ga_blt (ba_isE (T.ec _ hcl) hz hf hpn) T.f_isinstance (gs_cons (ga_var (i := 0)) (gs_cons (ga_globC T.n_TooMany) gs_nil))) (gs_cons (ga_blt (ba_isE (T.ec _ hcl) hz hf hpn) T.f_isinstance (gs_cons (ga_var (i := 0)) (gs_cons (ga_globC T.n_BadText) gs_nil))) (gs_cons (ga_blt (ba_isE (T.ec _ hcl) hz hf hpn) T.f_isinstance (gs_cons (ga_var (i := 0)) (gs_cons (ga_globC T.n_BadLot) gs_nil))) gs_nil))))) gs_nil)))
    (gb_cons (gs_expr (ga_mL ml_extendU (ga_var (i := 1)) (gs_cons (ga_lstF (gs_cons (ga_blt (ba_isE (T.ec _ hcl) hz hf hpn) T.f_isinstance (gs_cons (ga_var (i := 0)) (gs_cons (ga_globC T.n_NoSuchLine) gs_nil))) (gs_cons (ga_blt (ba_isE (T.ec _ hcl) hz hf hpn) T.f_isinstance (gs_cons (ga_var (i := 0)) (gs_cons (ga_globC T.n_BadLog) gs_nil))) (gs_cons (ga_blt (ba_isE (T.ec _ hcl) hz hf hpn) T.f_isinstance (gs_cons (ga_var (i := 0)) (gs_cons (ga_globC T.n_BadNumber) gs_nil))) gs_nil)))) gs_nil)))
    (gb_cons (gs_expr (ga_mL ml_extendU (ga_var (i := 1)) (gs_cons (ga_lstF (gs_cons (ga_blt (ba_isE (T.ec _ hcl) hz hf hpn) T.f_isinstance (gs_cons (ga_var (i := 0)) (gs_cons (ga_globC T.n_Mismatch) gs_nil))) (gs_cons (ga_blt (ba_isE (T.ec _ hcl) hz hf hpn) T.f_isinstance (gs_cons (ga_var (i := 0)) (gs_cons (ga_globC T.n_BadMove) gs_nil))) (gs_cons (ga_blt (ba_isE (T.ec _ hcl) hz hf hpn) T.f_isinstance (gs_cons (ga_var (i := 0)) (gs_cons (ga_globC T.n_BadTable) gs_nil))) (gs_cons (ga_blt (ba_isE (T.ec _ hcl) hz hf hpn) T.f_isinstance (gs_cons (ga_var (i := 0)) (gs_cons (ga_globC T.n_NoTree) gs_nil))) gs_nil))))) gs_nil)))
    (gb_cons (gs_expr (ga_mL ml_extendU (ga_var (i := 1)) (gs_cons (ga_lstF (gs_cons (ga_blt (ba_isE (T.ec _ hcl) hz hf hpn) T.f_isinstance (gs_cons (ga_var (i := 0)) (gs_cons (ga_globC T.n_BadMatrix) gs_nil))) (gs_cons (ga_blt (ba_isE (T.ec _ hcl) hz hf hpn) T.f_isinstance (gs_cons (ga_var (i := 0)) (gs_cons (ga_globC T.n_NoGrant) gs_nil))) (gs_cons (ga_blt (ba_isE (T.ec _ hcl) hz hf hpn) T.f_isinstance (gs_cons (ga_var (i := 0)) (gs_cons (ga_globC T.n_BadMachine) gs_nil))) gs_nil)))) gs_nil)))
    (gb_cons (gs_expr (ga_mL ml_extendU (ga_var (i := 1)) (gs_cons (ga_lstF (gs_cons (ga_blt (ba_isE (T.ec _ hcl) hz hf hpn) T.f_isinstance (gs_cons (ga_var (i := 0)) (gs_cons (ga_globC T.n_BadWish) gs_nil))) (gs_cons (ga_blt (ba_isE (T.ec _ hcl) hz hf hpn) T.f_isinstance (gs_cons (ga_var (i := 0)) (gs_cons (ga_globC T.n_NoCover) gs_nil))) (gs_cons (ga_blt (ba_isE (T.ec _ hcl) hz hf hpn) T.f_isinstance (gs_cons (ga_var (i := 0)) (gs_cons (ga_globC T.n_Barred) gs_nil))) (gs_cons (ga_blt (ba_isE (T.ec _ hcl) hz hf hpn) T.f_isinstance (gs_cons (ga_var (i := 0)) (gs_cons (ga_globC T.n_LastLine) gs_nil))) gs_nil))))) gs_nil)))
    (gb_cons (gs_expr (ga_mL ml_extendU (ga_var (i := 1)) (gs_cons (ga_lstF (gs_cons (ga_blt (ba_isE (T.ec _ hcl) hz hf hpn) T.f_isinstance (gs_cons (ga_var (i := 0)) (gs_cons (ga_globC T.n_NoEdit) gs_nil))) gs_nil)) gs_nil)))
    (gb_cons (gs_if (gt_bool (gw_or (gt_cmp (ca_ne hu) (ga_mL ml_count (ga_var (i := 1)) (gs_cons ga_bl gs_nil)) ga_int) (gw_or (gt_not (gt_val (ga_blt (ba_isE (T.ec _ hcl) hz hf hpn) T.f_isinstance (gs_cons (ga_var (i := 0)) (gs_cons (ga_globC T.n_GrantError) gs_nil))))) (gw_or1 (gt_not (gt_val (ga_blt (ba_isE (T.ec _ hcl) hz hf hpn) T.f_isinstance (gs_cons (ga_var (i := 0)) (gs_cons (ga_bltn T.f_ValueError (v := .ty "ValueError") (u := .type "ValueError") (by decide +kernel) rfl (fun _ => .ty _)) gs_nil))))))))) (gb_one (gs_ret (ga_tup (gs_cons ga_str (gs_cons (ga_tup gs_nil) gs_nil))))) gb_nil)
    (gb_cons (gs_if (gt_val (ga_blt (ba_isE (T.ec _ hcl) hz hf hpn) T.f_isinstance (gs_cons (ga_var (i := 0)) (gs_cons (ga_globC T.n_BadName) gs_nil)))) (gb_one (gs_ret (ga_tup (gs_cons ga_str (gs_cons (ga_tup (gs_cons (gh_fld (ε := ε) (T.ec _ hcl).xf (T.na_name _ hcl) hz hf hpn (ga_var (i := 0))) gs_nil)) gs_nil))))) gb_nil)
    (gb_cons (gs_if (gt_val (ga_blt (ba_isE (T.ec _ hcl) hz hf hpn) T.f_isinstance (gs_cons (ga_var (i := 0)) (gs_cons (ga_globC T.n_BadTree) gs_nil)))) (gb_one (gs_ret (ga_tup (gs_cons ga_str (gs_cons (ga_tup (gs_cons (gh_fld (ε := ε) (T.ec _ hcl).xf (T.na_path _ hcl) hz hf hpn (ga_var (i := 0))) gs_nil)) gs_nil))))) gb_nil)
    (gb_cons (gs_if (gt_val (ga_blt (ba_isE (T.ec _ hcl) hz hf hpn) T.f_isinstance (gs_cons (ga_var (i := 0)) (gs_cons (ga_globC T.n_Twice) gs_nil)))) (gb_one (gs_ret (ga_tup (gs_cons ga_str (gs_cons (ga_tup (gs_cons (gh_fld (ε := ε) (T.ec _ hcl).xf (T.na_name _ hcl) hz hf hpn (ga_var (i := 0))) gs_nil)) gs_nil))))) gb_nil)
    (gb_cons (gs_if (gt_val (ga_blt (ba_isE (T.ec _ hcl) hz hf hpn) T.f_isinstance (gs_cons (ga_var (i := 0)) (gs_cons (ga_globC T.n_TooMany) gs_nil)))) (gb_one (gs_ret (ga_tup (gs_cons ga_str (gs_cons (ga_tup (gs_cons (gh_fld (ε := ε) (T.ec _ hcl).xf (T.na_what _ hcl) hz hf hpn (ga_var (i := 0))) (gs_cons (gh_fld (ε := ε) (T.ec _ hcl).xf (T.na_limit _ hcl) hz hf hpn (ga_var (i := 0))) gs_nil))) gs_nil))))) gb_nil)
    (gb_cons (gs_if (gt_val (ga_blt (ba_isE (T.ec _ hcl) hz hf hpn) T.f_isinstance (gs_cons (ga_var (i := 0)) (gs_cons (ga_globC T.n_BadLot) gs_nil)))) (gb_one (gs_ret (ga_tup (gs_cons ga_str (gs_cons (ga_tup (gs_cons (gh_fld (ε := ε) (T.ec _ hcl).xf (T.na_at _ hcl) hz hf hpn (ga_var (i := 0))) gs_nil)) gs_nil))))) gb_nil)
    (gb_cons (gs_if (gt_val (ga_blt (ba_isE (T.ec _ hcl) hz hf hpn) T.f_isinstance (gs_cons (ga_var (i := 0)) (gs_cons (ga_globC T.n_NoSuchLine) gs_nil)))) (gb_one (gs_ret (ga_tup (gs_cons ga_str (gs_cons (ga_tup (gs_cons (gh_fld (ε := ε) (T.ec _ hcl).xf (T.na_name _ hcl) hz hf hpn (ga_var (i := 0))) gs_nil)) gs_nil))))) gb_nil)
    (gb_one (gs_ret (ga_tup (gs_cons ga_str (gs_cons (ga_tup gs_nil) gs_nil)))))))))))))))))))⟩

theorem tm__law_store (T : Tx K mg P w base) (h__law_mix : Fn0 P w K mg base "_law_mix" 1 sp__law_mix) {fd : FuncData} {ad : Addr} (F : FunD K "_law_store" "_law_store" (defArgs st__law_store) (defBody st__law_store) (defScope st__law_store) [] [] ad fd)
    (len : ∀ ds A q e, sp__law_store ds A q e → ds.length = 1) (pure : ∀ ds A q x, sp__law_store ds A q x → (as__law_store) (endsA q x) (startA ["script", "wide", "store", "cell", "amount", "sign"] ds) A) : FnA P w K mg base 2 ad fd ["script"] sp__law_store := by
  refine fnA_of F sc__law_store len (fun cdv A outer s H E hr tk hp => ?_) pure
  have hu := hr.units
  exact ⟨_, (gb_cons (gs_set (i := 1) sc__law_store.nd (ga_mul (ga_mul (ga_mul (ga_pow ga_int ga_int) (ga_pow ga_int ga_int)) (ga_pow ga_int ga_int)) (ga_pow ga_int ga_int)))
    (gb_cons (gs_set (i := 2) sc__law_store.nd (ga_lst (gs_cons ga_int (gs_cons ga_int (gs_cons ga_int (gs_cons ga_int (gs_cons ga_int (gs_cons ga_int gs_nil))))))))
    (gb_cons (gs_for hp rfl (gi_seq (ga_sl (ga_bty ba_list T.f_list (gs_cons (ga_var (i := 0)) gs_nil)) go_none (go_some ga_int))) (gg_name (i := 3) sc__law_store.nd) (gb_cons (gs_set (i := 4) sc__law_store.nd (ga_mod (ga_bty ba_int T.f_int (gs_cons (ga_blt ba_abs T.f_abs (gs_cons (ga_bty ba_int T.f_int (gs_cons (ga_var (i := 3)) gs_nil)) gs_nil)) gs_nil)) (ga_var (i := 1))))
    (gb_cons (gs_set (i := 5) sc__law_store.nd (ga_bty ba_int T.f_int (gs_cons (ga_cmp ca_lt (ga_var (i := 3)) ga_int) gs_nil)))
    (gb_cons (gs_asg (ga_call h__law_mix (hr.mono (by decide)) tk (gs_cons (ga_add (ga_add (ga_ix (ga_var (i := 2)) ga_int) (ga_mul (ga_var (i := 4)) ga_int)) (ga_var (i := 5))) gs_nil)) (gg_subL (ga_var (i := 2)) ga_int))
    (gb_one (gs_if (gt_cmp ca_ge (ga_var (i := 4)) (ga_pow ga_int ga_int)) (gb_one (gs_expr (ga_mL ml_append (ga_var (i := 2)) (gs_cons (ga_var (i := 4)) gs_nil)))) (gb_one (gs_expr (ga_mL ml_append (ga_var (i := 2)) (gs_cons (ga_mod (ga_bty ba_int T.f_int (gs_cons (ga_call h__law_mix (hr.mono (by decide)) tk (gs_cons (ga_sub (ga_add (ga_add (ga_mul (ga_var (i := 4)) ga_int) (ga_mul (ga_var (i := 5)) ga_int)) (ga_blt ba_len T.f_len (gs_cons (ga_var (i := 2)) gs_nil))) ga_int) gs_nil)) gs_nil)) (ga_pow ga_int ga_int)) gs_nil))))))))))
    (gb_one (gs_ret (ga_var (i := 2)))))))⟩

theorem tm__law_take (T : Tx K mg P w base) (h__law_mix : Fn0 P w K mg base "_law_mix" 1 sp__law_mix) {fd : FuncData} {ad : Addr} (F : FunD K "_law_take" "_law_take" (defArgs st__law_take) (defBody st__law_take) (defScope st__law_take) [] [] ad fd)
    (len : ∀ ds A q e, sp__law_take ds A q e → ds.length = 2) (pure : ∀ ds A q x, sp__law_take ds A q x → (as__law_take) (endsA q x) (startA ["store", "many", "found"] ds) A) : FnA P w K mg base 2 ad fd ["store", "many"] sp__law_take := by
  refine fnA_of F sc__law_take len (fun cdv A outer s H E hr tk hp => ?_) pure
  have hu := hr.units
  exact ⟨_, (gb_cons (gs_if (gt_cmp ca_lt (ga_var (i := 1)) ga_int) (gb_one (gs_ret ga_int)) gb_nil)
    (gb_cons (gs_if (gt_bool (gw_and (gt_cmp (ca_eq hu) (ga_ix (ga_var (i := 0)) ga_int) ga_int) (gw_and1 (gt_cmp ca_lt (ga_ix (ga_var (i := 0)) ga_int) (ga_blt ba_len T.f_len (gs_cons (ga_var (i := 0)) gs_nil)))))) (gb_cons (gs_asg (ga_ix (ga_var (i := 0)) (ga_ix (ga_var (i := 0)) ga_int)) (gg_subL (ga_var (i := 0)) ga_int))
    (gb_cons (gs_asg (ga_add (ga_ix (ga_var (i := 0)) ga_int) ga_int) (gg_subL (ga_var (i := 0)) ga_int))
    (gb_cons (gs_asg (ga_bty ba_int T.f_int (gs_cons (ga_cmp ca_ge (ga_ix (ga_var (i := 0)) ga_int) (ga_pow ga_int ga_int)) gs_nil)) (gg_subL (ga_var (i := 0)) ga_int))
    (gb_one (gs_asg (ga_add ga_int (ga_mul ga_int (ga_ix (ga_var (i := 0)) ga_int))) (gg_subL (ga_var (i := 0)) ga_int)))))) gb_nil)
    (gb_cons (gs_asg (ga_add (ga_ix (ga_var (i := 0)) ga_int) ga_int) (gg_subL (ga_var (i := 0)) ga_int))
    (gb_cons (gs_if (gt_cmp (ca_eq hu) (ga_ix (ga_var (i := 0)) ga_int) ga_int) (gb_one (gs_ret (ga_mod (ga_bty ba_int T.f_int (gs_cons (ga_call h__law_mix (hr.mono (by decide)) tk (gs_cons (ga_call h__law_mix (hr.mono (by decide)) tk (gs_cons (ga_add (ga_ix (ga_var (i := 0)) ga_int) (ga_mul (ga_ix (ga_var (i := 0)) ga_int) ga_int)) gs_nil)) gs_nil)) gs_nil)) (ga_var (i := 1))))) gb_nil)
    (gb_cons (gs_asg (ga_sub (ga_ix (ga_var (i := 0)) ga_int) ga_int) (gg_subL (ga_var (i := 0)) ga_int))
    (gb_cons (gs_if (gt_cmp (ca_eq hu) (ga_ix (ga_var (i := 0)) ga_int) ga_int) (gb_one (gs_ret (ga_mod (ga_bty ba_int T.f_int (gs_cons (ga_call h__law_mix (hr.mono (by decide)) tk (gs_cons (ga_call h__law_mix (hr.mono (by decide)) tk (gs_cons (ga_add (ga_mul (ga_ix (ga_var (i := 0)) ga_int) ga_int) (ga_ix (ga_var (i := 0)) ga_int)) gs_nil)) gs_nil)) gs_nil)) (ga_var (i := 1))))) gb_nil)
    (gb_cons (gs_set (i := 2) sc__law_take.nd (ga_mod (ga_bty ba_int T.f_int (gs_cons (ga_ix (ga_var (i := 0)) ga_int) gs_nil)) (ga_var (i := 1))))
    (gb_cons (gs_asg (ga_div (ga_ix (ga_var (i := 0)) ga_int) (ga_var (i := 1))) (gg_subL (ga_var (i := 0)) ga_int))
    (gb_cons (gs_if (gt_cmp (ca_eq hu) (ga_ix (ga_var (i := 0)) ga_int) ga_int) (gb_one (gs_asg ga_int (gg_subL (ga_var (i := 0)) ga_int))) gb_nil)
    (gb_one (gs_ret (ga_var (i := 2)))))))))))))⟩

theorem tm__law_order (T : Tx K mg P w base) (h__law_nodes : Fn0 P w K mg base "_law_nodes" 1 sp__law_nodes) {fd : FuncData} {ad : Addr} (F : FunD K "_law_order" "_law_order" (defArgs st__law_order) (defBody st__law_order) (defScope st__law_order) [] [] ad fd)
    (len : ∀ ds A q e, sp__law_order ds A q e → ds.length = 1) (pure : ∀ ds A q x, sp__law_order ds A q x → (as__law_order) (endsA (shr q) x) (startA ["tree", "row"] ds) A) : FnA P w K mg base 2 ad fd ["tree"] sp__law_order := by
  refine fnB_of F sc__law_order len (fun cdv A outer s H E hr tk hp => ?_) pure
  have hu := hr.units
  exact ⟨_, (gb_one (gs_ret (ga_bty ba_tuple T.f_tuple (gs_cons (ga_frz (ga_lc (own := [("row", 1)]) rfl sc__law_order.nd (gi_seq (ga_call h__law_nodes (hr.mono (by decide)) tk (gs_cons (ga_var (i := 0)) gs_nil))) (show BlkOk ["tree", "row"] (defScope st__law_order) _ [("row", 1)] from ⟨rfl, by decide +kernel, by decide +kernel, by decide +kernel, by decide +kernel⟩) (fun s H C cl fp => (gg_name (i := 1) sc__law_order.nd)) (fun s H C cl fp => (gts_one (gt_val (ga_blt ba_isi T.f_isinstance (gs_cons (ga_ix (ga_var (i := 1)) ga_int) (gs_cons (ga_bltn T.f_str (v := .ty "str") (u := .type "str") (by decide +kernel) rfl (fun _ => .ty _)) gs_nil)))))) (fun s H C cl fp => (ga_ix (ga_var (i := 1)) ga_int)) (tw_name (by decide)))) gs_nil))))⟩

theorem tm__law_path (T : Tx K mg P w base) (h__law_nodes : Fn0 P w K mg base "_law_nodes" 1 sp__law_nodes) {fd : FuncData} {ad : Addr} (F : FunD K "_law_path" "_law_path" (defArgs st__law_path) (defBody st__law_path) (defScope st__law_path) [] [] ad fd)
    (len : ∀ ds A q e, sp__law_path ds A q e → ds.length = 2) (pure : ∀ ds A q x, sp__law_path ds A q x → (as__law_path) (endsA (shr q) x) (startA ["tree", "line", "row"] ds) A) : FnA P w K mg base 2 ad fd ["tree", "line"] sp__law_path := by
  refine fnB_of F sc__law_path len (fun cdv A outer s H E hr tk hp => ?_) pure
  have hu := hr.units
  exact ⟨_, (gb_cons (gs_for hp rfl (gi_seq (ga_call h__law_nodes (hr.mono (by decide)) tk (gs_cons (ga_var (i := 0)) gs_nil))) (gg_name (i := 2) sc__law_path.nd) (gb_one (gs_if (gt_bool (gw_and (gt_val (ga_blt ba_isi T.f_isinstance (gs_cons (ga_ix (ga_var (i := 2)) ga_int) (gs_cons (ga_bltn T.f_str (v := .ty "str") (u := .type "str") (by decide +kernel) rfl (fun _ => .ty _)) gs_nil)))) (gw_and1 (gt_cmp (ca_eq hu) (ga_ix (ga_var (i := 2)) ga_int) (ga_var (i := 1)))))) (gb_one (gs_ret (ga_ix (ga_var (i := 2)) ga_int))) gb_nil)))
    (gb_one (gs_ret (ga_tup gs_nil))))⟩

theorem tm_refuse_leaf (T : Tx K mg P w base) (h_is_name : Fn0 P w K mg base "is_name" 1 sp_is_name) {fd : FuncData} {ad : Addr} (F : FunD K "refuse_leaf" "refuse_leaf" (defArgs st_refuse_leaf) (defBody st_refuse_leaf) (defScope st_refuse_leaf) [] [] ad fd)
    (len : ∀ ds A q e, sp_refuse_leaf ds A q e → ds.length = 2) (pure : ∀ ds A q x, sp_refuse_leaf ds A q x → (as_refuse_leaf) (endsA (shr q) x) (startA ["name", "known"] ds) A) : FnA P w K mg base 3 ad fd ["name", "known"] sp_refuse_leaf := by
  refine fnB_of F sc_refuse_leaf len (fun cdv A outer s H E hr tk hp => ?_) pure
  have hu := hr.units
  exact ⟨_, (gb_cons (gs_if (gt_not (gt_val (ga_call h_is_name (hr.mono (by decide)) tk (gs_cons (ga_var (i := 0)) gs_nil)))) (gb_one (gs_raise T.x_BadName (hr.mono (by decide)) rfl tk (gs_cons (ga_var (i := 0)) gs_nil))) gb_nil)
    (gb_cons (gs_if (gt_din hu (ga_var (i := 0)) (ga_var (i := 1))) (gb_one (gs_raise T.x_Twice (hr.mono (by decide)) rfl tk (gs_cons (ga_var (i := 0)) gs_nil))) gb_nil)
    (gb_one (gs_if (gt_cmp ca_ge (ga_blt ba_lenD T.f_len (gs_cons (ga_var (i := 1)) gs_nil)) (ga_globI T.c_MOST_LINES)) (gb_one (gs_raise T.x_TooMany (hr.mono (by decide)) rfl tk (gs_cons ga_str (gs_cons (ga_globI T.c_MOST_LINES) gs_nil)))) gb_nil))))⟩

theorem tm_refuse_place (T : Tx K mg P w base) (h_looks_like_place : Fn0 P w K mg base "looks_like_place" 1 sp_looks_like_place) {fd : FuncData} {ad : Addr} (F : FunD K "refuse_place" "refuse_place" (defArgs st_refuse_place) (defBody st_refuse_place) (defScope st_refuse_place) [] [] ad fd)
    (len : ∀ ds A q e, sp_refuse_place ds A q e → ds.length = 3) (pure : ∀ ds A q x, sp_refuse_place ds A q x → (as_refuse_place) (endsA (shr q) x) (startA ["nest", "path", "many"] ds) A) : FnA P w K mg base 3 ad fd ["nest", "path", "many"] sp_refuse_place := by
  refine fnB_of F sc_refuse_place len (fun cdv A outer s H E hr tk hp => ?_) pure
  have hu := hr.units
  exact ⟨_, (gb_cons (gs_if (gt_not (gt_val (ga_call h_looks_like_place (hr.mono (by decide)) tk (gs_cons (ga_var (i := 0)) gs_nil)))) (gb_one (gs_raise T.x_BadTree (hr.mono (by decide)) rfl tk (gs_cons (ga_var (i := 1)) gs_nil))) gb_nil)
    (gb_cons (gs_if (gt_cmp ca_ge (ga_blt ba_len T.f_len (gs_cons (ga_var (i := 1)) gs_nil)) (ga_globI T.c_MOST_DEPTH)) (gb_one (gs_raise T.x_TooMany (hr.mono (by decide)) rfl tk (gs_cons ga_str (gs_cons (ga_globI T.c_MOST_DEPTH) gs_nil)))) gb_nil)
    (gb_one (gs_if (gt_cmp ca_ge (ga_var (i := 2)) (ga_globI T.c_MOST_PLACES)) (gb_one (gs_raise T.x_TooMany (hr.mono (by decide)) rfl tk (gs_cons ga_str (gs_cons (ga_globI T.c_MOST_PLACES) gs_nil)))) gb_nil))))⟩

theorem tm_check_lot (T : Tx K mg P w base) {fd : FuncData} {ad : Addr} (F : FunD K "check_lot" "check_lot" (defArgs st_check_lot) (defBody st_check_lot) (defScope st_check_lot) [] [] ad fd)
    (len : ∀ ds A q e, sp_check_lot ds A q e → ds.length = 2) (pure : ∀ ds A q x, sp_check_lot ds A q x → (as_check_lot) (endsA (shr q) x) (startA ["lines", "lot", "at", "name"] ds) A) : FnA P w K mg base 3 ad fd ["lines", "lot"] sp_check_lot := by
  refine fnB_of F sc_check_lot len (fun cdv A outer s H E hr tk hp => ?_) pure
  have hu := hr.units
  exact ⟨_, (gb_cons (gs_if (gt_cmp (ca_eq hu) (ga_blt ba_len T.f_len (gs_cons (ga_var (i := 1)) gs_nil)) ga_int) (gb_one (gs_raise T.x_BadLot (hr.mono (by decide)) rfl tk (gs_cons ga_int gs_nil))) gb_nil)
    (gb_cons (gs_for hp rfl (gi_enumU (gs_cons (ga_var (i := 1)) gs_nil) T.f_enumerate) (gg_tup rfl (gg_cons (gg_name (i := 2) sc_check_lot.nd) (gg_cons (gg_name (i := 3) sc_check_lot.nd) gg_nil))) (gb_cons (gs_if (gt_cmp ca_ni (ga_var (i := 3)) (ga_var (i := 0))) (gb_one (gs_raise T.x_NoSuchLine (hr.mono (by decide)) rfl tk (gs_cons (ga_var (i := 3)) gs_nil))) gb_nil)
    (gb_one (gs_if (gt_bool (gw_and (gt_cmp ca_gt (ga_var (i := 2)) ga_int) (gw_and1 (gt_cmp ca_le (ga_var (i := 3)) (ga_ix (ga_var (i := 1)) (ga_sub (ga_var (i := 2)) ga_int)))))) (gb_one (gs_raise T.x_BadLot (hr.mono (by decide)) rfl tk (gs_cons (ga_var (i := 2)) gs_nil))) gb_nil))))
    (gb_one (gs_ret (ga_var (i := 1))))))⟩

theorem tm__law_pick (T : Tx K mg P w base) (h__law_take : Fn0 P w K mg base "_law_take" 2 sp__law_take) {fd : FuncData} {ad : Addr} (F : FunD K "_law_pick" "_law_pick" (defArgs st__law_pick) (defBody st__law_pick) (defScope st__law_pick) [] [] ad fd)
    (len : ∀ ds A q e, sp__law_pick ds A q e → ds.length = 2) (pure : ∀ ds A q x, sp__law_pick ds A q x → (as__law_pick) (endsA q x) (startA ["store", "items"] ds) A) : FnA P w K mg base 3 ad fd ["store", "items"] sp__law_pick := by
  refine fnA_of F sc__law_pick len (fun cdv A outer s H E hr tk hp => ?_) pure
  have hu := hr.units
  exact ⟨_, (gb_one (gs_ret (ga_ix (ga_var (i := 1)) (ga_call h__law_take (hr.mono (by decide)) tk (gs_cons (ga_var (i := 0)) (gs_cons (ga_blt ba_len T.f_len (gs_cons (ga_var (i := 1)) gs_nil)) gs_nil))))))⟩

theorem tm__law_shuffle (T : Tx K mg P w base) (h__law_take : Fn0 P w K mg base "_law_take" 2 sp__law_take) {fd : FuncData} {ad : Addr} (F : FunD K "_law_shuffle" "_law_shuffle" (defArgs st__law_shuffle) (defBody st__law_shuffle) (defScope st__law_shuffle) [] [] ad fd)
    (len : ∀ ds A q e, sp__law_shuffle ds A q e → ds.length = 2) (pure : ∀ ds A q x, sp__law_shuffle ds A q x → (as__law_shuffle) (endsA q x) (startA ["store", "items", "rest", "found", "k"] ds) A) : FnA P w K mg base 3 ad fd ["store", "items"] sp__law_shuffle := by
  refine fnA_of F sc__law_shuffle len (fun cdv A outer s H E hr tk hp => ?_) pure
  have hu := hr.units
  exact ⟨_, (gb_cons (gs_set (i := 2) sc__law_shuffle.nd (ga_bty ba_list T.f_list (gs_cons (ga_var (i := 1)) gs_nil)))
    (gb_cons (gs_set (i := 3) sc__law_shuffle.nd (ga_lst gs_nil))
    (gb_cons (gs_for hp rfl (gi_rng1 (gs_cons (ga_blt ba_len T.f_len (gs_cons (ga_var (i := 1)) gs_nil)) gs_nil) T.f_range) (gg_name (i := 4) sc__law_shuffle.nd) (gb_one (gs_expr (ga_mL ml_append (ga_var (i := 3)) (gs_cons (ga_mL ml_pop (ga_var (i := 2)) (gs_cons (ga_call h__law_take (hr.mono (by decide)) tk (gs_cons (ga_var (i := 0)) (gs_cons (ga_blt ba_len T.f_len (gs_cons (ga_var (i := 2)) gs_nil)) gs_nil))) gs_nil)) gs_nil)))))
    (gb_one (gs_ret (ga_var (i := 3)))))))⟩

theorem tm__law_without (T : Tx K mg P w base) (h__law_path : Fn0 P w K mg base "_law_path" 2 sp__law_path) (h__law_at : Fn0 P w K mg base "_law_at" 1 sp__law_at) (h__law_put : Fn0 P w K mg base "_law_put" 1 sp__law_put) {fd : FuncData} {ad : Addr} (F : FunD K "_law_without" "_law_without" (defArgs st__law_without) (defBody st__law_without) (defScope st__law_without) [] [] ad fd)
    (len : ∀ ds A q e, sp__law_without ds A q e → ds.length = 2) (pure : ∀ ds A q x, sp__law_without ds A q x → (as__law_without) (endsA (shr q) x) (startA ["tree", "line", "path", "k", "up", "node", "at", "kids"] ds) A) : FnA P w K mg base 3 ad fd ["tree", "line"] sp__law_without := by
  refine fnB_of F sc__law_without len (fun cdv A outer s H E hr tk hp => ?_) pure
  have hu := hr.units
  exact ⟨_, (gb_cons (gs_set (i := 2) sc__law_without.nd (ga_call h__law_path (hr.mono (by decide)) tk (gs_cons (ga_var (i := 0)) (gs_cons (ga_var (i := 1)) gs_nil))))
    (gb_cons (gs_for hp rfl (gi_rng1 (gs_cons (ga_blt ba_len T.f_len (gs_cons (ga_var (i := 2)) gs_nil)) gs_nil) T.f_range) (gg_name (i := 3) sc__law_without.nd) (gb_cons (gs_set (i := 4) sc__law_without.nd (ga_sl (ga_var (i := 2)) go_none (go_some (ga_sub (ga_sub (ga_blt ba_len T.f_len (gs_cons (ga_var (i := 2)) gs_nil)) ga_int) (ga_var (i := 3))))))
    (gb_cons (gs_set (i := 5) sc__law_without.nd (ga_call h__law_at (hr.mono (by decide)) tk (gs_cons (ga_var (i := 0)) (gs_cons (ga_var (i := 4)) gs_nil))))
    (gb_cons (gs_set (i := 6) sc__law_without.nd (ga_ix (ga_var (i := 2)) (ga_blt ba_len T.f_len (gs_cons (ga_var (i := 4)) gs_nil))))
    (gb_cons (gs_set (i := 7) sc__law_without.nd (ga_add (ga_sl (ga_ix (ga_var (i := 5)) ga_int) go_none (go_some (ga_var (i := 6)))) (ga_sl (ga_ix (ga_var (i := 5)) ga_int) (go_some (ga_add (ga_var (i := 6)) ga_int)) go_none)))
    (gb_one (gs_if (gt_cmp ca_gt (ga_blt ba_len T.f_len (gs_cons (ga_var (i := 7)) gs_nil)) ga_int) (gb_one (gs_ret (ga_call h__law_put (hr.mono (by decide)) tk (gs_cons (ga_var (i := 0)) (gs_cons (ga_var (i := 4)) (gs_cons (ga_tup (gs_cons (ga_ix (ga_var (i := 5)) ga_int) (gs_cons (ga_var (i := 7)) gs_nil))) gs_nil)))))) gb_nil)))))))
    (gb_one (gs_ret (ga_var (i := 0))))))⟩

theorem tm_check_tree (T : Tx K mg P w base) (h_refuse_leaf : Fn0 P w K mg base "refuse_leaf" 3 sp_refuse_leaf) (h_refuse_place : Fn0 P w K mg base "refuse_place" 3 sp_refuse_place) {fd : FuncData} {ad : Addr} (F : FunD K "check_tree" "check_tree" (defArgs st_check_tree) (defBody st_check_tree) (defScope st_check_tree) [] [] ad fd)
    (len : ∀ ds A q e, sp_check_tree ds A q e → ds.length = 1) (pure : ∀ ds A q x, sp_check_tree ds A q x → (as_check_tree) (endsA (shr q) x) (startA ["tree", "left", "known", "met", "nest", "path", "kids", "at"] ds) A) : FnA P w K mg base 4 ad fd ["tree"] sp_check_tree := by
  refine fnB_of F sc_check_tree len (fun cdv A outer s H E hr tk hp => ?_) pure
  have hu := hr.units
  exact ⟨_, (gb_cons (gs_set (i := 1) sc_check_tree.nd (ga_lst (gs_cons (ga_tup (gs_cons (ga_var (i := 0)) (gs_cons (ga_tup gs_nil) gs_nil))) gs_nil)))
    (gb_cons (gs_set (i := 2) sc_check_tree.nd ga_dnew)
    (gb_cons (gs_set (i := 3) sc_check_tree.nd (ga_lst gs_nil))
    (gb_cons (gs_while hp (gt_truth (ga_var (i := 1))) (gb_cons (gs_asg (ga_mL0 ml_pop (ga_var (i := 1))) (gg_tup rfl (gg_cons (gg_name (i := 4) sc_check_tree.nd) (gg_cons (gg_name (i := 5) sc_check_tree.nd) gg_nil))))
    (gb_one (gs_if (gt_val (ga_blt ba_isi T.f_isinstance (gs_cons (ga_var (i := 4)) (gs_cons (ga_bltn T.f_str (v := .ty "str") (u := .type "str") (by decide +kernel) rfl (fun _ => .ty _)) gs_nil)))) (gb_cons (gs_expr (ga_call h_refuse_leaf (hr.mono (by decide)) tk (gs_cons (ga_var (i := 4)) (gs_cons (ga_var (i := 2)) gs_nil))))
    (gb_one (gs_dput hu (ga_var (i := 2)) (ga_var (i := 4)) ga_bl))) (gb_cons (gs_expr (ga_call h_refuse_place (hr.mono (by decide)) tk (gs_cons (ga_var (i := 4)) (gs_cons (ga_var (i := 5)) (gs_cons (ga_blt ba_len T.f_len (gs_cons (ga_var (i := 3)) gs_nil)) gs_nil)))))
    (gb_cons (gs_expr (ga_mL ml_append (ga_var (i := 3)) (gs_cons (ga_var (i := 5)) gs_nil)))
    (gb_cons (gs_set (i := 6) sc_check_tree.nd (ga_ix (ga_var (i := 4)) ga_int))
    (gb_one (gs_expr (ga_mL ml_extendU (ga_var (i := 1)) (gs_cons (ga_frz (ga_lc (own := [("at", 7)]) rfl sc_check_tree.nd (gi_rngD (gs_cons (ga_sub (ga_blt ba_len T.f_len (gs_cons (ga_var (i := 6)) gs_nil)) ga_int) (gs_cons (ga_neg ga_int) (gs_cons (ga_neg ga_int) gs_nil))) T.f_range) (show BlkOk ["tree", "left", "known", "met", "nest", "path", "kids", "at"] (defScope st_check_tree) _ [("at", 7)] from ⟨rfl, by decide +kernel, by decide +kernel, by decide +kernel, by decide +kernel⟩) (fun s H C cl fp => (gg_name (i := 7) sc_check_tree.nd)) (fun s H C cl fp => gts_nil) (fun s H C cl fp => (ga_tup (gs_cons (ga_ix (ga_var (i := 6)) (ga_var (i := 7))) (gs_cons (ga_add (ga_var (i := 5)) (ga_tup (gs_cons (ga_var (i := 7)) gs_nil))) gs_nil)))) (tw_name (by decide)))) gs_nil)))))))))))
    (gb_one (gs_ret (ga_var (i := 0))))))))⟩

theorem tm__law_some (T : Tx K mg P w base) (h__law_shuffle : Fn0 P w K mg base "_law_shuffle" 3 sp__law_shuffle) {fd : FuncData} {ad : Addr} (F : FunD K "_law_some" "_law_some" (defArgs st__law_some) (defBody st__law_some) (defScope st__law_some) [] [] ad fd)
    (len : ∀ ds A q e, sp__law_some ds A q e → ds.length = 3) (pure : ∀ ds A q x, sp__law_some ds A q x → (as__law_some) (endsA (shr q) x) (startA ["store", "items", "many", "chosen", "k"] ds) A) : FnA P w K mg base 4 ad fd ["store", "items", "many"] sp__law_some := by
  refine fnB_of F sc__law_some len (fun cdv A outer s H E hr tk hp => ?_) pure
  have hu := hr.units
  exact ⟨_, (gb_cons (gs_set (i := 3) sc__law_some.nd (ga_frz (ga_blt ba_sortedU T.f_sorted (gs_cons (ga_frz (ga_sl (ga_frz (ga_call h__law_shuffle (hr.mono (by decide)) tk (gs_cons (ga_var (i := 0)) (gs_cons (ga_frz (ga_lrng1 rfl (ga_blt ba_len T.f_len (gs_cons (ga_var (i := 1)) gs_nil)) T.f_range T.f_list)) gs_nil)))) go_none (go_some (ga_var (i := 2))))) gs_nil))))
    (gb_one (gs_ret (ga_frz (ga_lc (own := [("k", 4)]) rfl sc__law_some.nd (gi_seq (ga_var (i := 3))) (show BlkOk ["store", "items", "many", "chosen", "k"] (defScope st__law_some) _ [("k", 4)] from ⟨rfl, by decide +kernel, by decide +kernel, by decide +kernel, by decide +kernel⟩) (fun s H C cl fp => (gg_name (i := 4) sc__law_some.nd)) (fun s H C cl fp => gts_nil) (fun s H C cl fp => (ga_ix (ga_var (i := 1)) (ga_var (i := 4)))) (tw_name (by decide)))))))⟩

theorem tm__law_tree (T : Tx K mg P w base) (h__law_shuffle : Fn0 P w K mg base "_law_shuffle" 3 sp__law_shuffle) (h__law_take : Fn0 P w K mg base "_law_take" 2 sp__law_take) (h__law_pick : Fn0 P w K mg base "_law_pick" 3 sp__law_pick) {fd : FuncData} {ad : Addr} (F : FunD K "_law_tree" "_law_tree" (defArgs st__law_tree) (defBody st__law_tree) (defScope st__law_tree) [] [] ad fd)
    (len : ∀ ds A q e, sp__law_tree ds A q e → ds.length = 2) (pure : ∀ ds A q x, sp__law_tree ds A q x → (as__law_tree) (endsA (shr q) x) (startA ["store", "lines", "left", "way", "kinds", "menu", "wraps", "at", "k", "wide", "start", "node"] ds) A) : FnA P w K mg base 4 ad fd ["store", "lines"] sp__law_tree := by
  refine fnB_of F sc__law_tree len (fun cdv A outer s H E hr tk hp => ?_) pure
  have hu := hr.units
  exact ⟨_, (gb_cons (gs_set (i := 2) sc__law_tree.nd (ga_call h__law_shuffle (hr.mono (by decide)) tk (gs_cons (ga_var (i := 0)) (gs_cons (ga_var (i := 1)) gs_nil))))
    (gb_cons (gs_set (i := 3) sc__law_tree.nd (ga_call h__law_take (hr.mono (by decide)) tk (gs_cons (ga_var (i := 0)) (gs_cons ga_int gs_nil))))
    (gb_cons (gs_set (i := 4) sc__law_tree.nd (ga_lstF (gs_cons ga_str (gs_cons ga_str (gs_cons ga_str gs_nil)))))
    (gb_cons (gs_set (i := 5) sc__law_tree.nd (ga_call h__law_take (hr.mono (by decide)) tk (gs_cons (ga_var (i := 0)) (gs_cons ga_int gs_nil))))
    (gb_cons (gs_if (gt_cmp ca_gt (ga_var (i := 5)) ga_int) (gb_one (gs_set (i := 4) sc__law_tree.nd (ga_ix (ga_lstF (gs_cons (ga_lstF (gs_cons ga_str (gs_cons ga_str gs_nil))) (gs_cons (ga_lstF (gs_cons ga_str (gs_cons ga_str gs_nil))) (gs_cons (ga_lstF (gs_cons ga_str (gs_cons ga_str (gs_cons ga_str gs_nil)))) gs_nil)))) (ga_sub (ga_var (i := 5)) ga_int)))) gb_nil)
    (gb_cons (gs_set (i := 6) sc__law_tree.nd (ga_blt (ba_min2 rfl) T.f_min (gs_cons (ga_call h__law_take (hr.mono (by decide)) tk (gs_cons (ga_var (i := 0)) (gs_cons ga_int gs_nil))) (gs_cons (ga_sub ga_int (ga_blt ba_len T.f_len (gs_cons (ga_var (i := 2)) gs_nil))) gs_nil))))
    (gb_cons (gs_if (gt_bool (gw_and (gt_cmp ca_gt (ga_var (i := 6)) ga_int) (gw_and1 (gt_cmp (ca_eq hu) (ga_call h__law_take (hr.mono (by decide)) tk (gs_cons (ga_var (i := 0)) (gs_cons ga_int gs_nil))) ga_int)))) (gb_cons (gs_set (i := 6) sc__law_tree.nd (ga_sub (ga_var (i := 6)) ga_int))
    (gb_cons (gs_set (i := 7) sc__law_tree.nd (ga_call h__law_take (hr.mono (by decide)) tk (gs_cons (ga_var (i := 0)) (gs_cons (ga_blt ba_len T.f_len (gs_cons (ga_var (i := 2)) gs_nil)) gs_nil))))
    (gb_one (gs_asg (ga_tup (gs_cons (ga_call h__law_pick (hr.mono (by decide)) tk (gs_cons (ga_var (i := 0)) (gs_cons (ga_var (i := 4)) gs_nil))) (gs_cons (ga_tup (gs_cons (ga_ix (ga_var (i := 2)) (ga_var (i := 7))) gs_nil)) gs_nil))) (gg_subL (ga_var (i := 2)) (ga_var (i := 7))))))) gb_nil)
    (gb_cons (gs_for hp rfl (gi_rng1 (gs_cons (ga_sub (ga_blt ba_len T.f_len (gs_cons (ga_var (i := 2)) gs_nil)) ga_int) gs_nil) T.f_range) (gg_name (i := 8) sc__law_tree.nd) (gb_cons (gs_if (gt_cmp ca_lt (ga_blt ba_len T.f_len (gs_cons (ga_var (i := 2)) gs_nil)) ga_int) (gb_one gs_break) gb_nil)
    (gb_cons (gs_set (i := 9) sc__law_tree.nd (ga_add ga_int (ga_call h__law_take (hr.mono (by decide)) tk (gs_cons (ga_var (i := 0)) (gs_cons (ga_blt (ba_min2 rfl) T.f_min (gs_cons ga_int (gs_cons (ga_sub (ga_blt ba_len T.f_len (gs_cons (ga_var (i := 2)) gs_nil)) ga_int) gs_nil))) gs_nil)))))
    (gb_cons (gs_if (gt_cmp (ca_eq hu) (ga_var (i := 3)) ga_int) (gb_one (gs_set (i := 9) sc__law_tree.nd (ga_blt ba_len T.f_len (gs_cons (ga_var (i := 2)) gs_nil)))) gb_nil)
    (gb_cons (gs_if (gt_cmp (ca_eq hu) (ga_var (i := 3)) ga_int) (gb_one (gs_set (i := 9) sc__law_tree.nd (ga_add ga_int (ga_call h__law_take (hr.mono (by decide)) tk (gs_cons (ga_var (i := 0)) (gs_cons (ga_sub (ga_blt ba_len T.f_len (gs_cons (ga_var (i := 2)) gs_nil)) ga_int) gs_nil)))))) gb_nil)
    (gb_cons (gs_set (i := 10) sc__law_tree.nd (ga_call h__law_take (hr.mono (by decide)) tk (gs_cons (ga_var (i := 0)) (gs_cons (ga_add (ga_sub (ga_blt ba_len T.f_len (gs_cons (ga_var (i := 2)) gs_nil)) (ga_var (i := 9))) ga_int) gs_nil))))
    (gb_cons (gs_if (gt_cmp (ca_eq hu) (ga_var (i := 3)) ga_int) (gb_one (gs_set (i := 10) sc__law_tree.nd ga_int)) gb_nil)
    (gb_cons (gs_if (gt_cmp (ca_eq hu) (ga_var (i := 3)) ga_int) (gb_one (gs_set (i := 10) sc__law_tree.nd (ga_sub (ga_blt ba_len T.f_len (gs_cons (ga_var (i := 2)) gs_nil)) (ga_var (i := 9))))) gb_nil)
    (gb_cons (gs_set (i := 11) sc__law_tree.nd (ga_tup (gs_cons (ga_call h__law_pick (hr.mono (by decide)) tk (gs_cons (ga_var (i := 0)) (gs_cons (ga_var (i := 4)) gs_nil))) (gs_cons (ga_bty ba_tuple T.f_tuple (gs_cons (ga_frz (ga_sl (ga_var (i := 2)) (go_some (ga_var (i := 10))) (go_some (ga_add (ga_var (i := 10)) (ga_var (i := 9)))))) gs_nil)) gs_nil))))
    (gb_cons (gs_if (gt_bool (gw_and (gt_cmp ca_gt (ga_var (i := 6)) ga_int) (gw_and1 (gt_cmp (ca_eq hu) (ga_call h__law_take (hr.mono (by decide)) tk (gs_cons (ga_var (i := 0)) (gs_cons ga_int gs_nil))) ga_int)))) (gb_cons (gs_set (i := 6) sc__law_tree.nd (ga_sub (ga_var (i := 6)) ga_int))
    (gb_one (gs_set (i := 11) sc__law_tree.nd (ga_tup (gs_cons (ga_call h__law_pick (hr.mono (by decide)) tk (gs_cons (ga_var (i := 0)) (gs_cons (ga_var (i := 4)) gs_nil))) (gs_cons (ga_tup (gs_cons (ga_var (i := 11)) gs_nil)) gs_nil)))))) gb_nil)
    (gb_one (gs_set (i := 2) sc__law_tree.nd (ga_add (ga_frz (ga_add (ga_frz (ga_sl (ga_var (i := 2)) go_none (go_some (ga_var (i := 10))))) (ga_lstF (gs_cons (ga_var (i := 11)) gs_nil)))) (ga_frz (ga_sl (ga_var (i := 2)) (go_some (ga_add (ga_var (i := 10)) (ga_var (i := 9)))) go_none)))))))))))))))
    (gb_cons (gs_if (gt_bool (gw_and (gt_cmp ca_gt (ga_var (i := 6)) ga_int) (gw_and1 (gt_cmp (ca_eq hu) (ga_call h__law_take (hr.mono (by decide)) tk (gs_cons (ga_var (i := 0)) (gs_cons ga_int gs_nil))) ga_int)))) (gb_one (gs_asg (ga_tup (gs_cons (ga_call h__law_pick (hr.mono (by decide)) tk (gs_cons (ga_var (i := 0)) (gs_cons (ga_var (i := 4)) gs_nil))) (gs_cons (ga_tup (gs_cons (ga_ix (ga_var (i := 2)) ga_int) gs_nil)) gs_nil))) (gg_subL (ga_var (i := 2)) ga_int))) gb_nil)
    (gb_one (gs_ret (ga_ix (ga_var (i := 2)) ga_int))))))))))))⟩

theorem tm__law_chain (T : Tx K mg P w base) (h__law_pick : Fn0 P w K mg base "_law_pick" 3 sp__law_pick) {fd : FuncData} {ad : Addr} (F : FunD K "_law_chain" "_law_chain" (defArgs st__law_chain) (defBody st__law_chain) (defScope st__law_chain) [] [] ad fd)
    (len : ∀ ds A q e, sp__law_chain ds A q e → ds.length = 3) (pure : ∀ ds A q x, sp__law_chain ds A q x → (as__law_chain) (endsA (shr q) x) (startA ["store", "many", "nest", "k"] ds) A) : FnA P w K mg base 4 ad fd ["store", "many", "nest"] sp__law_chain := by
  refine fnB_of F sc__law_chain len (fun cdv A outer s H E hr tk hp => ?_) pure
  have hu := hr.units
  exact ⟨_, (gb_cons (gs_for hp rfl (gi_rng1 (gs_cons (ga_var (i := 1)) gs_nil) T.f_range) (gg_name (i := 3) sc__law_chain.nd) (gb_one (gs_set (i := 2) sc__law_chain.nd (ga_tup (gs_cons (ga_call h__law_pick (hr.mono (by decide)) tk (gs_cons (ga_var (i := 0)) (gs_cons (ga_lstF (gs_cons ga_str (gs_cons ga_str (gs_cons ga_str gs_nil)))) gs_nil))) (gs_cons (ga_tup (gs_cons (ga_var (i := 2)) gs_nil)) gs_nil))))))
    (gb_one (gs_ret (ga_var (i := 2)))))⟩

theorem tm__law_names (T : Tx K mg P w base) (h__law_take : Fn0 P w K mg base "_law_take" 2 sp__law_take) (h__law_pick : Fn0 P w K mg base "_law_pick" 3 sp__law_pick) {fd : FuncData} {ad : Addr} (F : FunD K "_law_names" "_law_names" (defArgs st__law_names) (defBody st__law_names) (defScope st__law_names) [] [] ad fd)
    (len : ∀ ds A q e, sp__law_names ds A q e → ds.length = 2) (pure : ∀ ds A q x, sp__law_names ds A q x → (as__law_names) (endsA (shr q) x) (startA ["store", "many", "letters", "way", "at", "found", "k"] ds) A) : FnA P w K mg base 4 ad fd ["store", "many"] sp__law_names := by
  refine fnB_of F sc__law_names len (fun cdv A outer s H E hr tk hp => ?_) pure
  have hu := hr.units
  exact ⟨_, (gb_cons (gs_set (i := 2) sc__law_names.nd ga_str)
    (gb_cons (gs_set (i := 3) sc__law_names.nd (ga_call h__law_take (hr.mono (by decide)) tk (gs_cons (ga_var (i := 0)) (gs_cons ga_int gs_nil))))
    (gb_cons (gs_set (i := 4) sc__law_names.nd (ga_call h__law_take (hr.mono (by decide)) tk (gs_cons (ga_var (i := 0)) (gs_cons ga_int gs_nil))))
    (gb_cons (gs_set (i := 5) sc__law_names.nd (ga_lst gs_nil))
    (gb_cons (gs_for hp rfl (gi_rng1 (gs_cons (ga_var (i := 1)) gs_nil) T.f_range) (gg_name (i := 6) sc__law_names.nd) (gb_one (gs_if (gt_cmp (ca_eq hu) (ga_var (i := 3)) ga_int) (gb_one (gs_expr (ga_mL ml_append (ga_var (i := 5)) (gs_cons (ga_ix (ga_var (i := 2)) (ga_add (ga_mod (ga_var (i := 4)) ga_int) (ga_var (i := 6)))) gs_nil)))) (gb_one (gs_if (gt_cmp (ca_eq hu) (ga_var (i := 3)) ga_int) (gb_one (gs_expr (ga_mL ml_append (ga_var (i := 5)) (gs_cons (ga_add ga_str (ga_bty ba_str T.f_str (gs_cons (ga_add (ga_var (i := 4)) (ga_mul ga_int (ga_var (i := 6)))) gs_nil))) gs_nil)))) (gb_one (gs_if (gt_cmp (ca_eq hu) (ga_var (i := 3)) ga_int) (gb_one (gs_expr (ga_mL ml_append (ga_var (i := 5)) (gs_cons (ga_add (ga_add (ga_sl ga_str go_none (go_some (ga_var (i := 4)))) (ga_ix (ga_var (i := 2)) (ga_var (i := 6)))) (ga_sl ga_str (go_some (ga_var (i := 4))) go_none)) gs_nil)))) (gb_one (gs_expr (ga_mL ml_append (ga_var (i := 5)) (gs_cons (ga_add (ga_add (ga_add (ga_call h__law_pick (hr.mono (by decide)) tk (gs_cons (ga_var (i := 0)) (gs_cons (ga_var (i := 2)) gs_nil))) (ga_bty ba_str T.f_str (gs_cons (ga_call h__law_take (hr.mono (by decide)) tk (gs_cons (ga_var (i := 0)) (gs_cons (ga_pow ga_int ga_int) gs_nil))) gs_nil))) ga_str) (ga_ix (ga_var (i := 2)) (ga_var (i := 6)))) gs_nil)))))))))))
    (gb_one (gs_ret (ga_bty ba_tuple T.f_tuple (gs_cons (ga_frz (ga_blt ba_sortedU T.f_sorted (gs_cons (ga_var (i := 5)) gs_nil))) gs_nil)))))))))⟩

theorem tm__law_leftover (T : Tx K mg P w base) (h__law_order : Fn0 P w K mg base "_law_order" 2 sp__law_order) (h__law_without : Fn0 P w K mg base "_law_without" 3 sp__law_without) {fd : FuncData} {ad : Addr} (F : FunD K "_law_leftover" "_law_leftover" (defArgs st__law_leftover) (defBody st__law_leftover) (defScope st__law_leftover) [] [] ad fd)
    (len : ∀ ds A q e, sp__law_leftover ds A q e → ds.length = 2) (pure : ∀ ds A q x, sp__law_leftover ds A q x → (as__law_leftover) (endsA (shr q) x) (startA ["tree", "lot", "line"] ds) A) : FnA P w K mg base 4 ad fd ["tree", "lot"] sp__law_leftover := by
  refine fnB_of F sc__law_leftover len (fun cdv A outer s H E hr tk hp => ?_) pure
  have hu := hr.units
  exact ⟨_, (gb_cons (gs_for hp rfl (gi_seq (ga_call h__law_order (hr.mono (by decide)) tk (gs_cons (ga_var (i := 0)) gs_nil))) (gg_name (i := 2) sc__law_leftover.nd) (gb_one (gs_if (gt_cmp ca_ni (ga_var (i := 2)) (ga_var (i := 1))) (gb_one (gs_set (i := 0) sc__law_leftover.nd (ga_call h__law_without (hr.mono (by decide)) tk (gs_cons (ga_var (i := 0)) (gs_cons (ga_var (i := 2)) gs_nil))))) gb_nil)))
    (gb_one (gs_ret (ga_var (i := 0)))))⟩

theorem tm_lines_of (T : Tx K mg P w base) (h_check_tree : Fn0 P w K mg base "check_tree" 4 sp_check_tree) (h_leaves_under : Fn0 P w K mg base "leaves_under" 1 sp_leaves_under) {fd : FuncData} {ad : Addr} (F : FunD K "lines_of" "lines_of" (defArgs st_lines_of) (defBody st_lines_of) (defScope st_lines_of) [] [] ad fd)
    (len : ∀ ds A q e, sp_lines_of ds A q e → ds.length = 1) (pure : ∀ ds A q x, sp_lines_of ds A q x → (as_lines_of) (endsA (shr q) x) (startA ["tree"] ds) A) : FnA P w K mg base 5 ad fd ["tree"] sp_lines_of := by
  refine fnB_of F sc_lines_of len (fun cdv A outer s H E hr tk hp => ?_) pure
  have hu := hr.units
  exact ⟨_, (gb_cons (gs_expr (ga_call h_check_tree (hr.mono (by decide)) tk (gs_cons (ga_var (i := 0)) gs_nil)))
    (gb_one (gs_ret (ga_bty ba_tuple T.f_tuple (gs_cons (ga_frz (ga_blt ba_sortedU T.f_sorted (gs_cons (ga_call h_leaves_under (hr.mono (by decide)) tk (gs_cons (ga_var (i := 0)) gs_nil)) gs_nil))) gs_nil)))))⟩

theorem tm__law_lot (T : Tx K mg P w base) (h__law_take : Fn0 P w K mg base "_law_take" 2 sp__law_take) (h__law_pick : Fn0 P w K mg base "_law_pick" 3 sp__law_pick) (h__law_some : Fn0 P w K mg base "_law_some" 4 sp__law_some) (h__law_lotof : Fn0 P w K mg base "_law_lotof" 1 sp__law_lotof) {fd : FuncData} {ad : Addr} (F : FunD K "_law_lot" "_law_lot" (defArgs st__law_lot) (defBody st__law_lot) (defScope st__law_lot) [] [] ad fd)
    (len : ∀ ds A q e, sp__law_lot ds A q e → ds.length = 2) (pure : ∀ ds A q x, sp__law_lot ds A q x → (as__law_lot) (endsA (shr q) x) (startA ["store", "lines", "way", "most", "line"] ds) A) : FnA P w K mg base 5 ad fd ["store", "lines"] sp__law_lot := by
  refine fnB_of F sc__law_lot len (fun cdv A outer s H E hr tk hp => ?_) pure
  have hu := hr.units
  exact ⟨_, (gb_cons (gs_set (i := 2) sc__law_lot.nd (ga_call h__law_take (hr.mono (by decide)) tk (gs_cons (ga_var (i := 0)) (gs_cons ga_int gs_nil))))
    (gb_cons (gs_if (gt_cmp (ca_eq hu) (ga_var (i := 2)) ga_int) (gb_one (gs_ret (ga_bty ba_tuple T.f_tuple (gs_cons (ga_var (i := 1)) gs_nil)))) gb_nil)
    (gb_cons (gs_if (gt_cmp (ca_eq hu) (ga_var (i := 2)) ga_int) (gb_one (gs_ret (ga_tup (gs_cons (ga_call h__law_pick (hr.mono (by decide)) tk (gs_cons (ga_var (i := 0)) (gs_cons (ga_var (i := 1)) gs_nil))) gs_nil)))) gb_nil)
    (gb_cons (gs_if (gt_bool (gw_and (gt_cmp (ca_eq hu) (ga_var (i := 2)) ga_int) (gw_and1 (gt_cmp ca_gt (ga_blt ba_len T.f_len (gs_cons (ga_var (i := 1)) gs_nil)) ga_int)))) (gb_one (gs_ret (ga_bty ba_tuple T.f_tuple (gs_cons (ga_call h__law_some (hr.mono (by decide)) tk (gs_cons (ga_var (i := 0)) (gs_cons (ga_var (i := 1)) (gs_cons ga_int gs_nil)))) gs_nil)))) gb_nil)
    (gb_cons (gs_set (i := 3) sc__law_lot.nd ga_int)
    (gb_cons (gs_for hp rfl (gi_seq (ga_var (i := 1))) (gg_name (i := 4) sc__law_lot.nd) (gb_one (gs_set (i := 3) sc__law_lot.nd (ga_mul (ga_var (i := 3)) ga_int))))
    (gb_one (gs_ret (ga_call h__law_lotof (hr.mono (by decide)) tk (gs_cons (ga_var (i := 1)) (gs_cons (ga_add ga_int (ga_call h__law_take (hr.mono (by decide)) tk (gs_cons (ga_var (i := 0)) (gs_cons (ga_sub (ga_var (i := 3)) ga_int) gs_nil)))) gs_nil)))))))))))⟩

theorem tm__law_edge (T : Tx K mg P w base) (h__law_take : Fn0 P w K mg base "_law_take" 2 sp__law_take) (h__law_pick : Fn0 P w K mg base "_law_pick" 3 sp__law_pick) (h__law_chain : Fn0 P w K mg base "_law_chain" 4 sp__law_chain) {fd : FuncData} {ad : Addr} (F : FunD K "_law_edge" "_law_edge" (defArgs st__law_edge) (defBody st__law_edge) (defScope st__law_edge) [] [] ad fd)
    (len : ∀ ds A q e, sp__law_edge ds A q e → ds.length = 1) (pure : ∀ ds A q x, sp__law_edge ds A q x → (as__law_edge) (endsA (shr q) x) (startA ["store", "way", "kind", "k"] ds) A) : FnA P w K mg base 5 ad fd ["store"] sp__law_edge := by
  refine fnB_of F sc__law_edge len (fun cdv A outer s H E hr tk hp => ?_) pure
  have hu := hr.units
  exact ⟨_, (gb_cons (gs_set (i := 1) sc__law_edge.nd (ga_call h__law_take (hr.mono (by decide)) tk (gs_cons (ga_var (i := 0)) (gs_cons ga_int gs_nil))))
    (gb_cons (gs_set (i := 2) sc__law_edge.nd (ga_call h__law_pick (hr.mono (by decide)) tk (gs_cons (ga_var (i := 0)) (gs_cons (ga_lstF (gs_cons ga_str (gs_cons ga_str (gs_cons ga_str gs_nil)))) gs_nil))))
    (gb_cons (gs_if (gt_cmp (ca_eq hu) (ga_var (i := 1)) ga_int) (gb_one (gs_ret (ga_call h__law_chain (hr.mono (by decide)) tk (gs_cons (ga_var (i := 0)) (gs_cons ga_int (gs_cons ga_str gs_nil)))))) gb_nil)
    (gb_cons (gs_if (gt_cmp (ca_eq hu) (ga_var (i := 1)) ga_int) (gb_one (gs_ret (ga_tup (gs_cons (ga_var (i := 2)) (gs_cons (ga_tup (gs_cons (ga_call h__law_chain (hr.mono (by decide)) tk (gs_cons (ga_var (i := 0)) (gs_cons ga_int (gs_cons ga_str gs_nil)))) (gs_cons (ga_call h__law_chain (hr.mono (by decide)) tk (gs_cons (ga_var (i := 0)) (gs_cons ga_int (gs_cons ga_str gs_nil)))) (gs_cons (ga_call h__law_chain (hr.mono (by decide)) tk (gs_cons (ga_var (i := 0)) (gs_cons ga_int (gs_cons ga_str gs_nil)))) gs_nil)))) gs_nil))))) gb_nil)
    (gb_one (gs_ret (ga_tup (gs_cons (ga_var (i := 2)) (gs_cons (ga_bty ba_tuple T.f_tuple (gs_cons (ga_frz (ga_lc (own := [("k", 3)]) rfl sc__law_edge.nd (gi_rng1 (gs_cons ga_int gs_nil) T.f_range) (show BlkOk ["store", "way", "kind", "k"] (defScope st__law_edge) _ [("k", 3)] from ⟨rfl, by decide +kernel, by decide +kernel, by decide +kernel, by decide +kernel⟩) (fun s H C cl fp => (gg_name (i := 3) sc__law_edge.nd)) (fun s H C cl fp => gts_nil) (fun s H C cl fp => (ga_add ga_str (ga_bty ba_str T.f_str (gs_cons (ga_var (i := 3)) gs_nil)))) (tw_name (by decide)))) gs_nil)) gs_nil)))))))))⟩

theorem tm__law_wrongnest (T : Tx K mg P w base) (h__law_nodes : Fn0 P w K mg base "_law_nodes" 1 sp__law_nodes) (h__law_take : Fn0 P w K mg base "_law_take" 2 sp__law_take) (h__law_pick : Fn0 P w K mg base "_law_pick" 3 sp__law_pick) (h__law_put : Fn0 P w K mg base "_law_put" 1 sp__law_put) (h__law_chain : Fn0 P w K mg base "_law_chain" 4 sp__law_chain) {fd : FuncData} {ad : Addr} (F : FunD K "_law_wrongnest" "_law_wrongnest" (defArgs st__law_wrongnest) (defBody st__law_wrongnest) (defScope st__law_wrongnest) [] [] ad fd)
    (len : ∀ ds A q e, sp__law_wrongnest ds A q e → ds.length = 2) (pure : ∀ ds A q x, sp__law_wrongnest ds A q x → (as__law_wrongnest) (endsA (shr q) x) (startA ["store", "tree", "leaves", "at", "path", "kind", "way", "bad", "name", "three", "found", "row", "k"] ds) A) : FnA P w K mg base 5 ad fd ["store", "tree"] sp__law_wrongnest := by
  refine fnB_of F sc__law_wrongnest len (fun cdv A outer s H E hr tk hp => ?_) pure
  have hu := hr.units
  exact ⟨_, (gb_cons (gs_setLcF (i := 2) (own := [("row", 11)]) rfl sc__law_wrongnest.nd (gi_seq (ga_call h__law_nodes (hr.mono (by decide)) tk (gs_cons (ga_var (i := 1)) gs_nil))) (show BlkOk ["store", "tree", "leaves", "at", "path", "kind", "way", "bad", "name", "three", "found", "row", "k"] (defScope st__law_wrongnest) _ [("row", 11)] from ⟨rfl, by decide +kernel, by decide +kernel, by decide +kernel, by decide +kernel⟩) (fun s H C cl fp => (gg_name (i := 11) sc__law_wrongnest.nd)) (fun s H C cl fp => (gts_one (gt_val (ga_blt ba_isi T.f_isinstance (gs_cons (ga_ix (ga_var (i := 11)) ga_int) (gs_cons (ga_bltn T.f_str (v := .ty "str") (u := .type "str") (by decide +kernel) rfl (fun _ => .ty _)) gs_nil)))))) (fun s H C cl fp => (ga_var (i := 11))) (tw_name (by decide)))
    (gb_cons (gs_set (i := 3) sc__law_wrongnest.nd (ga_call h__law_take (hr.mono (by decide)) tk (gs_cons (ga_var (i := 0)) (gs_cons (ga_blt ba_len T.f_len (gs_cons (ga_var (i := 2)) gs_nil)) gs_nil))))
    (gb_cons (gs_set (i := 4) sc__law_wrongnest.nd (ga_ix (ga_ix (ga_var (i := 2)) (ga_var (i := 3))) ga_int))
    (gb_cons (gs_set (i := 5) sc__law_wrongnest.nd (ga_call h__law_pick (hr.mono (by decide)) tk (gs_cons (ga_var (i := 0)) (gs_cons (ga_lstF (gs_cons ga_str (gs_cons ga_str (gs_cons ga_str gs_nil)))) gs_nil))))
    (gb_cons (gs_set (i := 6) sc__law_wrongnest.nd (ga_call h__law_take (hr.mono (by decide)) tk (gs_cons (ga_var (i := 0)) (gs_cons ga_int gs_nil))))
    (gb_cons (gs_if (gt_cmp (ca_eq hu) (ga_var (i := 6)) ga_int) (gb_cons (gs_set (i := 7) sc__law_wrongnest.nd (ga_call h__law_pick (hr.mono (by decide)) tk (gs_cons (ga_var (i := 0)) (gs_cons (ga_lstF (gs_cons ga_str (gs_cons ga_str (gs_cons ga_str (gs_cons ga_str (gs_cons ga_str (gs_cons ga_str (gs_cons ga_str (gs_cons ga_str (gs_cons ga_str (gs_cons ga_str (gs_cons ga_str (gs_cons ga_str gs_nil))))))))))))) gs_nil))))
    (gb_one (gs_ret (ga_lstF (gs_cons (ga_call h__law_put (hr.mono (by decide)) tk (gs_cons (ga_var (i := 1)) (gs_cons (ga_var (i := 4)) (gs_cons (ga_var (i := 7)) gs_nil)))) (gs_cons ga_str (gs_cons (ga_tup (gs_cons (ga_var (i := 7)) gs_nil)) gs_nil))))))) gb_nil)
    (gb_cons (gs_if (gt_bool (gw_and (gt_cmp (ca_eq hu) (ga_var (i := 6)) ga_int) (gw_and1 (gt_cmp ca_gt (ga_var (i := 3)) ga_int)))) (gb_cons (gs_set (i := 8) sc__law_wrongnest.nd (ga_ix (ga_ix (ga_var (i := 2)) (ga_call h__law_take (hr.mono (by decide)) tk (gs_cons (ga_var (i := 0)) (gs_cons (ga_var (i := 3)) gs_nil)))) ga_int))
    (gb_one (gs_ret (ga_lstF (gs_cons (ga_call h__law_put (hr.mono (by decide)) tk (gs_cons (ga_var (i := 1)) (gs_cons (ga_var (i := 4)) (gs_cons (ga_var (i := 8)) gs_nil)))) (gs_cons ga_str (gs_cons (ga_tup (gs_cons (ga_var (i := 8)) gs_nil)) gs_nil))))))) gb_nil)
    (gb_cons (gs_if (gt_cmp (ca_eq hu) (ga_var (i := 6)) ga_int) (gb_one (gs_ret (ga_lstF (gs_cons (ga_call h__law_chain (hr.mono (by decide)) tk (gs_cons (ga_var (i := 0)) (gs_cons ga_int (gs_cons (ga_ix (ga_ix (ga_var (i := 2)) ga_int) ga_int) gs_nil)))) (gs_cons ga_str (gs_cons (ga_tup (gs_cons ga_str (gs_cons ga_int gs_nil))) gs_nil)))))) gb_nil)
    (gb_cons (gs_if (gt_cmp (ca_eq hu) (ga_var (i := 6)) ga_int) (gb_one (gs_ret (ga_lstF (gs_cons (ga_tup (gs_cons (ga_var (i := 5)) (gs_cons (ga_bty ba_tuple T.f_tuple (gs_cons (ga_frz (ga_lc (own := [("k", 12)]) rfl sc__law_wrongnest.nd (gi_rng1 (gs_cons ga_int gs_nil) T.f_range) (show BlkOk ["store", "tree", "leaves", "at", "path", "kind", "way", "bad", "name", "three", "found", "row", "k"] (defScope st__law_wrongnest) _ [("k", 12)] from ⟨rfl, by decide +kernel, by decide +kernel, by decide +kernel, by decide +kernel⟩) (fun s H C cl fp => (gg_name (i := 12) sc__law_wrongnest.nd)) (fun s H C cl fp => gts_nil) (fun s H C cl fp => (ga_add ga_str (ga_bty ba_str T.f_str (gs_cons (ga_var (i := 12)) gs_nil)))) (tw_name (by decide)))) gs_nil)) gs_nil))) (gs_cons ga_str (gs_cons (ga_tup (gs_cons ga_str (gs_cons ga_int gs_nil))) gs_nil)))))) gb_nil)
    (gb_cons (gs_if (gt_cmp (ca_eq hu) (ga_var (i := 6)) ga_int) (gb_cons (gs_setLcF (i := 9) (own := [("name", 8)]) rfl sc__law_wrongnest.nd (gi_seq (ga_lstF (gs_cons ga_str (gs_cons ga_str (gs_cons ga_str gs_nil))))) (show BlkOk ["store", "tree", "leaves", "at", "path", "kind", "way", "bad", "name", "three", "found", "row", "k"] (defScope st__law_wrongnest) _ [("name", 8)] from ⟨rfl, by decide +kernel, by decide +kernel, by decide +kernel, by decide +kernel⟩) (fun s H C cl fp => (gg_name (i := 8) sc__law_wrongnest.nd)) (fun s H C cl fp => gts_nil) (fun s H C cl fp => (ga_call h__law_chain (hr.mono (by decide)) takesF (gs_cons (ga_var (i := 0)) (gs_cons ga_int (gs_cons (ga_var (i := 8)) gs_nil))))) (tw_name (by decide)))
    (gb_one (gs_ret (ga_lstF (gs_cons (ga_tup (gs_cons (ga_var (i := 5)) (gs_cons (ga_bty ba_tuple T.f_tuple (gs_cons (ga_var (i := 9)) gs_nil)) gs_nil))) (gs_cons ga_str (gs_cons (ga_tup (gs_cons ga_str (gs_cons ga_int gs_nil))) gs_nil))))))) gb_nil)
    (gb_cons (gs_set (i := 10) sc__law_wrongnest.nd (ga_lst (gs_cons ga_non (gs_cons ga_bl (gs_cons ga_bl (gs_cons ga_int (gs_cons ga_int (gs_cons (ga_tup gs_nil) (gs_cons (ga_tup (gs_cons (ga_var (i := 5)) gs_nil)) (gs_cons (ga_tup (gs_cons (ga_var (i := 5)) (gs_cons (ga_tup gs_nil) gs_nil))) (gs_cons (ga_tup (gs_cons (ga_var (i := 5)) (gs_cons ga_str gs_nil))) (gs_cons (ga_tup (gs_cons (ga_var (i := 5)) (gs_cons (ga_tup (gs_cons ga_str gs_nil)) (gs_cons (ga_tup gs_nil) gs_nil)))) (gs_cons (ga_tup (gs_cons ga_str (gs_cons (ga_tup (gs_cons ga_str gs_nil)) gs_nil))) gs_nil)))))))))))))
    (gb_cons (gs_expr (ga_mL ml_extendU (ga_var (i := 10)) (gs_cons (ga_lstF (gs_cons (ga_tup (gs_cons ga_str (gs_cons (ga_tup (gs_cons ga_str gs_nil)) gs_nil))) (gs_cons (ga_tup (gs_cons ga_str (gs_cons (ga_tup (gs_cons ga_str gs_nil)) gs_nil))) (gs_cons (ga_tup (gs_cons ga_non (gs_cons (ga_tup (gs_cons ga_str gs_nil)) gs_nil))) (gs_cons (ga_tup (gs_cons (ga_tup (gs_cons (ga_var (i := 5)) gs_nil)) (gs_cons (ga_tup (gs_cons ga_str gs_nil)) gs_nil))) (gs_cons (ga_tup (gs_cons (ga_var (i := 5)) (gs_cons ga_non gs_nil))) (gs_cons (ga_tup (gs_cons (ga_var (i := 5)) (gs_cons ga_int gs_nil))) gs_nil))))))) gs_nil)))
    (gb_cons (gs_expr (ga_mL ml_extendU (ga_var (i := 10)) (gs_cons (ga_lstF (gs_cons (ga_tup (gs_cons (ga_tup (gs_cons (ga_var (i := 5)) (gs_cons (ga_tup (gs_cons ga_str gs_nil)) gs_nil))) gs_nil)) (gs_cons (ga_tup (gs_cons ga_int (gs_cons (ga_tup (gs_cons ga_str gs_nil)) gs_nil))) (gs_cons (ga_tup (gs_cons ga_str (gs_cons (ga_tup (gs_cons ga_str gs_nil)) gs_nil))) (gs_cons (ga_tup (gs_cons ga_str (gs_cons (ga_tup (gs_cons ga_str gs_nil)) gs_nil))) gs_nil))))) gs_nil)))
    (gb_one (gs_ret (ga_lstF (gs_cons (ga_call h__law_put (hr.mono (by decide)) tk (gs_cons (ga_var (i := 1)) (gs_cons (ga_var (i := 4)) (gs_cons (ga_call h__law_pick (hr.mono (by decide)) tk (gs_cons (ga_var (i := 0)) (gs_cons (ga_var (i := 10)) gs_nil))) gs_nil)))) (gs_cons ga_str (gs_cons (ga_tup (gs_cons (ga_var (i := 4)) gs_nil)) gs_nil)))))))))))))))))))⟩

theorem tm__law_grove (T : Tx K mg P w base) (h__law_take : Fn0 P w K mg base "_law_take" 2 sp__law_take) (h__law_edge : Fn0 P w K mg base "_law_edge" 5 sp__law_edge) (h__law_tree : Fn0 P w K mg base "_law_tree" 4 sp__law_tree) (h__law_names : Fn0 P w K mg base "_law_names" 4 sp__law_names) {fd : FuncData} {ad : Addr} (F : FunD K "_law_grove" "_law_grove" (defArgs st__law_grove) (defBody st__law_grove) (defScope st__law_grove) [] [] ad fd)
    (len : ∀ ds A q e, sp__law_grove ds A q e → ds.length = 2) (pure : ∀ ds A q x, sp__law_grove ds A q x → (as__law_grove) (endsA (shr q) x) (startA ["store", "most", "way", "many"] ds) A) : FnA P w K mg base 6 ad fd ["store", "most"] sp__law_grove := by
  refine fnB_of F sc__law_grove len (fun cdv A outer s H E hr tk hp => ?_) pure
  have hu := hr.units
  exact ⟨_, (gb_cons (gs_set (i := 2) sc__law_grove.nd (ga_call h__law_take (hr.mono (by decide)) tk (gs_cons (ga_var (i := 0)) (gs_cons ga_int gs_nil))))
    (gb_cons (gs_if (gt_cmp (ca_eq hu) (ga_var (i := 2)) ga_int) (gb_one (gs_ret (ga_call h__law_edge (hr.mono (by decide)) tk (gs_cons (ga_var (i := 0)) gs_nil)))) gb_nil)
    (gb_cons (gs_set (i := 3) sc__law_grove.nd (ga_add ga_int (ga_call h__law_take (hr.mono (by decide)) tk (gs_cons (ga_var (i := 0)) (gs_cons (ga_var (i := 1)) gs_nil)))))
    (gb_cons (gs_if (gt_cmp (ca_eq hu) (ga_var (i := 2)) ga_int) (gb_one (gs_set (i := 3) sc__law_grove.nd (ga_add (ga_var (i := 1)) (ga_call h__law_take (hr.mono (by decide)) tk (gs_cons (ga_var (i := 0)) (gs_cons (ga_sub ga_int (ga_var (i := 1))) gs_nil)))))) gb_nil)
    (gb_one (gs_ret (ga_call h__law_tree (hr.mono (by decide)) tk (gs_cons (ga_var (i := 0)) (gs_cons (ga_call h__law_names (hr.mono (by decide)) tk (gs_cons (ga_var (i := 0)) (gs_cons (ga_var (i := 3)) gs_nil))) gs_nil)))))))))⟩

theorem tm__law_wronglot (T : Tx K mg P w base) (h__law_lot : Fn0 P w K mg base "_law_lot" 5 sp__law_lot) (h__law_take : Fn0 P w K mg base "_law_take" 2 sp__law_take) (h__law_pick : Fn0 P w K mg base "_law_pick" 3 sp__law_pick) {fd : FuncData} {ad : Addr} (F : FunD K "_law_wronglot" "_law_wronglot" (defArgs st__law_wronglot) (defBody st__law_wronglot) (defScope st__law_wronglot) [] [] ad fd)
    (len : ∀ ds A q e, sp__law_wronglot ds A q e → ds.length = 2) (pure : ∀ ds A q x, sp__law_wronglot ds A q x → (as__law_wronglot) (endsA (shr q) x) (startA ["store", "lines", "lot", "at", "way", "bad"] ds) A) : FnA P w K mg base 6 ad fd ["store", "lines"] sp__law_wronglot := by
  refine fnB_of F sc__law_wronglot len (fun cdv A outer s H E hr tk hp => ?_) pure
  have hu := hr.units
  exact ⟨_, (gb_cons (gs_set (i := 2) sc__law_wronglot.nd (ga_frz (ga_bty ba_list T.f_list (gs_cons (ga_call h__law_lot (hr.mono (by decide)) tk (gs_cons (ga_var (i := 0)) (gs_cons (ga_var (i := 1)) gs_nil))) gs_nil))))
    (gb_cons (gs_set (i := 3) sc__law_wronglot.nd (ga_call h__law_take (hr.mono (by decide)) tk (gs_cons (ga_var (i := 0)) (gs_cons (ga_blt ba_len T.f_len (gs_cons (ga_var (i := 2)) gs_nil)) gs_nil))))
    (gb_cons (gs_set (i := 4) sc__law_wronglot.nd (ga_call h__law_take (hr.mono (by decide)) tk (gs_cons (ga_var (i := 0)) (gs_cons ga_int gs_nil))))
    (gb_cons (gs_if (gt_cmp (ca_eq hu) (ga_var (i := 4)) ga_int) (gb_one (gs_ret (ga_lstF (gs_cons (ga_tup gs_nil) (gs_cons ga_str (gs_cons (ga_tup (gs_cons ga_int gs_nil)) gs_nil)))))) gb_nil)
    (gb_cons (gs_if (gt_bool (gw_and (gt_cmp (ca_eq hu) (ga_var (i := 4)) ga_int) (gw_and1 (gt_cmp ca_gt (ga_blt ba_len T.f_len (gs_cons (ga_var (i := 2)) gs_nil)) ga_int)))) (gb_cons (gs_set (i := 3) sc__law_wronglot.nd (ga_blt (ba_max2 rfl) T.f_max (gs_cons (ga_var (i := 3)) (gs_cons ga_int gs_nil))))
    (gb_one (gs_ret (ga_lstF (gs_cons (ga_bty ba_tuple T.f_tuple (gs_cons (ga_frz (ga_add (ga_frz (ga_add (ga_frz (ga_sl (ga_var (i := 2)) go_none (go_some (ga_sub (ga_var (i := 3)) ga_int)))) (ga_lstF (gs_cons (ga_ix (ga_var (i := 2)) (ga_var (i := 3))) (gs_cons (ga_ix (ga_var (i := 2)) (ga_sub (ga_var (i := 3)) ga_int)) gs_nil))))) (ga_frz (ga_sl (ga_var (i := 2)) (go_some (ga_add (ga_var (i := 3)) ga_int)) go_none)))) gs_nil)) (gs_cons ga_str (gs_cons (ga_tup (gs_cons (ga_var (i := 3)) gs_nil)) gs_nil))))))) gb_nil)
    (gb_cons (gs_if (gt_cmp (ca_eq hu) (ga_var (i := 4)) ga_int) (gb_one (gs_ret (ga_lstF (gs_cons (ga_bty ba_tuple T.f_tuple (gs_cons (ga_frz (ga_add (ga_frz (ga_sl (ga_var (i := 2)) go_none (go_some (ga_add (ga_var (i := 3)) ga_int)))) (ga_frz (ga_sl (ga_var (i := 2)) (go_some (ga_var (i := 3))) go_none)))) gs_nil)) (gs_cons ga_str (gs_cons (ga_tup (gs_cons (ga_add (ga_var (i := 3)) ga_int) gs_nil)) gs_nil)))))) gb_nil)
    (gb_cons (gs_set (i := 5) sc__law_wronglot.nd (ga_call h__law_pick (hr.mono (by decide)) tk (gs_cons (ga_var (i := 0)) (gs_cons (ga_lstF (gs_cons ga_str (gs_cons ga_str (gs_cons ga_str (gs_cons ga_str (gs_cons ga_str (gs_cons (ga_add (ga_ix (ga_var (i := 1)) ga_int) ga_str) (gs_cons (ga_add (ga_ix (ga_var (i := 1)) (ga_neg ga_int)) ga_str) (gs_cons ga_str (gs_cons ga_str gs_nil)))))))))) gs_nil))))
    (gb_one (gs_ret (ga_lstF (gs_cons (ga_bty ba_tuple T.f_tuple (gs_cons (ga_frz (ga_add (ga_frz (ga_add (ga_frz (ga_sl (ga_var (i := 2)) go_none (go_some (ga_var (i := 3))))) (ga_lstF (gs_cons (ga_var (i := 5)) gs_nil)))) (ga_frz (ga_sl (ga_var (i := 2)) (go_some (ga_add (ga_var (i := 3)) (ga_mod (ga_var (i := 4)) ga_int))) go_none)))) gs_nil)) (gs_cons ga_str (gs_cons (ga_tup (gs_cons (ga_var (i := 5)) gs_nil)) gs_nil)))))))))))))⟩

theorem tm__law_world (T : Tx K mg P w base) (h__law_grove : Fn0 P w K mg base "_law_grove" 6 sp__law_grove) (h__law_order : Fn0 P w K mg base "_law_order" 2 sp__law_order) (h__law_tree : Fn0 P w K mg base "_law_tree" 4 sp__law_tree) (h__law_lot : Fn0 P w K mg base "_law_lot" 5 sp__law_lot) (h__law_wronglot : Fn0 P w K mg base "_law_wronglot" 6 sp__law_wronglot) (h__law_wrongnest : Fn0 P w K mg base "_law_wrongnest" 5 sp__law_wrongnest) {fd : FuncData} {ad : Addr} (F : FunD K "_law_world" "_law_world" (defArgs st__law_world) (defBody st__law_world) (defScope st__law_world) [] [] ad fd)
    (len : ∀ ds A q e, sp__law_world ds A q e → ds.length = 1) (pure : ∀ ds A q x, sp__law_world ds A q x → (as__law_world) (endsA (shr q) x) (startA ["store", "tree", "lines", "other", "lot", "inner", "wrong"] ds) A) : FnA P w K mg base 7 ad fd ["store"] sp__law_world := by
  refine fnB_of F sc__law_world len (fun cdv A outer s H E hr tk hp => ?_) pure
  have hu := hr.units
  exact ⟨_, (gb_cons (gs_set (i := 1) sc__law_world.nd (ga_call h__law_grove (hr.mono (by decide)) tk (gs_cons (ga_var (i := 0)) (gs_cons ga_int gs_nil))))
    (gb_cons (gs_set (i := 2) sc__law_world.nd (ga_bty ba_tuple T.f_tuple (gs_cons (ga_frz (ga_blt ba_sortedU T.f_sorted (gs_cons (ga_call h__law_order (hr.mono (by decide)) tk (gs_cons (ga_var (i := 1)) gs_nil)) gs_nil))) gs_nil)))
    (gb_cons (gs_set (i := 3) sc__law_world.nd (ga_call h__law_tree (hr.mono (by decide)) tk (gs_cons (ga_var (i := 0)) (gs_cons (ga_var (i := 2)) gs_nil))))
    (gb_cons (gs_set (i := 4) sc__law_world.nd (ga_call h__law_lot (hr.mono (by decide)) tk (gs_cons (ga_var (i := 0)) (gs_cons (ga_var (i := 2)) gs_nil))))
    (gb_cons (gs_set (i := 5) sc__law_world.nd (ga_call h__law_lot (hr.mono (by decide)) tk (gs_cons (ga_var (i := 0)) (gs_cons (ga_var (i := 4)) gs_nil))))
    (gb_cons (gs_set (i := 6) sc__law_world.nd (ga_call h__law_wronglot (hr.mono (by decide)) tk (gs_cons (ga_var (i := 0)) (gs_cons (ga_var (i := 2)) gs_nil))))
    (gb_one (gs_ret (ga_lstF (gs_cons (ga_var (i := 1)) (gs_cons (ga_var (i := 3)) (gs_cons (ga_var (i := 2)) (gs_cons (ga_var (i := 4)) (gs_cons (ga_var (i := 5)) (gs_cons (ga_var (i := 6)) (gs_cons (ga_call h__law_wrongnest (hr.mono (by decide)) tk (gs_cons (ga_var (i := 0)) (gs_cons (ga_var (i := 1)) gs_nil))) gs_nil))))))))))))))))⟩

theorem tm_struck (T : Tx K mg P w base) (n : Nat) (h_self : Fn0 P w K mg base "struck" (0 + n) (spr_struck n)) {fd : FuncData} {ad : Addr} (F : FunD K "struck" "struck" (defArgs st_struck) (defBody st_struck) (defScope st_struck) [] [] ad fd)
    (len : ∀ ds A q e, spr_struck (n + 1) ds A q e → ds.length = 2) (pure : ∀ ds A q x, spr_struck (n + 1) ds A q x → (as_struck n) (endsA (shr q) x) (startA ["tree", "lot", "kind", "children", "parts", "left", "child", "part"] ds) A) : FnA P w K mg base (0 + n + 1) ad fd ["tree", "lot"] (spr_struck (n + 1)) := by
  refine fnB_of F sc_struck len (fun cdv A outer s H E hr tk hp => ?_) pure
  have hu := hr.units
  exact ⟨_, (gb_cons (gs_if (gt_val (ga_blt ba_isi T.f_isinstance (gs_cons (ga_var (i := 0)) (gs_cons (ga_bltn T.f_str (v := .ty "str") (u := .type "str") (by decide +kernel) rfl (fun _ => .ty _)) gs_nil)))) (gb_one (gs_ret (ga_if (gt_cmp ca_in (ga_var (i := 0)) (ga_var (i := 1))) (ga_var (i := 0)) ga_non))) gb_nil)
    (gb_cons (gs_asg (ga_var (i := 0)) (gg_tup rfl (gg_cons (gg_name (i := 2) sc_struck.nd) (gg_cons (gg_name (i := 3) sc_struck.nd) gg_nil))))
    (gb_cons (gs_setLcF (i := 4) (own := [("child", 6)]) rfl sc_struck.nd (gi_seq (ga_var (i := 3))) (show BlkOk ["tree", "lot", "kind", "children", "parts", "left", "child", "part"] (defScope st_struck) _ [("child", 6)] from ⟨rfl, by decide +kernel, by decide +kernel, by decide +kernel, by decide +kernel⟩) (fun s H C cl fp => (gg_name (i := 6) sc_struck.nd)) (fun s H C cl fp => gts_nil) (fun s H C cl fp => (ga_call h_self (hr.mono (by omega)) takesF (gs_cons (ga_var (i := 6)) (gs_cons (ga_var (i := 1)) gs_nil)))) (tw_name (by decide)))
    (gb_cons (gs_set (i := 5) sc_struck.nd (ga_bty ba_tuple T.f_tuple (gs_cons (ga_frz (ga_lc (own := [("part", 7)]) rfl sc_struck.nd (gi_seq (ga_var (i := 4))) (show BlkOk ["tree", "lot", "kind", "children", "parts", "left", "child", "part"] (defScope st_struck) _ [("part", 7)] from ⟨rfl, by decide +kernel, by decide +kernel, by decide +kernel, by decide +kernel⟩) (fun s H C cl fp => (gg_name (i := 7) sc_struck.nd)) (fun s H C cl fp => (gts_one (gt_cmp ca_isn (ga_var (i := 7)) ga_non))) (fun s H C cl fp => (ga_var (i := 7))) (tw_name (by decide)))) gs_nil)))
    (gb_one (gs_ret (ga_if (gt_cmp ca_gt (ga_blt ba_len T.f_len (gs_cons (ga_var (i := 5)) gs_nil)) ga_int) (ga_tup (gs_cons (ga_var (i := 2)) (gs_cons (ga_var (i := 5)) gs_nil))) ga_non)))))))⟩

theorem tm_strike (T : Tx K mg P w base) (h_check_tree : Fn0 P w K mg base "check_tree" 4 sp_check_tree) (h_check_lot : Fn0 P w K mg base "check_lot" 3 sp_check_lot) (h_lines_of : Fn0 P w K mg base "lines_of" 5 sp_lines_of) (h_struck : Fn0 P w K mg base "struck" 30 sp_struck) {fd : FuncData} {ad : Addr} (F : FunD K "strike" "strike" (defArgs st_strike) (defBody st_strike) (defScope st_strike) [] [] ad fd)
    (len : ∀ ds A q e, sp_strike ds A q e → ds.length = 2) (pure : ∀ ds A q x, sp_strike ds A q x → (as_strike) (endsA (shr q) x) (startA ["tree", "lot"] ds) A) : FnA P w K mg base 31 ad fd ["tree", "lot"] sp_strike := by
  refine fnB_of F sc_strike len (fun cdv A outer s H E hr tk hp => ?_) pure
  have hu := hr.units
  exact ⟨_, (gb_cons (gs_expr (ga_call h_check_tree (hr.mono (by decide)) tk (gs_cons (ga_var (i := 0)) gs_nil)))
    (gb_cons (gs_expr (ga_call h_check_lot (hr.mono (by decide)) tk (gs_cons (ga_call h_lines_of (hr.mono (by decide)) tk (gs_cons (ga_var (i := 0)) gs_nil)) (gs_cons (ga_var (i := 1)) gs_nil))))
    (gb_one (gs_ret (ga_call h_struck (hr.mono (by decide)) tk (gs_cons (ga_var (i := 0)) (gs_cons (ga_var (i := 1)) gs_nil)))))))⟩

theorem tm__law_tried (T : Tx K mg P w base) (h_strike : Fn0 P w K mg base "strike" 31 sp_strike) (hh__law_error : FnH0 P w K mg base excs "_law_error" 1 hsp__law_error) {fd : FuncData} {ad : Addr} (F : FunD K "_law_tried" "_law_tried" (defArgs st__law_tried) (defBody st__law_tried) (defScope st__law_tried) [] [] ad fd)
    (len : ∀ ds A q e, sp__law_tried ds A q e → ds.length = 2) (pure : ∀ ds A q x, sp__law_tried ds A q x → (as__law_tried) (endsA (shr q) x) (startA ["tree", "lot", "e"] ds) A) : FnA P w K mg base 32 ad fd ["tree", "lot"] sp__law_tried := by
  refine fnB_of F sc__law_tried len (fun cdv A outer s H E hr tk hp => ?_) pure
  have hu := hr.units
  exact ⟨_, (gb_one (gs_try (i := 2) (names := excs) rfl rfl sc__law_tried.nd rfl rfl ⟨rfl, by decide, .inl T.n_GrantError⟩ T.exm takesF (fun W pn xe tk hp => (gb_one (gs_ret (ga_tup (gs_cons ga_str (gs_cons (ga_call h_strike (hr.mono (by decide)) tk (gs_cons (ga_var (i := 0)) (gs_cons (ga_var (i := 1)) gs_nil))) gs_nil)))))) (fun a oe ε pn hcl hz hf => (gb_one (gs_ret (gh_call hh__law_error hcl (L2H.roomH_mark hr _) (by decide) (hot_suite hz hf) List.mem_cons_self hz hf takesF (gs_cons (ga_var (i := 2)) gs_nil)))))))⟩

theorem tm__law_struckright (T : Tx K mg P w base) (h__law_tried : Fn0 P w K mg base "_law_tried" 32 sp__law_tried) (h__law_equal : Fn0 P w K mg base "_law_equal" 1 sp__law_equal) (h__law_leftover : Fn0 P w K mg base "_law_leftover" 4 sp__law_leftover) {fd : FuncData} {ad : Addr} (F : FunD K "_law_struckright" "_law_struckright" (defArgs st__law_struckright) (defBody st__law_struckright) (defScope st__law_struckright) [] [] ad fd)
    (len : ∀ ds A q e, sp__law_struckright ds A q e → ds.length = 4) (pure : ∀ ds A q x, sp__law_struckright ds A q x → (as__law_struckright) (endsA (shr q) x) (startA ["tree", "lines", "lot", "inner", "told", "due", "lost", "line"] ds) A) : FnA P w K mg base 33 ad fd ["tree", "lines", "lot", "inner"] sp__law_struckright := by
  refine fnB_of F sc__law_struckright len (fun cdv A outer s H E hr tk hp => ?_) pure
  have hu := hr.units
  exact ⟨_, (gb_cons (gs_set (i := 4) sc__law_struckright.nd (ga_call h__law_tried (hr.mono (by decide)) tk (gs_cons (ga_var (i := 0)) (gs_cons (ga_var (i := 2)) gs_nil))))
    (gb_cons (gs_if (gt_not (gt_val (ga_call h__law_equal (hr.mono (by decide)) tk (gs_cons (ga_var (i := 4)) (gs_cons (ga_tup (gs_cons ga_str (gs_cons (ga_call h__law_leftover (hr.mono (by decide)) tk (gs_cons (ga_var (i := 0)) (gs_cons (ga_var (i := 2)) gs_nil))) gs_nil))) gs_nil))))) (gb_one (gs_ret ga_bl)) gb_nil)
    (gb_cons (gs_set (i := 5) sc__law_struckright.nd (ga_tup (gs_cons ga_str (gs_cons (ga_call h__law_leftover (hr.mono (by decide)) tk (gs_cons (ga_var (i := 0)) (gs_cons (ga_var (i := 3)) gs_nil))) gs_nil))))
    (gb_cons (gs_if (gt_bool (gw_or (gt_not (gt_val (ga_call h__law_equal (hr.mono (by decide)) tk (gs_cons (ga_call h__law_tried (hr.mono (by decide)) tk (gs_cons (ga_var (i := 0)) (gs_cons (ga_var (i := 3)) gs_nil))) (gs_cons (ga_var (i := 5)) gs_nil))))) (gw_or1 (gt_not (gt_val (ga_call h__law_equal (hr.mono (by decide)) tk (gs_cons (ga_call h__law_tried (hr.mono (by decide)) tk (gs_cons (ga_ix (ga_var (i := 4)) ga_int) (gs_cons (ga_var (i := 3)) gs_nil))) (gs_cons (ga_var (i := 5)) gs_nil)))))))) (gb_one (gs_ret ga_bl)) gb_nil)
    (gb_cons (gs_setLcF (i := 6) (own := [("line", 7)]) rfl sc__law_struckright.nd (gi_seq (ga_var (i := 1))) (show BlkOk ["tree", "lines", "lot", "inner", "told", "due", "lost", "line"] (defScope st__law_struckright) _ [("line", 7)] from ⟨rfl, by decide +kernel, by decide +kernel, by decide +kernel, by decide +kernel⟩) (fun s H C cl fp => (gg_name (i := 7) sc__law_struckright.nd)) (fun s H C cl fp => (gts_one (gt_cmp ca_ni (ga_var (i := 7)) (ga_var (i := 2))))) (fun s H C cl fp => (ga_var (i := 7))) (tw_name (by decide)))
    (gb_cons (gs_if (gt_bool (gw_and (gt_cmp ca_gt (ga_blt ba_len T.f_len (gs_cons (ga_var (i := 6)) gs_nil)) ga_int) (gw_and1 (gt_not (gt_val (ga_call h__law_equal (hr.mono (by decide)) tk (gs_cons (ga_call h__law_tried (hr.mono (by decide)) tk (gs_cons (ga_ix (ga_var (i := 4)) ga_int) (gs_cons (ga_var (i := 1)) gs_nil))) (gs_cons (ga_tup (gs_cons ga_str (gs_cons (ga_tup (gs_cons (ga_ix (ga_var (i := 6)) ga_int) gs_nil)) gs_nil))) gs_nil)))))))) (gb_one (gs_ret ga_bl)) gb_nil)
    (gb_one (gs_ret (ga_call h__law_equal (hr.mono (by decide)) tk (gs_cons (ga_call h__law_tried (hr.mono (by decide)) tk (gs_cons (ga_var (i := 0)) (gs_cons (ga_var (i := 1)) gs_nil))) (gs_cons (ga_tup (gs_cons ga_str (gs_cons (ga_var (i := 0)) gs_nil))) gs_nil)))))))))))⟩

theorem tm_law (T : Tx K mg P w base) (h__law_world : Fn0 P w K mg base "_law_world" 7 sp__law_world) (h__law_store : Fn0 P w K mg base "_law_store" 2 sp__law_store) (h__law_struckright : Fn0 P w K mg base "_law_struckright" 33 sp__law_struckright) (h__law_equal : Fn0 P w K mg base "_law_equal" 1 sp__law_equal) (h__law_tried : Fn0 P w K mg base "_law_tried" 32 sp__law_tried) (h__law_leftover : Fn0 P w K mg base "_law_leftover" 4 sp__law_leftover) {fd : FuncData} {ad : Addr} (F : FunD K "law" "law" (defArgs st_law) (defBody st_law) (defScope st_law) [] [] ad fd)
    (len : ∀ ds A q e, sp_law ds A q e → ds.length = 1) (pure : ∀ ds A q x, sp_law ds A q x → (as_law) (endsA (shr q) x) (startA ["script", "world", "tree", "lines", "lot", "wrong", "bad", "thing"] ds) A) : FnA P w K mg base 34 ad fd ["script"] sp_law := by
  refine fnB_of F sc_law len (fun cdv A outer s H E hr tk hp => ?_) pure
  have hu := hr.units
  exact ⟨_, (gb_cons (gs_set (i := 1) sc_law.nd (ga_call h__law_world (hr.mono (by decide)) tk (gs_cons (ga_call h__law_store (hr.mono (by decide)) tk (gs_cons (ga_var (i := 0)) gs_nil)) gs_nil)))
    (gb_cons (gs_set (i := 2) sc_law.nd (ga_ix (ga_var (i := 1)) ga_int))
    (gb_cons (gs_set (i := 3) sc_law.nd (ga_ix (ga_var (i := 1)) ga_int))
    (gb_cons (gs_set (i := 4) sc_law.nd (ga_ix (ga_var (i := 1)) ga_int))
    (gb_cons (gs_set (i := 5) sc_law.nd (ga_ix (ga_var (i := 1)) ga_int))
    (gb_cons (gs_set (i := 6) sc_law.nd (ga_ix (ga_var (i := 1)) ga_int))
    (gb_cons (gs_if (gt_bool (gw_or (gt_not (gt_val (ga_call h__law_struckright (hr.mono (by decide)) tk (gs_cons (ga_var (i := 2)) (gs_cons (ga_var (i := 3)) (gs_cons (ga_var (i := 4)) (gs_cons (ga_ix (ga_var (i := 1)) ga_int) gs_nil))))))) (gw_or1 (gt_not (gt_val (ga_call h__law_struckright (hr.mono (by decide)) tk (gs_cons (ga_ix (ga_var (i := 1)) ga_int) (gs_cons (ga_var (i := 3)) (gs_cons (ga_var (i := 4)) (gs_cons (ga_ix (ga_var (i := 1)) ga_int) gs_nil)))))))))) (gb_one (gs_ret ga_bl)) gb_nil)
    (gb_cons (gs_for hp rfl (gi_seq (ga_lstF (gs_cons (ga_var (i := 4)) (gs_cons (ga_ix (ga_var (i := 5)) ga_int) (gs_cons (ga_var (i := 3)) gs_nil))))) (gg_name (i := 7) sc_law.nd) (gb_one (gs_if (gt_not (gt_val (ga_call h__law_equal (hr.mono (by decide)) tk (gs_cons (ga_call h__law_tried (hr.mono (by decide)) tk (gs_cons (ga_ix (ga_var (i := 6)) ga_int) (gs_cons (ga_var (i := 7)) gs_nil))) (gs_cons (ga_tup (gs_cons (ga_ix (ga_var (i := 6)) ga_int) (gs_cons (ga_ix (ga_var (i := 6)) ga_int) gs_nil))) gs_nil))))) (gb_one (gs_ret ga_bl)) gb_nil)))
    (gb_cons (gs_if (gt_not (gt_val (ga_call h__law_equal (hr.mono (by decide)) tk (gs_cons (ga_call h__law_tried (hr.mono (by decide)) tk (gs_cons (ga_var (i := 2)) (gs_cons (ga_ix (ga_var (i := 5)) ga_int) gs_nil))) (gs_cons (ga_tup (gs_cons (ga_ix (ga_var (i := 5)) ga_int) (gs_cons (ga_ix (ga_var (i := 5)) ga_int) gs_nil))) gs_nil))))) (gb_one (gs_ret ga_bl)) gb_nil)
    (gb_one (gs_ret (ga_call h__law_equal (hr.mono (by decide)) tk (gs_cons (ga_call h__law_tried (hr.mono (by decide)) tk (gs_cons (ga_var (i := 2)) (gs_cons (ga_var (i := 4)) gs_nil))) (gs_cons (ga_tup (gs_cons ga_str (gs_cons (ga_call h__law_leftover (hr.mono (by decide)) tk (gs_cons (ga_var (i := 2)) (gs_cons (ga_var (i := 4)) gs_nil))) gs_nil))) gs_nil))))))))))))))⟩


end
def clsB (st : Stmt) : List Stmt := match st with
  | .ClassDef _ _ _ b _ _ _ _ _ _ _ => b
  | _ => []
abbrev in_BadName : Stmt := (clsB (top 2)).getD 0 (.Pass ⟨0, 0, 0, 0⟩)
abbrev in_Twice : Stmt := (clsB (top 6)).getD 0 (.Pass ⟨0, 0, 0, 0⟩)
abbrev in_TooMany : Stmt := (clsB (top 7)).getD 0 (.Pass ⟨0, 0, 0, 0⟩)
abbrev in_BadTree : Stmt := (clsB (top 4)).getD 0 (.Pass ⟨0, 0, 0, 0⟩)
abbrev in_BadLot : Stmt := (clsB (top 9)).getD 0 (.Pass ⟨0, 0, 0, 0⟩)
abbrev in_NoSuchLine : Stmt := (clsB (top 10)).getD 0 (.Pass ⟨0, 0, 0, 0⟩)
def fx : List Fx := [.free "ValueError",
  .free "abs",
  .free "bool",
  .free "dict",
  .free "enumerate",
  .free "int",
  .free "isinstance",
  .free "len",
  .free "list",
  .free "max",
  .free "min",
  .free "range",
  .free "sorted",
  .free "str",
  .free "tuple",
  .tup "KEPT_WORDS" [.str "first", .str "back", .str "round", .str "let", .str "tree"],
  .str "LETTERS" "abcdefghijklmnopqrstuvwxyz",
  .str "NAME_SIGNS" "abcdefghijklmnopqrstuvwxyz0123456789.",
  .tup "KINDS" [.str "first", .str "back", .str "round"],
  .int "MOST_LINES" 24,
  .int "MOST_DEPTH" 24,
  .int "MOST_PLACES" 60,
  .glo "GrantError",
  .glo "BadKind",
  .glo "NoSubtree",
  .glo "BadText",
  .glo "BadLog",
  .glo "BadNumber",
  .glo "Mismatch",
  .glo "BadMove",
  .glo "BadTable",
  .glo "NoTree",
  .glo "BadMatrix",
  .glo "NoGrant",
  .glo "BadMachine",
  .glo "BadWish",
  .glo "NoCover",
  .glo "Barred",
  .glo "LastLine",
  .glo "NoEdit",
  .exc "BadName",
  .ini "BadName",
  .noat "BadName" "at",
  .noat "BadName" "limit",
  .noat "BadName" "name",
  .noat "BadName" "path",
  .noat "BadName" "what",
  .exm "BadName" "GrantError",
  .kit "BadName" "GrantError" true,
  .kit "BadName" "BadName" true,
  .kit "BadName" "BadKind" false,
  .kit "BadName" "BadTree" false,
  .kit "BadName" "NoSubtree" false,
  .kit "BadName" "Twice" false,
  .kit "BadName" "TooMany" false,
  .kit "BadName" "BadText" false,
  .kit "BadName" "BadLot" false,
  .kit "BadName" "NoSuchLine" false,
  .kit "BadName" "BadLog" false,
  .kit "BadName" "BadNumber" false,
  .kit "BadName" "Mismatch" false,
  .kit "BadName" "BadMove" false,
  .kit "BadName" "BadTable" false,
  .kit "BadName" "NoTree" false,
  .kit "BadName" "BadMatrix" false,
  .kit "BadName" "NoGrant" false,
  .kit "BadName" "BadMachine" false,
  .kit "BadName" "BadWish" false,
  .kit "BadName" "NoCover" false,
  .kit "BadName" "Barred" false,
  .kit "BadName" "LastLine" false,
  .kit "BadName" "NoEdit" false,
  .kitT "BadName" "ValueError" true,
  .exc "Twice",
  .ini "Twice",
  .noat "Twice" "at",
  .noat "Twice" "limit",
  .noat "Twice" "name",
  .noat "Twice" "path",
  .noat "Twice" "what",
  .exm "Twice" "GrantError",
  .kit "Twice" "GrantError" true,
  .kit "Twice" "BadName" false,
  .kit "Twice" "BadKind" false,
  .kit "Twice" "BadTree" false,
  .kit "Twice" "NoSubtree" false,
  .kit "Twice" "Twice" true,
  .kit "Twice" "TooMany" false,
  .kit "Twice" "BadText" false,
  .kit "Twice" "BadLot" false,
  .kit "Twice" "NoSuchLine" false,
  .kit "Twice" "BadLog" false,
  .kit "Twice" "BadNumber" false,
  .kit "Twice" "Mismatch" false,
  .kit "Twice" "BadMove" false,
  .kit "Twice" "BadTable" false,
  .kit "Twice" "NoTree" false,
  .kit "Twice" "BadMatrix" false,
  .kit "Twice" "NoGrant" false,
  .kit "Twice" "BadMachine" false,
  .kit "Twice" "BadWish" false,
  .kit "Twice" "NoCover" false,
  .kit "Twice" "Barred" false,
  .kit "Twice" "LastLine" false,
  .kit "Twice" "NoEdit" false,
  .kitT "Twice" "ValueError" true,
  .exc "TooMany",
  .ini "TooMany",
  .noat "TooMany" "at",
  .noat "TooMany" "limit",
  .noat "TooMany" "name",
  .noat "TooMany" "path",
  .noat "TooMany" "what",
  .exm "TooMany" "GrantError",
  .kit "TooMany" "GrantError" true,
  .kit "TooMany" "BadName" false,
  .kit "TooMany" "BadKind" false,
  .kit "TooMany" "BadTree" false,
  .kit "TooMany" "NoSubtree" false,
  .kit "TooMany" "Twice" false,
  .kit "TooMany" "TooMany" true,
  .kit "TooMany" "BadText" false,
  .kit "TooMany" "BadLot" false,
  .kit "TooMany" "NoSuchLine" false,
  .kit "TooMany" "BadLog" false,
  .kit "TooMany" "BadNumber" false,
  .kit "TooMany" "Mismatch" false,
  .kit "TooMany" "BadMove" false,
  .kit "TooMany" "BadTable" false,
  .kit "TooMany" "NoTree" false,
  .kit "TooMany" "BadMatrix" false,
  .kit "TooMany" "NoGrant" false,
  .kit "TooMany" "BadMachine" false,
  .kit "TooMany" "BadWish" false,
  .kit "TooMany" "NoCover" false,
  .kit "TooMany" "Barred" false,
  .kit "TooMany" "LastLine" false,
  .kit "TooMany" "NoEdit" false,
  .kitT "TooMany" "ValueError" true,
  .exc "BadTree",
  .ini "BadTree",
  .noat "BadTree" "at",
  .noat "BadTree" "limit",
  .noat "BadTree" "name",
  .noat "BadTree" "path",
  .noat "BadTree" "what",
  .exm "BadTree" "GrantError",
  .kit "BadTree" "GrantError" true,
  .kit "BadTree" "BadName" false,
  .kit "BadTree" "BadKind" false,
  .kit "BadTree" "BadTree" true,
  .kit "BadTree" "NoSubtree" false,
  .kit "BadTree" "Twice" false,
  .kit "BadTree" "TooMany" false,
  .kit "BadTree" "BadText" false,
  .kit "BadTree" "BadLot" false,
  .kit "BadTree" "NoSuchLine" false,
  .kit "BadTree" "BadLog" false,
  .kit "BadTree" "BadNumber" false,
  .kit "BadTree" "Mismatch" false,
  .kit "BadTree" "BadMove" false,
  .kit "BadTree" "BadTable" false,
  .kit "BadTree" "NoTree" false,
  .kit "BadTree" "BadMatrix" false,
  .kit "BadTree" "NoGrant" false,
  .kit "BadTree" "BadMachine" false,
  .kit "BadTree" "BadWish" false,
  .kit "BadTree" "NoCover" false,
  .kit "BadTree" "Barred" false,
  .kit "BadTree" "LastLine" false,
  .kit "BadTree" "NoEdit" false,
  .kitT "BadTree" "ValueError" true,
  .exc "BadLot",
  .ini "BadLot",
  .noat "BadLot" "at",
  .noat "BadLot" "limit",
  .noat "BadLot" "name",
  .noat "BadLot" "path",
  .noat "BadLot" "what",
  .exm "BadLot" "GrantError",
  .kit "BadLot" "GrantError" true,
  .kit "BadLot" "BadName" false,
  .kit "BadLot" "BadKind" false,
  .kit "BadLot" "BadTree" false,
  .kit "BadLot" "NoSubtree" false,
  .kit "BadLot" "Twice" false,
  .kit "BadLot" "TooMany" false,
  .kit "BadLot" "BadText" false,
  .kit "BadLot" "BadLot" true,
  .kit "BadLot" "NoSuchLine" false,
  .kit "BadLot" "BadLog" false,
  .kit "BadLot" "BadNumber" false,
  .kit "BadLot" "Mismatch" false,
  .kit "BadLot" "BadMove" false,
  .kit "BadLot" "BadTable" false,
  .kit "BadLot" "NoTree" false,
  .kit "BadLot" "BadMatrix" false,
  .kit "BadLot" "NoGrant" false,
  .kit "BadLot" "BadMachine" false,
  .kit "BadLot" "BadWish" false,
  .kit "BadLot" "NoCover" false,
  .kit "BadLot" "Barred" false,
  .kit "BadLot" "LastLine" false,
  .kit "BadLot" "NoEdit" false,
  .kitT "BadLot" "ValueError" true,
  .exc "NoSuchLine",
  .ini "NoSuchLine",
  .noat "NoSuchLine" "at",
  .noat "NoSuchLine" "limit",
  .noat "NoSuchLine" "name",
  .noat "NoSuchLine" "path",
  .noat "NoSuchLine" "what",
  .exm "NoSuchLine" "GrantError",
  .kit "NoSuchLine" "GrantError" true,
  .kit "NoSuchLine" "BadName" false,
  .kit "NoSuchLine" "BadKind" false,
  .kit "NoSuchLine" "BadTree" false,
  .kit "NoSuchLine" "NoSubtree" false,
  .kit "NoSuchLine" "Twice" false,
  .kit "NoSuchLine" "TooMany" false,
  .kit "NoSuchLine" "BadText" false,
  .kit "NoSuchLine" "BadLot" false,
  .kit "NoSuchLine" "NoSuchLine" true,
  .kit "NoSuchLine" "BadLog" false,
  .kit "NoSuchLine" "BadNumber" false,
  .kit "NoSuchLine" "Mismatch" false,
  .kit "NoSuchLine" "BadMove" false,
  .kit "NoSuchLine" "BadTable" false,
  .kit "NoSuchLine" "NoTree" false,
  .kit "NoSuchLine" "BadMatrix" false,
  .kit "NoSuchLine" "NoGrant" false,
  .kit "NoSuchLine" "BadMachine" false,
  .kit "NoSuchLine" "BadWish" false,
  .kit "NoSuchLine" "NoCover" false,
  .kit "NoSuchLine" "Barred" false,
  .kit "NoSuchLine" "LastLine" false,
  .kit "NoSuchLine" "NoEdit" false,
  .kitT "NoSuchLine" "ValueError" true,
  .glo "is_name",
  .glo "looks_like_place",
  .glo "leaves_under",
  .glo "_law_mix",
  .glo "_law_lotof",
  .glo "_law_nodes",
  .glo "_law_at",
  .glo "_law_put",
  .glo "_law_equal",
  .glo "_law_error",
  .glo "_law_store",
  .glo "_law_take",
  .glo "_law_order",
  .glo "_law_path",
  .glo "refuse_leaf",
  .glo "refuse_place",
  .glo "check_lot",
  .glo "_law_pick",
  .glo "_law_shuffle",
  .glo "_law_without",
  .glo "check_tree",
  .glo "_law_some",
  .glo "_law_tree",
  .glo "_law_chain",
  .glo "_law_names",
  .glo "_law_leftover",
  .glo "lines_of",
  .glo "_law_lot",
  .glo "_law_edge",
  .glo "_law_wrongnest",
  .glo "_law_grove",
  .glo "_law_wronglot",
  .glo "_law_world",
  .glo "struck",
  .glo "strike",
  .glo "_law_tried",
  .glo "_law_struckright",
  .glo "law"]
def fn : List He.DefD := [⟨("is_name", none), "is_name", "is_name", defArgs st_is_name, defBody st_is_name, defScope st_is_name, [], []⟩,
  ⟨("looks_like_place", none), "looks_like_place", "looks_like_place", defArgs st_looks_like_place, defBody st_looks_like_place, defScope st_looks_like_place, [], []⟩,
  ⟨("leaves_under", none), "leaves_under", "leaves_under", defArgs st_leaves_under, defBody st_leaves_under, defScope st_leaves_under, [], []⟩,
  ⟨("_law_mix", none), "_law_mix", "_law_mix", defArgs st__law_mix, defBody st__law_mix, defScope st__law_mix, [], []⟩,
  ⟨("_law_lotof", none), "_law_lotof", "_law_lotof", defArgs st__law_lotof, defBody st__law_lotof, defScope st__law_lotof, [], []⟩,
  ⟨("_law_nodes", none), "_law_nodes", "_law_nodes", defArgs st__law_nodes, defBody st__law_nodes, defScope st__law_nodes, [], []⟩,
  ⟨("_law_at", none), "_law_at", "_law_at", defArgs st__law_at, defBody st__law_at, defScope st__law_at, [], []⟩,
  ⟨("_law_put", none), "_law_put", "_law_put", defArgs st__law_put, defBody st__law_put, defScope st__law_put, [], []⟩,
  ⟨("_law_equal", none), "_law_equal", "_law_equal", defArgs st__law_equal, defBody st__law_equal, defScope st__law_equal, [], []⟩,
  ⟨("_law_error", none), "_law_error", "_law_error", defArgs st__law_error, defBody st__law_error, defScope st__law_error, [], []⟩,
  ⟨("_law_store", none), "_law_store", "_law_store", defArgs st__law_store, defBody st__law_store, defScope st__law_store, [], []⟩,
  ⟨("_law_take", none), "_law_take", "_law_take", defArgs st__law_take, defBody st__law_take, defScope st__law_take, [], []⟩,
  ⟨("_law_order", none), "_law_order", "_law_order", defArgs st__law_order, defBody st__law_order, defScope st__law_order, [], []⟩,
  ⟨("_law_path", none), "_law_path", "_law_path", defArgs st__law_path, defBody st__law_path, defScope st__law_path, [], []⟩,
  ⟨("refuse_leaf", none), "refuse_leaf", "refuse_leaf", defArgs st_refuse_leaf, defBody st_refuse_leaf, defScope st_refuse_leaf, [], []⟩,
  ⟨("refuse_place", none), "refuse_place", "refuse_place", defArgs st_refuse_place, defBody st_refuse_place, defScope st_refuse_place, [], []⟩,
  ⟨("check_lot", none), "check_lot", "check_lot", defArgs st_check_lot, defBody st_check_lot, defScope st_check_lot, [], []⟩,
  ⟨("_law_pick", none), "_law_pick", "_law_pick", defArgs st__law_pick, defBody st__law_pick, defScope st__law_pick, [], []⟩,
  ⟨("_law_shuffle", none), "_law_shuffle", "_law_shuffle", defArgs st__law_shuffle, defBody st__law_shuffle, defScope st__law_shuffle, [], []⟩,
  ⟨("_law_without", none), "_law_without", "_law_without", defArgs st__law_without, defBody st__law_without, defScope st__law_without, [], []⟩,
  ⟨("check_tree", none), "check_tree", "check_tree", defArgs st_check_tree, defBody st_check_tree, defScope st_check_tree, [], []⟩,
  ⟨("_law_some", none), "_law_some", "_law_some", defArgs st__law_some, defBody st__law_some, defScope st__law_some, [], []⟩,
  ⟨("_law_tree", none), "_law_tree", "_law_tree", defArgs st__law_tree, defBody st__law_tree, defScope st__law_tree, [], []⟩,
  ⟨("_law_chain", none), "_law_chain", "_law_chain", defArgs st__law_chain, defBody st__law_chain, defScope st__law_chain, [], []⟩,
  ⟨("_law_names", none), "_law_names", "_law_names", defArgs st__law_names, defBody st__law_names, defScope st__law_names, [], []⟩,
  ⟨("_law_leftover", none), "_law_leftover", "_law_leftover", defArgs st__law_leftover, defBody st__law_leftover, defScope st__law_leftover, [], []⟩,
  ⟨("lines_of", none), "lines_of", "lines_of", defArgs st_lines_of, defBody st_lines_of, defScope st_lines_of, [], []⟩,
  ⟨("_law_lot", none), "_law_lot", "_law_lot", defArgs st__law_lot, defBody st__law_lot, defScope st__law_lot, [], []⟩,
  ⟨("_law_edge", none), "_law_edge", "_law_edge", defArgs st__law_edge, defBody st__law_edge, defScope st__law_edge, [], []⟩,
  ⟨("_law_wrongnest", none), "_law_wrongnest", "_law_wrongnest", defArgs st__law_wrongnest, defBody st__law_wrongnest, defScope st__law_wrongnest, [], []⟩,
  ⟨("_law_grove", none), "_law_grove", "_law_grove", defArgs st__law_grove, defBody st__law_grove, defScope st__law_grove, [], []⟩,
  ⟨("_law_wronglot", none), "_law_wronglot", "_law_wronglot", defArgs st__law_wronglot, defBody st__law_wronglot, defScope st__law_wronglot, [], []⟩,
  ⟨("_law_world", none), "_law_world", "_law_world", defArgs st__law_world, defBody st__law_world, defScope st__law_world, [], []⟩,
  ⟨("struck", none), "struck", "struck", defArgs st_struck, defBody st_struck, defScope st_struck, [], []⟩,
  ⟨("strike", none), "strike", "strike", defArgs st_strike, defBody st_strike, defScope st_strike, [], []⟩,
  ⟨("_law_tried", none), "_law_tried", "_law_tried", defArgs st__law_tried, defBody st__law_tried, defScope st__law_tried, [], []⟩,
  ⟨("_law_struckright", none), "_law_struckright", "_law_struckright", defArgs st__law_struckright, defBody st__law_struckright, defScope st__law_struckright, [], []⟩,
  ⟨("law", none), "law", "law", defArgs st_law, defBody st_law, defScope st_law, [], []⟩,
  ⟨("BadName", some "__init__"), "__init__", "BadName.__init__", defArgs in_BadName, defBody in_BadName, defScope in_BadName, [], []⟩,
  ⟨("Twice", some "__init__"), "__init__", "Twice.__init__", defArgs in_Twice, defBody in_Twice, defScope in_Twice, [], []⟩,
  ⟨("TooMany", some "__init__"), "__init__", "TooMany.__init__", defArgs in_TooMany, defBody in_TooMany, defScope in_TooMany, [], []⟩,
  ⟨("BadTree", some "__init__"), "__init__", "BadTree.__init__", defArgs in_BadTree, defBody in_BadTree, defScope in_BadTree, [], []⟩,
  ⟨("BadLot", some "__init__"), "__init__", "BadLot.__init__", defArgs in_BadLot, defBody in_BadLot, defScope in_BadLot, [], []⟩,
  ⟨("NoSuchLine", some "__init__"), "__init__", "NoSuchLine.__init__", defArgs in_NoSuchLine, defBody in_NoSuchLine, defScope in_NoSuchLine, [], []⟩]
abbrev R : PySem.W.OpenRow := PySem.W.OpenLaw.row PySem.Challenge.rw_grantedbyturns_k16_strike_leaves_out_lin
abbrev hk : PySem.W.Hook := hookX 4 fx fn
def ob (s : PySem.W.SharedT) : AlX := obsXG 4 fx fn (HandSHeadRun.getT s)
theorem ob_eq (s : PySem.W.SharedT) : ob s = hk.obs s.abs := obsXG_eq (HandSHeadRun.getT_eq s)
def loose0 : List PySem.Str := ["GrantError", "BadName", "BadKind", "BadTree", "NoSubtree", "Twice", "TooMany", "BadText", "BadLot", "NoSuchLine", "BadLog", "BadNumber", "Mismatch", "BadMove", "BadTable", "NoTree", "BadMatrix", "NoGrant", "BadMachine", "BadWish", "NoCover", "Barred", "LastLine", "NoEdit", "LETTERS", "NAME_SIGNS", "KEPT_WORDS", "is_name", "KINDS", "MOST_LINES"]
def loose1 : List PySem.Str := ["MOST_DEPTH", "MOST_PLACES", "refuse_leaf", "looks_like_place", "refuse_place", "check_tree", "leaves_under", "lines_of", "check_lot", "struck", "strike", "_law_mix", "_law_store", "_law_take", "_law_pick", "_law_shuffle", "_law_some", "_law_lotof", "_law_lot", "_law_nodes", "_law_order", "_law_at", "_law_put", "_law_path", "_law_tree", "_law_chain", "_law_equal", "_law_edge", "_law_grove", "_law_names"]
def loose2 : List PySem.Str := ["_law_wrongnest", "_law_wronglot", "_law_without", "_law_leftover", "_law_error", "_law_tried", "_law_struckright", "_law_world"]
def loose : List PySem.Str := loose0 ++ loose1 ++ loose2
theorem run (w : World) : HandSHeadRun.RunEq R (PySem.W.view R.prog [73]) hk ob 12000 loose w := by
  intro os
  kernel_rfl
section
variable {P : Program} {w : World} {K : Fg} {h : Heap} {mg : Str → Option Value} {base : Heap}
theorem sci_BadName : FnScope ["self", "name"] ["self", "name"] (defScope in_BadName) := ⟨rfl, rfl, rfl, by decide +kernel, rfl, by decide +kernel, by decide +kernel⟩
theorem exc_BadName (X : K.In h) (G : h.Ns mainGlobals mg) (c : SaysX fx fn K) : ExcT0 P w K mg base "BadName" ["name"] := by
  obtain ⟨fd, F⟩ := c.def_ 38 rfl
  have F : FunD K "__init__" "BadName.__init__" (defArgs in_BadName) (defBody in_BadName) (defScope in_BadName) [] [] (He.fAd K ("BadName", some "__init__")) fd := F
  have e := exc_mg X G (x := "BadName") (c.fact 40 rfl)
  have i := ini_ok (x := "BadName") (c.fact 41 rfl)
  exact ⟨by decide, e.1, e.2.oc, _, fd, ["self", "name"], i.1, i.2, ok_init1 F sci_BadName e.2.oc (noat_ok (c.fact 44 rfl)) rfl rfl (by decide) (by decide), F.bindsN (ps := ["self", "name"]) fun _ _ _ _ _ _ us hl => match us, hl with | [_, _], _ => rfl⟩
theorem sci_Twice : FnScope ["self", "name"] ["self", "name"] (defScope in_Twice) := ⟨rfl, rfl, rfl, by decide +kernel, rfl, by decide +kernel, by decide +kernel⟩
theorem exc_Twice (X : K.In h) (G : h.Ns mainGlobals mg) (c : SaysX fx fn K) : ExcT0 P w K mg base "Twice" ["name"] := by
  obtain ⟨fd, F⟩ := c.def_ 39 rfl
  have F : FunD K "__init__" "Twice.__init__" (defArgs in_Twice) (defBody in_Twice) (defScope in_Twice) [] [] (He.fAd K ("Twice", some "__init__")) fd := F
  have e := exc_mg X G (x := "Twice") (c.fact 73 rfl)
  have i := ini_ok (x := "Twice") (c.fact 74 rfl)
  exact ⟨by decide, e.1, e.2.oc, _, fd, ["self", "name"], i.1, i.2, ok_init1 F sci_Twice e.2.oc (noat_ok (c.fact 77 rfl)) rfl rfl (by decide) (by decide), F.bindsN (ps := ["self", "name"]) fun _ _ _ _ _ _ us hl => match us, hl with | [_, _], _ => rfl⟩
theorem sci_TooMany : FnScope ["self", "what", "limit"] ["self", "what", "limit"] (defScope in_TooMany) := ⟨rfl, rfl, rfl, by decide +kernel, rfl, by decide +kernel, by decide +kernel⟩
theorem exc_TooMany (X : K.In h) (G : h.Ns mainGlobals mg) (c : SaysX fx fn K) : ExcT0 P w K mg base "TooMany" ["what", "limit"] := by
  obtain ⟨fd, F⟩ := c.def_ 40 rfl
  have F : FunD K "__init__" "TooMany.__init__" (defArgs in_TooMany) (defBody in_TooMany) (defScope in_TooMany) [] [] (He.fAd K ("TooMany", some "__init__")) fd := F
  have e := exc_mg X G (x := "TooMany") (c.fact 106 rfl)
  have i := ini_ok (x := "TooMany") (c.fact 107 rfl)
  exact ⟨by decide, e.1, e.2.oc, _, fd, ["self", "what", "limit"], i.1, i.2, ok_init2 F sci_TooMany e.2.oc (noat_ok (c.fact 112 rfl)) (noat_ok (c.fact 109 rfl)) rfl rfl rfl (by decide) (by decide) (by decide) (by decide), F.bindsN (ps := ["self", "what", "limit"]) fun _ _ _ _ _ _ us hl => match us, hl with | [_, _, _], _ => rfl⟩
theorem sci_BadTree : FnScope ["self", "path"] ["self", "path"] (defScope in_BadTree) := ⟨rfl, rfl, rfl, by decide +kernel, rfl, by decide +kernel, by decide +kernel⟩
theorem exc_BadTree (X : K.In h) (G : h.Ns mainGlobals mg) (c : SaysX fx fn K) : ExcT0 P w K mg base "BadTree" ["path"] := by
  obtain ⟨fd, F⟩ := c.def_ 41 rfl
  have F : FunD K "__init__" "BadTree.__init__" (defArgs in_BadTree) (defBody in_BadTree) (defScope in_BadTree) [] [] (He.fAd K ("BadTree", some "__init__")) fd := F
  have e := exc_mg X G (x := "BadTree") (c.fact 139 rfl)
  have i := ini_ok (x := "BadTree") (c.fact 140 rfl)
  exact ⟨by decide, e.1, e.2.oc, _, fd, ["self", "path"], i.1, i.2, ok_init1 F sci_BadTree e.2.oc (noat_ok (c.fact 144 rfl)) rfl rfl (by decide) (by decide), F.bindsN (ps := ["self", "path"]) fun _ _ _ _ _ _ us hl => match us, hl with | [_, _], _ => rfl⟩
theorem sci_BadLot : FnScope ["self", "at"] ["self", "at"] (defScope in_BadLot) := ⟨rfl, rfl, rfl, by decide +kernel, rfl, by decide +kernel, by decide +kernel⟩
theorem exc_BadLot (X : K.In h) (G : h.Ns mainGlobals mg) (c : SaysX fx fn K) : ExcT0 P w K mg base "BadLot" ["at"] := by
  obtain ⟨fd, F⟩ := c.def_ 42 rfl
  have F : FunD K "__init__" "BadLot.__init__" (defArgs in_BadLot) (defBody in_BadLot) (defScope in_BadLot) [] [] (He.fAd K ("BadLot", some "__init__")) fd := F
  have e := exc_mg X G (x := "BadLot") (c.fact 172 rfl)
  have i := ini_ok (x := "BadLot") (c.fact 173 rfl)
  exact ⟨by decide, e.1, e.2.oc, _, fd, ["self", "at"], i.1, i.2, ok_init1 F sci_BadLot e.2.oc (noat_ok (c.fact 174 rfl)) rfl rfl (by decide) (by decide), F.bindsN (ps := ["self", "at"]) fun _ _ _ _ _ _ us hl => match us, hl with | [_, _], _ => rfl⟩
theorem sci_NoSuchLine : FnScope ["self", "name"] ["self", "name"] (defScope in_NoSuchLine) := ⟨rfl, rfl, rfl, by decide +kernel, rfl, by decide +kernel, by decide +kernel⟩
theorem exc_NoSuchLine (X : K.In h) (G : h.Ns mainGlobals mg) (c : SaysX fx fn K) : ExcT0 P w K mg base "NoSuchLine" ["name"] := by
  obtain ⟨fd, F⟩ := c.def_ 43 rfl
  have F : FunD K "__init__" "NoSuchLine.__init__" (defArgs in_NoSuchLine) (defBody in_NoSuchLine) (defScope in_NoSuchLine) [] [] (He.fAd K ("NoSuchLine", some "__init__")) fd := F
  have e := exc_mg X G (x := "NoSuchLine") (c.fact 205 rfl)
  have i := ini_ok (x := "NoSuchLine") (c.fact 206 rfl)
  exact ⟨by decide, e.1, e.2.oc, _, fd, ["self", "name"], i.1, i.2, ok_init1 F sci_NoSuchLine e.2.oc (noat_ok (c.fact 209 rfl)) rfl rfl (by decide) (by decide), F.bindsN (ps := ["self", "name"]) fun _ _ _ _ _ _ us hl => match us, hl with | [_, _], _ => rfl⟩
theorem mkTx (X : K.In h) (G : h.Ns mainGlobals mg) (c : SaysX fx fn K) : Tx K mg P w base where
  f_ValueError := free_mg X G (c.fact 0 rfl)
  f_abs := free_mg X G (c.fact 1 rfl)
  f_bool := free_mg X G (c.fact 2 rfl)
  f_dict := free_mg X G (c.fact 3 rfl)
  f_enumerate := free_mg X G (c.fact 4 rfl)
  f_int := free_mg X G (c.fact 5 rfl)
  f_isinstance := free_mg X G (c.fact 6 rfl)
  f_len := free_mg X G (c.fact 7 rfl)
  f_list := free_mg X G (c.fact 8 rfl)
  f_max := free_mg X G (c.fact 9 rfl)
  f_min := free_mg X G (c.fact 10 rfl)
  f_range := free_mg X G (c.fact 11 rfl)
  f_sorted := free_mg X G (c.fact 12 rfl)
  f_str := free_mg X G (c.fact 13 rfl)
  f_tuple := free_mg X G (c.fact 14 rfl)
  c_KEPT_WORDS := ⟨(tup_mg X G (c.fact 15 rfl)).1, (tup_mg X G (c.fact 15 rfl)).2, fun _ => .cons (.str _) (.cons (.str _) (.cons (.str _) (.cons (.str _) (.cons (.str _) .nil))))⟩
  c_LETTERS := str_mg X G (c.fact 16 rfl)
  c_NAME_SIGNS := str_mg X G (c.fact 17 rfl)
  c_KINDS := ⟨(tup_mg X G (c.fact 18 rfl)).1, (tup_mg X G (c.fact 18 rfl)).2, fun _ => .cons (.str _) (.cons (.str _) (.cons (.str _) .nil))⟩
  c_MOST_LINES := int_mg X G (c.fact 19 rfl)
  c_MOST_DEPTH := int_mg X G (c.fact 20 rfl)
  c_MOST_PLACES := int_mg X G (c.fact 21 rfl)
  n_GrantError := glo_mg X G (c.fact 22 rfl)
  n_BadName := (exc_mg X G (c.fact 40 rfl)).1
  n_BadKind := glo_mg X G (c.fact 23 rfl)
  n_BadTree := (exc_mg X G (c.fact 139 rfl)).1
  n_NoSubtree := glo_mg X G (c.fact 24 rfl)
  n_Twice := (exc_mg X G (c.fact 73 rfl)).1
  n_TooMany := (exc_mg X G (c.fact 106 rfl)).1
  n_BadText := glo_mg X G (c.fact 25 rfl)
  n_BadLot := (exc_mg X G (c.fact 172 rfl)).1
  n_NoSuchLine := (exc_mg X G (c.fact 205 rfl)).1
  n_BadLog := glo_mg X G (c.fact 26 rfl)
  n_BadNumber := glo_mg X G (c.fact 27 rfl)
  n_Mismatch := glo_mg X G (c.fact 28 rfl)
  n_BadMove := glo_mg X G (c.fact 29 rfl)
  n_BadTable := glo_mg X G (c.fact 30 rfl)
  n_NoTree := glo_mg X G (c.fact 31 rfl)
  n_BadMatrix := glo_mg X G (c.fact 32 rfl)
  n_NoGrant := glo_mg X G (c.fact 33 rfl)
  n_BadMachine := glo_mg X G (c.fact 34 rfl)
  n_BadWish := glo_mg X G (c.fact 35 rfl)
  n_NoCover := glo_mg X G (c.fact 36 rfl)
  n_Barred := glo_mg X G (c.fact 37 rfl)
  n_LastLine := glo_mg X G (c.fact 38 rfl)
  n_NoEdit := glo_mg X G (c.fact 39 rfl)
  x_BadName := exc_BadName X G c
  x_Twice := exc_Twice X G c
  x_TooMany := exc_TooMany X G c
  x_BadTree := exc_BadTree X G c
  x_BadLot := exc_BadLot X G c
  x_NoSuchLine := exc_NoSuchLine X G c
  exm := by
    intro m hm
    simp only [excs, List.mem_cons, List.not_mem_nil, or_false] at hm
    rcases hm with rfl | rfl | rfl | rfl | rfl | rfl
    · skip
      exact exm_ok (c.fact 47 rfl)
    · skip
      exact exm_ok (c.fact 80 rfl)
    · skip
      exact exm_ok (c.fact 113 rfl)
    · skip
      exact exm_ok (c.fact 146 rfl)
    · skip
      exact exm_ok (c.fact 179 rfl)
    · skip
      exact exm_ok (c.fact 212 rfl)
  ec := by
    intro m hm
    simp only [excs, List.mem_cons, List.not_mem_nil, or_false] at hm
    rcases hm with rfl | rfl | rfl | rfl | rfl | rfl
    · skip
      exact (exc_mg X G (x := "BadName") (c.fact 40 rfl)).2.ec
    · skip
      exact (exc_mg X G (x := "Twice") (c.fact 73 rfl)).2.ec
    · skip
      exact (exc_mg X G (x := "TooMany") (c.fact 106 rfl)).2.ec
    · skip
      exact (exc_mg X G (x := "BadTree") (c.fact 139 rfl)).2.ec
    · skip
      exact (exc_mg X G (x := "BadLot") (c.fact 172 rfl)).2.ec
    · skip
      exact (exc_mg X G (x := "NoSuchLine") (c.fact 205 rfl)).2.ec
  na_at := by
    intro m hm
    simp only [excs, List.mem_cons, List.not_mem_nil, or_false] at hm
    rcases hm with rfl | rfl | rfl | rfl | rfl | rfl
    · skip
      exact noat_ok (c.fact 42 rfl)
    · skip
      exact noat_ok (c.fact 75 rfl)
    · skip
      exact noat_ok (c.fact 108 rfl)
    · skip
      exact noat_ok (c.fact 141 rfl)
    · skip
      exact noat_ok (c.fact 174 rfl)
    · skip
      exact noat_ok (c.fact 207 rfl)
  na_limit := by
    intro m hm
    simp only [excs, List.mem_cons, List.not_mem_nil, or_false] at hm
    rcases hm with rfl | rfl | rfl | rfl | rfl | rfl
    · skip
      exact noat_ok (c.fact 43 rfl)
    · skip
      exact noat_ok (c.fact 76 rfl)
    · skip
      exact noat_ok (c.fact 109 rfl)
    · skip
      exact noat_ok (c.fact 142 rfl)
    · skip
      exact noat_ok (c.fact 175 rfl)
    · skip
      exact noat_ok (c.fact 208 rfl)
  na_name := by
    intro m hm
    simp only [excs, List.mem_cons, List.not_mem_nil, or_false] at hm
    rcases hm with rfl | rfl | rfl | rfl | rfl | rfl
    · skip
      exact noat_ok (c.fact 44 rfl)
    · skip
      exact noat_ok (c.fact 77 rfl)
    · skip
      exact noat_ok (c.fact 110 rfl)
    · skip
      exact noat_ok (c.fact 143 rfl)
    · skip
      exact noat_ok (c.fact 176 rfl)
    · skip
      exact noat_ok (c.fact 209 rfl)
  na_path := by
    intro m hm
    simp only [excs, List.mem_cons, List.not_mem_nil, or_false] at hm
    rcases hm with rfl | rfl | rfl | rfl | rfl | rfl
    · skip
      exact noat_ok (c.fact 45 rfl)
    · skip
      exact noat_ok (c.fact 78 rfl)
    · skip
      exact noat_ok (c.fact 111 rfl)
    · skip
      exact noat_ok (c.fact 144 rfl)
    · skip
      exact noat_ok (c.fact 177 rfl)
    · skip
      exact noat_ok (c.fact 210 rfl)
  na_what := by
    intro m hm
    simp only [excs, List.mem_cons, List.not_mem_nil, or_false] at hm
    rcases hm with rfl | rfl | rfl | rfl | rfl | rfl
    · skip
      exact noat_ok (c.fact 46 rfl)
    · skip
      exact noat_ok (c.fact 79 rfl)
    · skip
      exact noat_ok (c.fact 112 rfl)
    · skip
      exact noat_ok (c.fact 145 rfl)
    · skip
      exact noat_ok (c.fact 178 rfl)
    · skip
      exact noat_ok (c.fact 211 rfl)
  kit := by
    intro m hm n hn
    simp only [excs, List.mem_cons, List.not_mem_nil, or_false] at hm
    rcases hm with rfl | rfl | rfl | rfl | rfl | rfl
    · skip
      simp only [kits, List.mem_cons, List.not_mem_nil, or_false] at hn
      rcases hn with rfl | rfl | rfl | rfl | rfl | rfl | rfl | rfl | rfl | rfl | rfl | rfl | rfl | rfl | rfl | rfl | rfl | rfl | rfl | rfl | rfl | rfl | rfl | rfl
      · skip
        exact kit_ok (c.fact 48 rfl)
      · skip
        exact kit_ok (c.fact 49 rfl)
      · skip
        exact kit_ok (c.fact 50 rfl)
      · skip
        exact kit_ok (c.fact 51 rfl)
      · skip
        exact kit_ok (c.fact 52 rfl)
      · skip
        exact kit_ok (c.fact 53 rfl)
      · skip
        exact kit_ok (c.fact 54 rfl)
      · skip
        exact kit_ok (c.fact 55 rfl)
      · skip
        exact kit_ok (c.fact 56 rfl)
      · skip
        exact kit_ok (c.fact 57 rfl)
      · skip
        exact kit_ok (c.fact 58 rfl)
      · skip
        exact kit_ok (c.fact 59 rfl)
      · skip
        exact kit_ok (c.fact 60 rfl)
      · skip
        exact kit_ok (c.fact 61 rfl)
      · skip
        exact kit_ok (c.fact 62 rfl)
      · skip
        exact kit_ok (c.fact 63 rfl)
      · skip
        exact kit_ok (c.fact 64 rfl)
      · skip
        exact kit_ok (c.fact 65 rfl)
      · skip
        exact kit_ok (c.fact 66 rfl)
      · skip
        exact kit_ok (c.fact 67 rfl)
      · skip
        exact kit_ok (c.fact 68 rfl)
      · skip
        exact kit_ok (c.fact 69 rfl)
      · skip
        exact kit_ok (c.fact 70 rfl)
      · skip
        exact kit_ok (c.fact 71 rfl)
    · skip
      simp only [kits, List.mem_cons, List.not_mem_nil, or_false] at hn
      rcases hn with rfl | rfl | rfl | rfl | rfl | rfl | rfl | rfl | rfl | rfl | rfl | rfl | rfl | rfl | rfl | rfl | rfl | rfl | rfl | rfl | rfl | rfl | rfl | rfl
      · skip
        exact kit_ok (c.fact 81 rfl)
      · skip
        exact kit_ok (c.fact 82 rfl)
      · skip
        exact kit_ok (c.fact 83 rfl)
      · skip
        exact kit_ok (c.fact 84 rfl)
      · skip
        exact kit_ok (c.fact 85 rfl)
      · skip
        exact kit_ok (c.fact 86 rfl)
      · skip
        exact kit_ok (c.fact 87 rfl)
      · skip
        exact kit_ok (c.fact 88 rfl)
      · skip
        exact kit_ok (c.fact 89 rfl)
      · skip
        exact kit_ok (c.fact 90 rfl)
      · skip
        exact kit_ok (c.fact 91 rfl)
      · skip
        exact kit_ok (c.fact 92 rfl)
      · skip
        exact kit_ok (c.fact 93 rfl)
      · skip
        exact kit_ok (c.fact 94 rfl)
      · skip
        exact kit_ok (c.fact 95 rfl)
      · skip
        exact kit_ok (c.fact 96 rfl)
      · skip
        exact kit_ok (c.fact 97 rfl)
      · skip
        exact kit_ok (c.fact 98 rfl)
      · skip
        exact kit_ok (c.fact 99 rfl)
      · skip
        exact kit_ok (c.fact 100 rfl)
      · skip
        exact kit_ok (c.fact 101 rfl)
      · skip
        exact kit_ok (c.fact 102 rfl)
      · skip
        exact kit_ok (c.fact 103 rfl)
      · skip
        exact kit_ok (c.fact 104 rfl)
    · skip
      simp only [kits, List.mem_cons, List.not_mem_nil, or_false] at hn
      rcases hn with rfl | rfl | rfl | rfl | rfl | rfl | rfl | rfl | rfl | rfl | rfl | rfl | rfl | rfl | rfl | rfl | rfl | rfl | rfl | rfl | rfl | rfl | rfl | rfl
      · skip
        exact kit_ok (c.fact 114 rfl)
      · skip
        exact kit_ok (c.fact 115 rfl)
      · skip
        exact kit_ok (c.fact 116 rfl)
      · skip
        exact kit_ok (c.fact 117 rfl)
      · skip
        exact kit_ok (c.fact 118 rfl)
      · skip
        exact kit_ok (c.fact 119 rfl)
      · skip
        exact kit_ok (c.fact 120 rfl)
      · skip
        exact kit_ok (c.fact 121 rfl)
      · skip
        exact kit_ok (c.fact 122 rfl)
      · skip
        exact kit_ok (c.fact 123 rfl)
      · skip
        exact kit_ok (c.fact 124 rfl)
      · skip
        exact kit_ok (c.fact 125 rfl)
      · skip
        exact kit_ok (c.fact 126 rfl)
      · skip
        exact kit_ok (c.fact 127 rfl)
      · skip
        exact kit_ok (c.fact 128 rfl)
      · skip
        exact kit_ok (c.fact 129 rfl)
      · skip
        exact kit_ok (c.fact 130 rfl)
      · skip
        exact kit_ok (c.fact 131 rfl)
      · skip
        exact kit_ok (c.fact 132 rfl)
      · skip
        exact kit_ok (c.fact 133 rfl)
      · skip
        exact kit_ok (c.fact 134 rfl)
      · skip
        exact kit_ok (c.fact 135 rfl)
      · skip
        exact kit_ok (c.fact 136 rfl)
      · skip
        exact kit_ok (c.fact 137 rfl)
    · skip
      simp only [kits, List.mem_cons, List.not_mem_nil, or_false] at hn
      rcases hn with rfl | rfl | rfl | rfl | rfl | rfl | rfl | rfl | rfl | rfl | rfl | rfl | rfl | rfl | rfl | rfl | rfl | rfl | rfl | rfl | rfl | rfl | rfl | rfl
      · skip
        exact kit_ok (c.fact 147 rfl)
      · skip
        exact kit_ok (c.fact 148 rfl)
      · skip
        exact kit_ok (c.fact 149 rfl)
      · skip
        exact kit_ok (c.fact 150 rfl)
      · skip
        exact kit_ok (c.fact 151 rfl)
      · skip
        exact kit_ok (c.fact 152 rfl)
      · skip
        exact kit_ok (c.fact 153 rfl)
      · skip
        exact kit_ok (c.fact 154 rfl)
      · skip
        exact kit_ok (c.fact 155 rfl)
      · skip
        exact kit_ok (c.fact 156 rfl)
      · skip
        exact kit_ok (c.fact 157 rfl)
      · skip
        exact kit_ok (c.fact 158 rfl)
      · skip
        exact kit_ok (c.fact 159 rfl)
      · skip
        exact kit_ok (c.fact 160 rfl)
      · skip
        exact kit_ok (c.fact 161 rfl)
      · skip
        exact kit_ok (c.fact 162 rfl)
      · skip
        exact kit_ok (c.fact 163 rfl)
      · skip
        exact kit_ok (c.fact 164 rfl)
      · skip
        exact kit_ok (c.fact 165 rfl)
      · skip
        exact kit_ok (c.fact 166 rfl)
      · skip
        exact kit_ok (c.fact 167 rfl)
      · skip
        exact kit_ok (c.fact 168 rfl)
      · skip
        exact kit_ok (c.fact 169 rfl)
      · skip
        exact kit_ok (c.fact 170 rfl)
    · skip
      simp only [kits, List.mem_cons, List.not_mem_nil, or_false] at hn
      rcases hn with rfl | rfl | rfl | rfl | rfl | rfl | rfl | rfl | rfl | rfl | rfl | rfl | rfl | rfl | rfl | rfl | rfl | rfl | rfl | rfl | rfl | rfl | rfl | rfl
      · skip
        exact kit_ok (c.fact 180 rfl)
      · skip
        exact kit_ok (c.fact 181 rfl)
      · skip
        exact kit_ok (c.fact 182 rfl)
      · skip
        exact kit_ok (c.fact 183 rfl)
      · skip
        exact kit_ok (c.fact 184 rfl)
      · skip
        exact kit_ok (c.fact 185 rfl)
      · skip
        exact kit_ok (c.fact 186 rfl)
      · skip
        exact kit_ok (c.fact 187 rfl)
      · skip
        exact kit_ok (c.fact 188 rfl)
      · skip
        exact kit_ok (c.fact 189 rfl)
      · skip
        exact kit_ok (c.fact 190 rfl)
      · skip
        exact kit_ok (c.fact 191 rfl)
      · skip
        exact kit_ok (c.fact 192 rfl)
      · skip
        exact kit_ok (c.fact 193 rfl)
      · skip
        exact kit_ok (c.fact 194 rfl)
      · skip
        exact kit_ok (c.fact 195 rfl)
      · skip
        exact kit_ok (c.fact 196 rfl)
      · skip
        exact kit_ok (c.fact 197 rfl)
      · skip
        exact kit_ok (c.fact 198 rfl)
      · skip
        exact kit_ok (c.fact 199 rfl)
      · skip
        exact kit_ok (c.fact 200 rfl)
      · skip
        exact kit_ok (c.fact 201 rfl)
      · skip
        exact kit_ok (c.fact 202 rfl)
      · skip
        exact kit_ok (c.fact 203 rfl)
    · skip
      simp only [kits, List.mem_cons, List.not_mem_nil, or_false] at hn
      rcases hn with rfl | rfl | rfl | rfl | rfl | rfl | rfl | rfl | rfl | rfl | rfl | rfl | rfl | rfl | rfl | rfl | rfl | rfl | rfl | rfl | rfl | rfl | rfl | rfl
      · skip
        exact kit_ok (c.fact 213 rfl)
      · skip
        exact kit_ok (c.fact 214 rfl)
      · skip
        exact kit_ok (c.fact 215 rfl)
      · skip
        exact kit_ok (c.fact 216 rfl)
      · skip
        exact kit_ok (c.fact 217 rfl)
      · skip
        exact kit_ok (c.fact 218 rfl)
      · skip
        exact kit_ok (c.fact 219 rfl)
      · skip
        exact kit_ok (c.fact 220 rfl)
      · skip
        exact kit_ok (c.fact 221 rfl)
      · skip
        exact kit_ok (c.fact 222 rfl)
      · skip
        exact kit_ok (c.fact 223 rfl)
      · skip
        exact kit_ok (c.fact 224 rfl)
      · skip
        exact kit_ok (c.fact 225 rfl)
      · skip
        exact kit_ok (c.fact 226 rfl)
      · skip
        exact kit_ok (c.fact 227 rfl)
      · skip
        exact kit_ok (c.fact 228 rfl)
      · skip
        exact kit_ok (c.fact 229 rfl)
      · skip
        exact kit_ok (c.fact 230 rfl)
      · skip
        exact kit_ok (c.fact 231 rfl)
      · skip
        exact kit_ok (c.fact 232 rfl)
      · skip
        exact kit_ok (c.fact 233 rfl)
      · skip
        exact kit_ok (c.fact 234 rfl)
      · skip
        exact kit_ok (c.fact 235 rfl)
      · skip
        exact kit_ok (c.fact 236 rfl)
  kitV := by
    intro m hm
    simp only [excs, List.mem_cons, List.not_mem_nil, or_false] at hm
    rcases hm with rfl | rfl | rfl | rfl | rfl | rfl
    · skip
      exact kitT_ok (c.fact 72 rfl)
    · skip
      exact kitT_ok (c.fact 105 rfl)
    · skip
      exact kitT_ok (c.fact 138 rfl)
    · skip
      exact kitT_ok (c.fact 171 rfl)
    · skip
      exact kitT_ok (c.fact 204 rfl)
    · skip
      exact kitT_ok (c.fact 237 rfl)
theorem facts {f : Addr} (X : K.In h) (G : h.Ns mainGlobals mg) (hfa : mg ("law" : Str) = some (.ref f)) (c : SaysX fx fn K) :
    ∃ fd : FuncData, (∀ (s : Shared) (v : Value), BindsTo s fd ⟨[v], []⟩ [("script", v)]) ∧ ∀ base : Heap, K.In base → base.Ns mainGlobals mg → FnOk P w K mg base (L2N.CX P w) 34 f fd ["script"] (lift K sp_law) := by
  obtain ⟨d_is_name, F_is_name⟩ := c.def_ 0 rfl
  have F_is_name : FunD K "is_name" "is_name" (defArgs st_is_name) (defBody st_is_name) (defScope st_is_name) [] [] (He.ga K "is_name") d_is_name := F_is_name
  have B_is_name : Binds K d_is_name ["name"] [] := F_is_name.bindsN (ps := ["name"]) fun _ _ _ _ _ _ us hl => match us, hl with | [_], _ => rfl
  obtain ⟨d_looks_like_place, F_looks_like_place⟩ := c.def_ 1 rfl
  have F_looks_like_place : FunD K "looks_like_place" "looks_like_place" (defArgs st_looks_like_place) (defBody st_looks_like_place) (defScope st_looks_like_place) [] [] (He.ga K "looks_like_place") d_looks_like_place := F_looks_like_place
  have B_looks_like_place : Binds K d_looks_like_place ["nest"] [] := F_looks_like_place.bindsN (ps := ["nest"]) fun _ _ _ _ _ _ us hl => match us, hl with | [_], _ => rfl
  obtain ⟨d_leaves_under, F_leaves_under⟩ := c.def_ 2 rfl
  have F_leaves_under : FunD K "leaves_under" "leaves_under" (defArgs st_leaves_under) (defBody st_leaves_under) (defScope st_leaves_under) [] [] (He.ga K "leaves_under") d_leaves_under := F_leaves_under
  have B_leaves_under : Binds K d_leaves_under ["subtree"] [] := F_leaves_under.bindsN (ps := ["subtree"]) fun _ _ _ _ _ _ us hl => match us, hl with | [_], _ => rfl
  obtain ⟨d__law_mix, F__law_mix⟩ := c.def_ 3 rfl
  have F__law_mix : FunD K "_law_mix" "_law_mix" (defArgs st__law_mix) (defBody st__law_mix) (defScope st__law_mix) [] [] (He.ga K "_law_mix") d__law_mix := F__law_mix
  have B__law_mix : Binds K d__law_mix ["number"] [] := F__law_mix.bindsN (ps := ["number"]) fun _ _ _ _ _ _ us hl => match us, hl with | [_], _ => rfl
  obtain ⟨d__law_lotof, F__law_lotof⟩ := c.def_ 4 rfl
  have F__law_lotof : FunD K "_law_lotof" "_law_lotof" (defArgs st__law_lotof) (defBody st__law_lotof) (defScope st__law_lotof) [] [] (He.ga K "_law_lotof") d__law_lotof := F__law_lotof
  have B__law_lotof : Binds K d__law_lotof ["lines", "number"] [] := F__law_lotof.bindsN (ps := ["lines", "number"]) fun _ _ _ _ _ _ us hl => match us, hl with | [_, _], _ => rfl
  obtain ⟨d__law_nodes, F__law_nodes⟩ := c.def_ 5 rfl
  have F__law_nodes : FunD K "_law_nodes" "_law_nodes" (defArgs st__law_nodes) (defBody st__law_nodes) (defScope st__law_nodes) [] [] (He.ga K "_law_nodes") d__law_nodes := F__law_nodes
  have B__law_nodes : Binds K d__law_nodes ["tree"] [] := F__law_nodes.bindsN (ps := ["tree"]) fun _ _ _ _ _ _ us hl => match us, hl with | [_], _ => rfl
  obtain ⟨d__law_at, F__law_at⟩ := c.def_ 6 rfl
  have F__law_at : FunD K "_law_at" "_law_at" (defArgs st__law_at) (defBody st__law_at) (defScope st__law_at) [] [] (He.ga K "_law_at") d__law_at := F__law_at
  have B__law_at : Binds K d__law_at ["tree", "path"] [] := F__law_at.bindsN (ps := ["tree", "path"]) fun _ _ _ _ _ _ us hl => match us, hl with | [_, _], _ => rfl
  obtain ⟨d__law_put, F__law_put⟩ := c.def_ 7 rfl
  have F__law_put : FunD K "_law_put" "_law_put" (defArgs st__law_put) (defBody st__law_put) (defScope st__law_put) [] [] (He.ga K "_law_put") d__law_put := F__law_put
  have B__law_put : Binds K d__law_put ["tree", "path", "new"] [] := F__law_put.bindsN (ps := ["tree", "path", "new"]) fun _ _ _ _ _ _ us hl => match us, hl with | [_, _, _], _ => rfl
  obtain ⟨d__law_equal, F__law_equal⟩ := c.def_ 8 rfl
  have F__law_equal : FunD K "_law_equal" "_law_equal" (defArgs st__law_equal) (defBody st__law_equal) (defScope st__law_equal) [] [] (He.ga K "_law_equal") d__law_equal := F__law_equal
  have B__law_equal : Binds K d__law_equal ["got", "due"] [] := F__law_equal.bindsN (ps := ["got", "due"]) fun _ _ _ _ _ _ us hl => match us, hl with | [_, _], _ => rfl
  obtain ⟨d__law_error, F__law_error⟩ := c.def_ 9 rfl
  have F__law_error : FunD K "_law_error" "_law_error" (defArgs st__law_error) (defBody st__law_error) (defScope st__law_error) [] [] (He.ga K "_law_error") d__law_error := F__law_error
  have B__law_error : Binds K d__law_error ["e"] [] := F__law_error.bindsN (ps := ["e"]) fun _ _ _ _ _ _ us hl => match us, hl with | [_], _ => rfl
  obtain ⟨d__law_store, F__law_store⟩ := c.def_ 10 rfl
  have F__law_store : FunD K "_law_store" "_law_store" (defArgs st__law_store) (defBody st__law_store) (defScope st__law_store) [] [] (He.ga K "_law_store") d__law_store := F__law_store
  have B__law_store : Binds K d__law_store ["script"] [] := F__law_store.bindsN (ps := ["script"]) fun _ _ _ _ _ _ us hl => match us, hl with | [_], _ => rfl
  obtain ⟨d__law_take, F__law_take⟩ := c.def_ 11 rfl
  have F__law_take : FunD K "_law_take" "_law_take" (defArgs st__law_take) (defBody st__law_take) (defScope st__law_take) [] [] (He.ga K "_law_take") d__law_take := F__law_take
  have B__law_take : Binds K d__law_take ["store", "many"] [] := F__law_take.bindsN (ps := ["store", "many"]) fun _ _ _ _ _ _ us hl => match us, hl with | [_, _], _ => rfl
  obtain ⟨d__law_order, F__law_order⟩ := c.def_ 12 rfl
  have F__law_order : FunD K "_law_order" "_law_order" (defArgs st__law_order) (defBody st__law_order) (defScope st__law_order) [] [] (He.ga K "_law_order") d__law_order := F__law_order
  have B__law_order : Binds K d__law_order ["tree"] [] := F__law_order.bindsN (ps := ["tree"]) fun _ _ _ _ _ _ us hl => match us, hl with | [_], _ => rfl
  obtain ⟨d__law_path, F__law_path⟩ := c.def_ 13 rfl
  have F__law_path : FunD K "_law_path" "_law_path" (defArgs st__law_path) (defBody st__law_path) (defScope st__law_path) [] [] (He.ga K "_law_path") d__law_path := F__law_path
  have B__law_path : Binds K d__law_path ["tree", "line"] [] := F__law_path.bindsN (ps := ["tree", "line"]) fun _ _ _ _ _ _ us hl => match us, hl with | [_, _], _ => rfl
  obtain ⟨d_refuse_leaf, F_refuse_leaf⟩ := c.def_ 14 rfl
  have F_refuse_leaf : FunD K "refuse_leaf" "refuse_leaf" (defArgs st_refuse_leaf) (defBody st_refuse_leaf) (defScope st_refuse_leaf) [] [] (He.ga K "refuse_leaf") d_refuse_leaf := F_refuse_leaf
  have B_refuse_leaf : Binds K d_refuse_leaf ["name", "known"] [] := F_refuse_leaf.bindsN (ps := ["name", "known"]) fun _ _ _ _ _ _ us hl => match us, hl with | [_, _], _ => rfl
  obtain ⟨d_refuse_place, F_refuse_place⟩ := c.def_ 15 rfl
  have F_refuse_place : FunD K "refuse_place" "refuse_place" (defArgs st_refuse_place) (defBody st_refuse_place) (defScope st_refuse_place) [] [] (He.ga K "refuse_place") d_refuse_place := F_refuse_place
  have B_refuse_place : Binds K d_refuse_place ["nest", "path", "many"] [] := F_refuse_place.bindsN (ps := ["nest", "path", "many"]) fun _ _ _ _ _ _ us hl => match us, hl with | [_, _, _], _ => rfl
  obtain ⟨d_check_lot, F_check_lot⟩ := c.def_ 16 rfl
  have F_check_lot : FunD K "check_lot" "check_lot" (defArgs st_check_lot) (defBody st_check_lot) (defScope st_check_lot) [] [] (He.ga K "check_lot") d_check_lot := F_check_lot
  have B_check_lot : Binds K d_check_lot ["lines", "lot"] [] := F_check_lot.bindsN (ps := ["lines", "lot"]) fun _ _ _ _ _ _ us hl => match us, hl with | [_, _], _ => rfl
  obtain ⟨d__law_pick, F__law_pick⟩ := c.def_ 17 rfl
  have F__law_pick : FunD K "_law_pick" "_law_pick" (defArgs st__law_pick) (defBody st__law_pick) (defScope st__law_pick) [] [] (He.ga K "_law_pick") d__law_pick := F__law_pick
  have B__law_pick : Binds K d__law_pick ["store", "items"] [] := F__law_pick.bindsN (ps := ["store", "items"]) fun _ _ _ _ _ _ us hl => match us, hl with | [_, _], _ => rfl
  obtain ⟨d__law_shuffle, F__law_shuffle⟩ := c.def_ 18 rfl
  have F__law_shuffle : FunD K "_law_shuffle" "_law_shuffle" (defArgs st__law_shuffle) (defBody st__law_shuffle) (defScope st__law_shuffle) [] [] (He.ga K "_law_shuffle") d__law_shuffle := F__law_shuffle
  have B__law_shuffle : Binds K d__law_shuffle ["store", "items"] [] := F__law_shuffle.bindsN (ps := ["store", "items"]) fun _ _ _ _ _ _ us hl => match us, hl with | [_, _], _ => rfl
  obtain ⟨d__law_without, F__law_without⟩ := c.def_ 19 rfl
  have F__law_without : FunD K "_law_without" "_law_without" (defArgs st__law_without) (defBody st__law_without) (defScope st__law_without) [] [] (He.ga K "_law_without") d__law_without := F__law_without
  have B__law_without : Binds K d__law_without ["tree", "line"] [] := F__law_without.bindsN (ps := ["tree", "line"]) fun _ _ _ _ _ _ us hl => match us, hl with | [_, _], _ => rfl
  obtain ⟨d_check_tree, F_check_tree⟩ := c.def_ 20 rfl
  have F_check_tree : FunD K "check_tree" "check_tree" (defArgs st_check_tree) (defBody st_check_tree) (defScope st_check_tree) [] [] (He.ga K "check_tree") d_check_tree := F_check_tree
  have B_check_tree : Binds K d_check_tree ["tree"] [] := F_check_tree.bindsN (ps := ["tree"]) fun _ _ _ _ _ _ us hl => match us, hl with | [_], _ => rfl
  obtain ⟨d__law_some, F__law_some⟩ := c.def_ 21 rfl
  have F__law_some : FunD K "_law_some" "_law_some" (defArgs st__law_some) (defBody st__law_some) (defScope st__law_some) [] [] (He.ga K "_law_some") d__law_some := F__law_some
  have B__law_some : Binds K d__law_some ["store", "items", "many"] [] := F__law_some.bindsN (ps := ["store", "items", "many"]) fun _ _ _ _ _ _ us hl => match us, hl with | [_, _, _], _ => rfl
  obtain ⟨d__law_tree, F__law_tree⟩ := c.def_ 22 rfl
  have F__law_tree : FunD K "_law_tree" "_law_tree" (defArgs st__law_tree) (defBody st__law_tree) (defScope st__law_tree) [] [] (He.ga K "_law_tree") d__law_tree := F__law_tree
  have B__law_tree : Binds K d__law_tree ["store", "lines"] [] := F__law_tree.bindsN (ps := ["store", "lines"]) fun _ _ _ _ _ _ us hl => match us, hl with | [_, _], _ => rfl
  obtain ⟨d__law_chain, F__law_chain⟩ := c.def_ 23 rfl
  have F__law_chain : FunD K "_law_chain" "_law_chain" (defArgs st__law_chain) (defBody st__law_chain) (defScope st__law_chain) [] [] (He.ga K "_law_chain") d__law_chain := F__law_chain
  have B__law_chain : Binds K d__law_chain ["store", "many", "nest"] [] := F__law_chain.bindsN (ps := ["store", "many", "nest"]) fun _ _ _ _ _ _ us hl => match us, hl with | [_, _, _], _ => rfl
  obtain ⟨d__law_names, F__law_names⟩ := c.def_ 24 rfl
  have F__law_names : FunD K "_law_names" "_law_names" (defArgs st__law_names) (defBody st__law_names) (defScope st__law_names) [] [] (He.ga K "_law_names") d__law_names := F__law_names
  have B__law_names : Binds K d__law_names ["store", "many"] [] := F__law_names.bindsN (ps := ["store", "many"]) fun _ _ _ _ _ _ us hl => match us, hl with | [_, _], _ => rfl
  obtain ⟨d__law_leftover, F__law_leftover⟩ := c.def_ 25 rfl
  have F__law_leftover : FunD K "_law_leftover" "_law_leftover" (defArgs st__law_leftover) (defBody st__law_leftover) (defScope st__law_leftover) [] [] (He.ga K "_law_leftover") d__law_leftover := F__law_leftover
  have B__law_leftover : Binds K d__law_leftover ["tree", "lot"] [] := F__law_leftover.bindsN (ps := ["tree", "lot"]) fun _ _ _ _ _ _ us hl => match us, hl with | [_, _], _ => rfl
  obtain ⟨d_lines_of, F_lines_of⟩ := c.def_ 26 rfl
  have F_lines_of : FunD K "lines_of" "lines_of" (defArgs st_lines_of) (defBody st_lines_of) (defScope st_lines_of) [] [] (He.ga K "lines_of") d_lines_of := F_lines_of
  have B_lines_of : Binds K d_lines_of ["tree"] [] := F_lines_of.bindsN (ps := ["tree"]) fun _ _ _ _ _ _ us hl => match us, hl with | [_], _ => rfl
  obtain ⟨d__law_lot, F__law_lot⟩ := c.def_ 27 rfl
  have F__law_lot : FunD K "_law_lot" "_law_lot" (defArgs st__law_lot) (defBody st__law_lot) (defScope st__law_lot) [] [] (He.ga K "_law_lot") d__law_lot := F__law_lot
  have B__law_lot : Binds K d__law_lot ["store", "lines"] [] := F__law_lot.bindsN (ps := ["store", "lines"]) fun _ _ _ _ _ _ us hl => match us, hl with | [_, _], _ => rfl
  obtain ⟨d__law_edge, F__law_edge⟩ := c.def_ 28 rfl
  have F__law_edge : FunD K "_law_edge" "_law_edge" (defArgs st__law_edge) (defBody st__law_edge) (defScope st__law_edge) [] [] (He.ga K "_law_edge") d__law_edge := F__law_edge
  have B__law_edge : Binds K d__law_edge ["store"] [] := F__law_edge.bindsN (ps := ["store"]) fun _ _ _ _ _ _ us hl => match us, hl with | [_], _ => rfl
  obtain ⟨d__law_wrongnest, F__law_wrongnest⟩ := c.def_ 29 rfl
  have F__law_wrongnest : FunD K "_law_wrongnest" "_law_wrongnest" (defArgs st__law_wrongnest) (defBody st__law_wrongnest) (defScope st__law_wrongnest) [] [] (He.ga K "_law_wrongnest") d__law_wrongnest := F__law_wrongnest
  have B__law_wrongnest : Binds K d__law_wrongnest ["store", "tree"] [] := F__law_wrongnest.bindsN (ps := ["store", "tree"]) fun _ _ _ _ _ _ us hl => match us, hl with | [_, _], _ => rfl
  obtain ⟨d__law_grove, F__law_grove⟩ := c.def_ 30 rfl
  have F__law_grove : FunD K "_law_grove" "_law_grove" (defArgs st__law_grove) (defBody st__law_grove) (defScope st__law_grove) [] [] (He.ga K "_law_grove") d__law_grove := F__law_grove
  have B__law_grove : Binds K d__law_grove ["store", "most"] [] := F__law_grove.bindsN (ps := ["store", "most"]) fun _ _ _ _ _ _ us hl => match us, hl with | [_, _], _ => rfl
  obtain ⟨d__law_wronglot, F__law_wronglot⟩ := c.def_ 31 rfl
  have F__law_wronglot : FunD K "_law_wronglot" "_law_wronglot" (defArgs st__law_wronglot) (defBody st__law_wronglot) (defScope st__law_wronglot) [] [] (He.ga K "_law_wronglot") d__law_wronglot := F__law_wronglot
  have B__law_wronglot : Binds K d__law_wronglot ["store", "lines"] [] := F__law_wronglot.bindsN (ps := ["store", "lines"]) fun _ _ _ _ _ _ us hl => match us, hl with | [_, _], _ => rfl
  obtain ⟨d__law_world, F__law_world⟩ := c.def_ 32 rfl
  have F__law_world : FunD K "_law_world" "_law_world" (defArgs st__law_world) (defBody st__law_world) (defScope st__law_world) [] [] (He.ga K "_law_world") d__law_world := F__law_world
  have B__law_world : Binds K d__law_world ["store"] [] := F__law_world.bindsN (ps := ["store"]) fun _ _ _ _ _ _ us hl => match us, hl with | [_], _ => rfl
  obtain ⟨d_struck, F_struck⟩ := c.def_ 33 rfl
  have F_struck : FunD K "struck" "struck" (defArgs st_struck) (defBody st_struck) (defScope st_struck) [] [] (He.ga K "struck") d_struck := F_struck
  have B_struck : Binds K d_struck ["tree", "lot"] [] := F_struck.bindsN (ps := ["tree", "lot"]) fun _ _ _ _ _ _ us hl => match us, hl with | [_, _], _ => rfl
  obtain ⟨d_strike, F_strike⟩ := c.def_ 34 rfl
  have F_strike : FunD K "strike" "strike" (defArgs st_strike) (defBody st_strike) (defScope st_strike) [] [] (He.ga K "strike") d_strike := F_strike
  have B_strike : Binds K d_strike ["tree", "lot"] [] := F_strike.bindsN (ps := ["tree", "lot"]) fun _ _ _ _ _ _ us hl => match us, hl with | [_, _], _ => rfl
  obtain ⟨d__law_tried, F__law_tried⟩ := c.def_ 35 rfl
  have F__law_tried : FunD K "_law_tried" "_law_tried" (defArgs st__law_tried) (defBody st__law_tried) (defScope st__law_tried) [] [] (He.ga K "_law_tried") d__law_tried := F__law_tried
  have B__law_tried : Binds K d__law_tried ["tree", "lot"] [] := F__law_tried.bindsN (ps := ["tree", "lot"]) fun _ _ _ _ _ _ us hl => match us, hl with | [_, _], _ => rfl
  obtain ⟨d__law_struckright, F__law_struckright⟩ := c.def_ 36 rfl
  have F__law_struckright : FunD K "_law_struckright" "_law_struckright" (defArgs st__law_struckright) (defBody st__law_struckright) (defScope st__law_struckright) [] [] (He.ga K "_law_struckright") d__law_struckright := F__law_struckright
  have B__law_struckright : Binds K d__law_struckright ["tree", "lines", "lot", "inner"] [] := F__law_struckright.bindsN (ps := ["tree", "lines", "lot", "inner"]) fun _ _ _ _ _ _ us hl => match us, hl with | [_, _, _, _], _ => rfl
  obtain ⟨d_law, F_law⟩ := c.def_ 37 rfl
  have F_law : FunD K "law" "law" (defArgs st_law) (defBody st_law) (defScope st_law) [] [] (He.ga K "law") d_law := F_law
  have B_law : Binds K d_law ["script"] [] := F_law.bindsN (ps := ["script"]) fun _ _ _ _ _ _ us hl => match us, hl with | [_], _ => rfl
  have e := hfa.symm.trans (glo_mg X G (c.fact 275 rfl))
  cases e
  have b := FunD.bindsA (ps := ["script"]) F_law fun _ _ _ _ _ _ us hl => match us, hl with | [_], _ => rfl
  refine ⟨d_law, fun s v => b s [v] rfl, fun base _ _ => ?_⟩
  have T : Tx K mg P w base := mkTx X G c
  have h_is_name : Fn0 P w K mg base "is_name" 1 sp_is_name := ⟨⟨_, d_is_name, ["name"], tm_is_name T F_is_name len_is_name pure_is_name, glo_mg X G (c.fact 238 rfl), F_is_name.kp, B_is_name⟩⟩
  have h_looks_like_place : Fn0 P w K mg base "looks_like_place" 1 sp_looks_like_place := ⟨⟨_, d_looks_like_place, ["nest"], tm_looks_like_place T F_looks_like_place len_looks_like_place pure_looks_like_place, glo_mg X G (c.fact 239 rfl), F_looks_like_place.kp, B_looks_like_place⟩⟩
  have h_leaves_under : Fn0 P w K mg base "leaves_under" 1 sp_leaves_under := ⟨⟨_, d_leaves_under, ["subtree"], tm_leaves_under T F_leaves_under len_leaves_under pure_leaves_under, glo_mg X G (c.fact 240 rfl), F_leaves_under.kp, B_leaves_under⟩⟩
  have h__law_mix : Fn0 P w K mg base "_law_mix" 1 sp__law_mix := ⟨⟨_, d__law_mix, ["number"], tm__law_mix T F__law_mix len__law_mix pure__law_mix, glo_mg X G (c.fact 241 rfl), F__law_mix.kp, B__law_mix⟩⟩
  have h__law_lotof : Fn0 P w K mg base "_law_lotof" 1 sp__law_lotof := ⟨⟨_, d__law_lotof, ["lines", "number"], tm__law_lotof T F__law_lotof len__law_lotof pure__law_lotof, glo_mg X G (c.fact 242 rfl), F__law_lotof.kp, B__law_lotof⟩⟩
  have h__law_nodes : Fn0 P w K mg base "_law_nodes" 1 sp__law_nodes := ⟨⟨_, d__law_nodes, ["tree"], tm__law_nodes T F__law_nodes len__law_nodes pure__law_nodes, glo_mg X G (c.fact 243 rfl), F__law_nodes.kp, B__law_nodes⟩⟩
  have h__law_at : Fn0 P w K mg base "_law_at" 1 sp__law_at := ⟨⟨_, d__law_at, ["tree", "path"], tm__law_at T F__law_at len__law_at pure__law_at, glo_mg X G (c.fact 244 rfl), F__law_at.kp, B__law_at⟩⟩
  have h__law_put : Fn0 P w K mg base "_law_put" 1 sp__law_put := ⟨⟨_, d__law_put, ["tree", "path", "new"], tm__law_put T F__law_put len__law_put pure__law_put, glo_mg X G (c.fact 245 rfl), F__law_put.kp, B__law_put⟩⟩
  have h__law_equal : Fn0 P w K mg base "_law_equal" 1 sp__law_equal := ⟨⟨_, d__law_equal, ["got", "due"], tm__law_equal T F__law_equal len__law_equal pure__law_equal, glo_mg X G (c.fact 246 rfl), F__law_equal.kp, B__law_equal⟩⟩
  have hh__law_error : FnH0 P w K mg base excs "_law_error" 1 hsp__law_error := ⟨⟨_, d__law_error, ["e"], htm__law_error T F__law_error lenh__law_error (pureh__law_error K T.kit T.kitV), glo_mg X G (c.fact 247 rfl), F__law_error.kp, B__law_error⟩⟩
  have h__law_store : Fn0 P w K mg base "_law_store" 2 sp__law_store := ⟨⟨_, d__law_store, ["script"], tm__law_store T h__law_mix F__law_store len__law_store pure__law_store, glo_mg X G (c.fact 248 rfl), F__law_store.kp, B__law_store⟩⟩
  have h__law_take : Fn0 P w K mg base "_law_take" 2 sp__law_take := ⟨⟨_, d__law_take, ["store", "many"], tm__law_take T h__law_mix F__law_take len__law_take pure__law_take, glo_mg X G (c.fact 249 rfl), F__law_take.kp, B__law_take⟩⟩
  have h__law_order : Fn0 P w K mg base "_law_order" 2 sp__law_order := ⟨⟨_, d__law_order, ["tree"], tm__law_order T h__law_nodes F__law_order len__law_order pure__law_order, glo_mg X G (c.fact 250 rfl), F__law_order.kp, B__law_order⟩⟩
  have h__law_path : Fn0 P w K mg base "_law_path" 2 sp__law_path := ⟨⟨_, d__law_path, ["tree", "line"], tm__law_path T h__law_nodes F__law_path len__law_path pure__law_path, glo_mg X G (c.fact 251 rfl), F__law_path.kp, B__law_path⟩⟩
  have h_refuse_leaf : Fn0 P w K mg base "refuse_leaf" 3 sp_refuse_leaf := ⟨⟨_, d_refuse_leaf, ["name", "known"], tm_refuse_leaf T h_is_name F_refuse_leaf len_refuse_leaf pure_refuse_leaf, glo_mg X G (c.fact 252 rfl), F_refuse_leaf.kp, B_refuse_leaf⟩⟩
  have h_refuse_place : Fn0 P w K mg base "refuse_place" 3 sp_refuse_place := ⟨⟨_, d_refuse_place, ["nest", "path", "many"], tm_refuse_place T h_looks_like_place F_refuse_place len_refuse_place pure_refuse_place, glo_mg X G (c.fact 253 rfl), F_refuse_place.kp, B_refuse_place⟩⟩
  have h_check_lot : Fn0 P w K mg base "check_lot" 3 sp_check_lot := ⟨⟨_, d_check_lot, ["lines", "lot"], tm_check_lot T F_check_lot len_check_lot pure_check_lot, glo_mg X G (c.fact 254 rfl), F_check_lot.kp, B_check_lot⟩⟩
  have h__law_pick : Fn0 P w K mg base "_law_pick" 3 sp__law_pick := ⟨⟨_, d__law_pick, ["store", "items"], tm__law_pick T h__law_take F__law_pick len__law_pick pure__law_pick, glo_mg X G (c.fact 255 rfl), F__law_pick.kp, B__law_pick⟩⟩
  have h__law_shuffle : Fn0 P w K mg base "_law_shuffle" 3 sp__law_shuffle := ⟨⟨_, d__law_shuffle, ["store", "items"], tm__law_shuffle T h__law_take F__law_shuffle len__law_shuffle pure__law_shuffle, glo_mg X G (c.fact 256 rfl), F__law_shuffle.kp, B__law_shuffle⟩⟩
  have h__law_without : Fn0 P w K mg base "_law_without" 3 sp__law_without := ⟨⟨_, d__law_without, ["tree", "line"], tm__law_without T h__law_path h__law_at h__law_put F__law_without len__law_without pure__law_without, glo_mg X G (c.fact 257 rfl), F__law_without.kp, B__law_without⟩⟩
  have h_check_tree : Fn0 P w K mg base "check_tree" 4 sp_check_tree := ⟨⟨_, d_check_tree, ["tree"], tm_check_tree T h_refuse_leaf h_refuse_place F_check_tree len_check_tree pure_check_tree, glo_mg X G (c.fact 258 rfl), F_check_tree.kp, B_check_tree⟩⟩
  have h__law_some : Fn0 P w K mg base "_law_some" 4 sp__law_some := ⟨⟨_, d__law_some, ["store", "items", "many"], tm__law_some T h__law_shuffle F__law_some len__law_some pure__law_some, glo_mg X G (c.fact 259 rfl), F__law_some.kp, B__law_some⟩⟩
  have h__law_tree : Fn0 P w K mg base "_law_tree" 4 sp__law_tree := ⟨⟨_, d__law_tree, ["store", "lines"], tm__law_tree T h__law_shuffle h__law_take h__law_pick F__law_tree len__law_tree pure__law_tree, glo_mg X G (c.fact 260 rfl), F__law_tree.kp, B__law_tree⟩⟩
  have h__law_chain : Fn0 P w K mg base "_law_chain" 4 sp__law_chain := ⟨⟨_, d__law_chain, ["store", "many", "nest"], tm__law_chain T h__law_pick F__law_chain len__law_chain pure__law_chain, glo_mg X G (c.fact 261 rfl), F__law_chain.kp, B__law_chain⟩⟩
  have h__law_names : Fn0 P w K mg base "_law_names" 4 sp__law_names := ⟨⟨_, d__law_names, ["store", "many"], tm__law_names T h__law_take h__law_pick F__law_names len__law_names pure__law_names, glo_mg X G (c.fact 262 rfl), F__law_names.kp, B__law_names⟩⟩
  have h__law_leftover : Fn0 P w K mg base "_law_leftover" 4 sp__law_leftover := ⟨⟨_, d__law_leftover, ["tree", "lot"], tm__law_leftover T h__law_order h__law_without F__law_leftover len__law_leftover pure__law_leftover, glo_mg X G (c.fact 263 rfl), F__law_leftover.kp, B__law_leftover⟩⟩
  have h_lines_of : Fn0 P w K mg base "lines_of" 5 sp_lines_of := ⟨⟨_, d_lines_of, ["tree"], tm_lines_of T h_check_tree h_leaves_under F_lines_of len_lines_of pure_lines_of, glo_mg X G (c.fact 264 rfl), F_lines_of.kp, B_lines_of⟩⟩
  have h__law_lot : Fn0 P w K mg base "_law_lot" 5 sp__law_lot := ⟨⟨_, d__law_lot, ["store", "lines"], tm__law_lot T h__law_take h__law_pick h__law_some h__law_lotof F__law_lot len__law_lot pure__law_lot, glo_mg X G (c.fact 265 rfl), F__law_lot.kp, B__law_lot⟩⟩
  have h__law_edge : Fn0 P w K mg base "_law_edge" 5 sp__law_edge := ⟨⟨_, d__law_edge, ["store"], tm__law_edge T h__law_take h__law_pick h__law_chain F__law_edge len__law_edge pure__law_edge, glo_mg X G (c.fact 266 rfl), F__law_edge.kp, B__law_edge⟩⟩
  have h__law_wrongnest : Fn0 P w K mg base "_law_wrongnest" 5 sp__law_wrongnest := ⟨⟨_, d__law_wrongnest, ["store", "tree"], tm__law_wrongnest T h__law_nodes h__law_take h__law_pick h__law_put h__law_chain F__law_wrongnest len__law_wrongnest pure__law_wrongnest, glo_mg X G (c.fact 267 rfl), F__law_wrongnest.kp, B__law_wrongnest⟩⟩
  have h__law_grove : Fn0 P w K mg base "_law_grove" 6 sp__law_grove := ⟨⟨_, d__law_grove, ["store", "most"], tm__law_grove T h__law_take h__law_edge h__law_tree h__law_names F__law_grove len__law_grove pure__law_grove, glo_mg X G (c.fact 268 rfl), F__law_grove.kp, B__law_grove⟩⟩
  have h__law_wronglot : Fn0 P w K mg base "_law_wronglot" 6 sp__law_wronglot := ⟨⟨_, d__law_wronglot, ["store", "lines"], tm__law_wronglot T h__law_lot h__law_take h__law_pick F__law_wronglot len__law_wronglot pure__law_wronglot, glo_mg X G (c.fact 269 rfl), F__law_wronglot.kp, B__law_wronglot⟩⟩
  have h__law_world : Fn0 P w K mg base "_law_world" 7 sp__law_world := ⟨⟨_, d__law_world, ["store"], tm__law_world T h__law_grove h__law_order h__law_tree h__law_lot h__law_wronglot h__law_wrongnest F__law_world len__law_world pure__law_world, glo_mg X G (c.fact 270 rfl), F__law_world.kp, B__law_world⟩⟩
  have h_struck : Fn0 P w K mg base "struck" 30 sp_struck := fnRec (sp := spr_struck) ⟨_, d_struck, ["tree", "lot"], glo_mg X G (c.fact 271 rfl), F_struck.kp, B_struck⟩ (fun n ih => ⟨⟨_, d_struck, ["tree", "lot"], tm_struck T n ih F_struck (len_struck (n + 1)) (pure_struck n), glo_mg X G (c.fact 271 rfl), F_struck.kp, B_struck⟩⟩) (by rintro ds A q x h; exact no_struck h) 30
  have h_strike : Fn0 P w K mg base "strike" 31 sp_strike := ⟨⟨_, d_strike, ["tree", "lot"], tm_strike T h_check_tree h_check_lot h_lines_of h_struck F_strike len_strike pure_strike, glo_mg X G (c.fact 272 rfl), F_strike.kp, B_strike⟩⟩
  have h__law_tried : Fn0 P w K mg base "_law_tried" 32 sp__law_tried := ⟨⟨_, d__law_tried, ["tree", "lot"], tm__law_tried T h_strike hh__law_error F__law_tried len__law_tried pure__law_tried, glo_mg X G (c.fact 273 rfl), F__law_tried.kp, B__law_tried⟩⟩
  have h__law_struckright : Fn0 P w K mg base "_law_struckright" 33 sp__law_struckright := ⟨⟨_, d__law_struckright, ["tree", "lines", "lot", "inner"], tm__law_struckright T h__law_tried h__law_equal h__law_leftover F__law_struckright len__law_struckright pure__law_struckright, glo_mg X G (c.fact 274 rfl), F__law_struckright.kp, B__law_struckright⟩⟩
  exact tm_law T h__law_world h__law_store h__law_struckright h__law_equal h__law_tried h__law_leftover F_law len_law pure_law
end
end LW
open PySem PySem.W PySem.Calls PyProof.Rows
theorem PySem.Challenge.cw_grantedbyturns_k16_strike_leaves_out_lin_holds : PySem.Challenge.rw_grantedbyturns_k16_strike_leaves_out_lin.Holds := by
  w_on; o_law
  refine HandSHeadRun.head_any (r := OpenLaw.row PySem.Challenge.rw_grantedbyturns_k16_strike_leaves_out_lin) (q := view (OpenLaw.row PySem.Challenge.rw_grantedbyturns_k16_strike_leaves_out_lin).prog [73]) (H := LW.hk) (ob := LW.ob) (M := 12000) (loose := LW.loose) (d := HandSHeadRun.topDef (OpenLaw.row PySem.Challenge.rw_grantedbyturns_k16_strike_leaves_out_lin).prog 73) (kwd := []) LW.ob_eq
    (by kernel_rfl) (fun s => by kernel_rfl) LW.run (by kernel_rfl) (by kernel_rfl) (by kernel_rfl) (by rfl) (by first | assumption | decide +kernel) (by decide +kernel) ⟨rfl, rfl, rfl, rfl, rfl, by decide +kernel⟩ ?hw ?hc
  case hw => w_witness2
  case hc =>
    refine L2.walk_ofE (l := PySem.Challenge.rw_grantedbyturns_k16_strike_leaves_out_lin) (n := 63) (k := 34) (x := "script") (CX := GA.CXA (PySem.Challenge.rw_grantedbyturns_k16_strike_leaves_out_lin).prog) rfl (by decide) (by kernel_rfl) ⟨rfl, by decide, by decide⟩ ?F GA.cxa_no
    case F =>
      intro w mg fa h Y G hmg0
      obtain ⟨K, KX, c⟩ := Y
      have hmg : mg ("law" : PySem.Str) = some (.ref fa) := by
        have e : (HandSHeadRun.topDef (OpenLaw.row PySem.Challenge.rw_grantedbyturns_k16_strike_leaves_out_lin).prog 73).name = ("law" : PySem.Str) := by kernel_rfl
        rw [← e]
        exact hmg0
      obtain ⟨fd, hb, hF⟩ := LW.facts (P := (PySem.Challenge.rw_grantedbyturns_k16_strike_leaves_out_lin).prog) (w := w) KX G hmg c
      exact ⟨K, fd, GA.lift K LW.sp_law, KX, hb, fun H a ns hl ho hS => GA.lift_law ho hS (fun A => ⟨ns, rfl, fun _ => rfl⟩) fun _ => rfl, fun base b1 b2 => GA.fnOk_any (hF base b1 b2)⟩
