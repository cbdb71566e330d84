import PyProof.Rows.All
import Wide.All
import OpenK.AllK
import Wide.FinOn
import Lean
import KE.KIsAll
import KE.KExcIs
import HandS.ForMost
import HandS.ForExc
import HandS.IsInst
import HandS.Wide
import HandS.StrMore
import HandS.Flow
import HandS.Style
import HandS.Deep
import HandS.Defaults
import HandS.ExcInit
import HandS.ExcCtx
import HandS.ExcField
import HandS.ExcIs
import HandS.HotCalls
import HandS.ExcInitHot
import HandS.Conv
import HandS.Rev
import HandS.Head0
import HandS.Head1
import HandS.Head2
import HandS.HeadEnd
import HandS.HeadHook1
import HandS.HeadHook2
import HandS.TupAny
import HandS.StrSplit
import HandS.TupMul
import HandS.Comp
import HandS.Iter
import HandS.Dict
import HandS.Small
import HandS.CallSlots
import HandS.SortInts
import HandS.WordsDict
import HandS.More
import HandS.Call
import PyProof.Rows.CountFlat
import KE.SortData
import PySem.Challenge.RW_grantedbyturns_k01_lots_and_masks
set_option Elab.async false
set_option linter.all false
set_option maxRecDepth 100000
set_option maxHeartbeats 4000000
set_option autoImplicit false
namespace GV
open PySem PySem.Spec PyProof.Rows L2
abbrev Fg := PySem.W.Frag
/-- an exception object of the class D with a dict: its isinstance facts -/
structure EC (K : Fg) (D : Addr) : Prop where
  hc : (PySem.W.clsIn K D).isSome = true
  xf : XfC K D
  ca : PySem.W.findIn K (.ref D) "__class__" = some (some (.builtin "object.__class__"))
  gt : PySem.W.specialIn K (.builtin "object.__class__") "__get__" = some (some (.builtin "getset_descriptor.__get__"))
  tk : PySem.W.takesIn K (.builtin "object.__class__") = some true
  mo : PySem.W.mroIn K D (.type "object") = some true

/-! ### hot functions whose promise knows the handled exception -/
section
variable {P : Program} {w : World} {K : Fg} {mg : Str → Option Value} {base : Heap}
structure FnE (P : Program) (w : World) (K : Fg) (mg : Str → Option Value) (base : Heap) (CX : CXT) (k : Nat) (f : Addr) (fd : FuncData) (ps : List Str) (sp : Addr × Obj → Sp) : Prop where
  len : ∀ p vs H Q E, sp p vs H Q E → vs.length = ps.length
  run : ∀ (p : Addr × Obj) (A : Around) (outer : List Env) (s : Shared) (H : Hp) (args : Args) (us : List Value) (vs : List V) (Q : VK) (E : XK),
    L2H.RoomH k A → L2H.Hot1 A p → L2H.PinOk outer H s p → Env0 P w K mg base A outer s H → BindsTo s fd args (ps.zip us) →
    Vals vs us → sp p vs H Q E → codeAny (model P w) A (.call (.ref f) args) (CR CX outer P w H s Q E) s

theorem fnE_of {CX : CXT} {k : Nat} {f : Addr} {N ps : List Str} {sp : Addr × Obj → Sp} {x qual : Str} {params : Arguments} {body : List Stmt} {scope : Scope} {dvs : List V} {kws : List (Str × V)} {fd : FuncData}
    (F : FunD K x qual params body scope dvs kws f fd) (S : FnScope N ps scope)
    (len : ∀ p vs H Q E, sp p vs H Q E → vs.length = ps.length)
    (hbody : ∀ (cdv : Value) (A : Around) (outer : List Env) (s : Shared) (H : Hp) (vs : List V) (Q : VK) (E : XK) (p : Addr × Obj), L2H.Hot1 A p →
      L2H.RoomH k (A.deeper (envOfC qual scope s.heap.objs.size f cdv)) → sp p vs H Q E →
      ∃ t, PSs (L2H.cxH CX P w K mg base N qual scope f cdv A outer s H E p) body t ∧ t { nx := fun _ H' => Q .non H', rt := Q } (L2.start N vs) H) :
    FnE P w K mg base CX (k + 1) f fd ps sp := by
  obtain ⟨oc, od, dV, kV, doc, pm, an, cdv, ct, osl, rfl, lk, hcd, _, _⟩ := F.ex
  constructor
  · exact len
  intro p A outer s H args us vs Q E room hot pin e0 bnd rel hsp
  have hl := len _ _ _ _ _ hsp
  have hK : K.In s.heap := e0.mod.kin.keeps (fun b o e => (e0.bs b o e).1)
  have hlim : s.heap.NoLimit := e0.mod.nolimit.keeps (fun b o e => (e0.bs b o e).1)
  have hkinds : ∀ y ∈ ps.zip us, scope.names.lookup y.1 = some .local ∨ (scope.names.lookup y.1 = some .cell ∧ ((cellsFrom (s.heap.objs.size + 1) scope.names []).lookup y.1).isSome = true) := by
    rintro ⟨n, v⟩ hy
    have hm := (List.of_mem_zip hy).1
    cases S.par n hm with
    | inl q => exact .inl q
    | inr q => exact .inr ⟨q, PySem.W.cellsFrom_some _ _ _ (.inl q)⟩
  refine codeAny_call_function room.depth (hK _ _ lk) rfl S.co S.gen rfl (PySem.W.codeRec_of hK hcd) (bnd _ _ _ _ ?_)
  refine wpAny_newFunctionEnv_cells S.kind hkinds (fun env he s1 x => ?_)
  subst he
  refine ⟨hlim.keeps x.toInCall.keep, codeAny_func ?_⟩
  obtain ⟨t, ht, hq⟩ := hbody cdv A outer s H vs Q E p hot (room.deeper _) hsp
  have I := L2H.inv_startH (CX := CX) (E := E) S pin e0 hl rel x
  refine wpAny_mono (ht.run [] s1 (L2.start N vs) H _ I hq) ?_ (fun e s' hs => hs)
  intro fl s' hs
  match fl, hs with
  | .ret u, ⟨v, σ', H', J, rv, q⟩ => exact ⟨v, H', J.os, J.bare, J.base, J.hok, rv, q⟩
  | .next, ⟨σ', H', J, q⟩ => exact ⟨V.non, H', J.os, J.bare, J.base, J.hok, rfl, q⟩
  | .brk, ⟨_, _, _, q⟩ => exact q.elim
  | .cont, ⟨_, _, _, q⟩ => exact q.elim
/-- from a context that bears p as the handled exception -/
theorem pe_callE {X : Cx} {CX : CXT} {k : Nat} {f : Addr} {fd : FuncData} {ps : List Str} {sp : Addr × Obj → Sp} {E : L2.St → XK} {x : Str} {q pos : Pos} {e : Expr} {es : List Expr} {t : TA} {p : Addr × Obj}
    (F : FnE X.prog X.w X.K X.mg X.base CX k f fd ps sp) (hr : L2H.RoomH k X.A) (hot : L2H.Hot1 X.A p) (hp : p ∈ X.pn)
    {sp0 : Sp} (hi : ∀ vs H Q E, sp0 vs H Q E → sp p vs H Q E)
    (hg : Gl X x) (hm : X.mg x = some (.ref f)) (hk : PySem.W.keepIn X.K (.ref f) = true) (hb : Binds X.K fd ps []) (hx : ∀ σ, PassesAt CX X σ (E σ))
    (ha : PA X (e :: es) t) (hdb : (x == ("__debug__" : Str)) = false := by decide)
    (he : starEach (e :: es) X.env = (false, eval e X.env) :: starEach es X.env := by rfl)
    (hpl : (backTo pos (starEach es X.env)).any (·.1) = false := by rfl) :
    PE X (.Call (.Name x q) (e :: es) [] pos) (tCallS sp0 E t) := by
  refine ⟨fun pins s σ H Q I h => ?_⟩
  refine wpAny_Call_Name_kw (ld_glob I hg hm ?_ hdb)
  refine PySem.W.callWith_K (h₀ := X.base) I.ok.mod.kin hk (thn (ha.run pos pins s σ H _ I h) ?_) he hpl
  rintro us s1 ⟨vs, H1, J, r, hq0⟩
  have hq := hi _ _ _ _ hq0
  refine ⟨J.kIn, ?_⟩
  have hl : us.length = ps.length := by rw [← r.length]; exact F.len _ _ _ _ _ hq
  have b := hb s1 us J.kIn (by rw [List.append_nil]; exact hl)
  rw [List.append_nil] at b
  have P1 := J.pin p (List.mem_append_left _ hp)
  have hpin : L2H.PinOk X.stack H1 s1 p :=
    ⟨P1.1, P1.2.1, fun hm => (List.mem_cons.mp (J.stkSub p.1 hm)).elim P1.2.2.1 P1.2.2.2.1, P1.2.2.2.2⟩
  refine wpAny_call (codeAny_mono (F.run p X.A X.stack s1 H1 ⟨us, []⟩ us vs Q (E σ) hr hot hpin J.env0 b r hq) ?_)
  intro r s' hq'
  match r, hq' with
  | .error e, h => exact hx σ pins H1 s1 e s' J h
  | .ok (.ret u), h => exact J.after h
  | .ok .next, h => exact h.elim
  | .ok .brk, h => exact h.elim
  | .ok .cont, h => exact h.elim
end
/-! ### what may be asked of the handled exception -/
section
variable {X : Cx} {a C : Addr} {oe : Obj} {d : Addr}
/-- e.n -/
theorem pe_xfP {e : Expr} {te : TE} {pos : Pos} {n : Str} (T : XfC X.K C) (hno : PySem.W.findIn X.K (.ref C) n = some none)
    (hz : L2N.Zn (.ref C) (some d) oe) (hf : ∃ vs, oe.data = .fields vs) (hp : (a, oe) ∈ X.pn) (he : PE X e te)
    (hb : attributeBase e n X.env (eval e X.env) = eval e X.env := by rfl) :
    PE X (.Attribute e n pos) (tXf a (.ref C) (some d) C n te) := by
  refine ⟨fun pins s σ H Q I h => attr_of hb (thn (he.run pins s σ H _ I h) ?_)⟩
  rintro u s1 ⟨x, H1, J, rx, ex, ec, dd, fs, v, ed, ea, l, q⟩
  subst ex
  obtain rfl : u = Value.ref a := rx
  cases ed
  have hget := (J.pin (a, oe) (List.mem_append_left _ hp)).1
  obtain ⟨vs, hd⟩ := hf
  obtain ⟨mA, hns, hr⟩ := (J.hok d _ ea : ObjOk X.prog X.w H1 s1.heap d (.xd fs))
  obtain ⟨od, ho, hl⟩ := lookIn_ns hns
  have hrn := hr n
  rw [l] at hrn
  obtain ⟨u, hu, ru⟩ := RelO.some_of hrn
  have inst : PySem.W.InstAt s1.heap a oe C (some od) := by
    refine ⟨hget, hz.1, ?_, ?_⟩
    · unfold PySem.W.notCls; rw [hd] <;> rfl
    · rw [hz.2.1]; exact ho
  refine HandSPX.exc_get J.kIn inst T.ga T.gg T.exC (PySem.W.findObj_own T.hdC hno rfl (by rw [hl, hu])) (handed_of ru) ?_
  exact ⟨v, H1, J.tok _, ru, q⟩
/-- isinstance(e, ..): e the handled exception, its dict stands at d -/
def rIsE (K : Fg) (C a d : Addr) : List V → Hp → VK → Prop := fun xs H Q => (∃ fs, H d = some (.xd fs)) ∧
  ((∃ (D : Addr) (b : Bool), xs = [.ref a, .ref D] ∧ PySem.W.kitOne K (.ref C) (.ref D) = some b ∧ Q (.bl b) H) ∨
   (∃ (T : String) (b : Bool), xs = [.ref a, .ty T] ∧ PySem.W.kitOne K (.ref C) (.type T) = some b ∧ Q (.bl b) H) ∨
   (∃ (t : Addr) (Ds : List Addr) (b : Bool), xs = [.ref a, .ref t] ∧ SqT K H t (Ds.map V.ref) ∧ PySem.W.kitAny K (.ref C) (Ds.map Value.ref) = some b ∧ Q (.bl b) H))
theorem vals_refs : ∀ {Ds : List Addr} {us : List Value}, Vals (Ds.map V.ref) us → us = Ds.map Value.ref
  | [], _, .nil => rfl
  | a :: r, _, .cons h t => by
    cases h
    rw [vals_refs t]
    rfl
theorem call_isE (T : EC X.K C) (hz : L2N.Zn (.ref C) (some d) oe) (hf : ∃ vs, oe.data = .fields vs) (hp : (a, oe) ∈ X.pn) : CallR X (.builtin "isinstance") (rIsE X.K C a d) := by
  intro pins s σ H xs us Q I r h
  obtain ⟨⟨fs, ea⟩, h⟩ := h
  have hget := (I.pin (a, oe) (List.mem_append_left _ hp)).1
  obtain ⟨vs, hd⟩ := hf
  obtain ⟨mA, hns, hr⟩ := (I.hok d _ ea : ObjOk X.prog X.w H s.heap d (.xd fs))
  obtain ⟨od, ho, hl⟩ := lookIn_ns hns
  have inst : PySem.W.InstAt s.heap a oe C (some od) := by
    refine ⟨hget, hz.1, ?_, ?_⟩
    · unfold PySem.W.notCls; rw [hd] <;> rfl
    · rw [hz.2.1]; exact ho
  have kx := PySem.W.kitx_exc (K := X.K) (x := a) (C := C) (ox := oe) (od := some od) T.hc T.xf.ga T.xf.gg T.xf.exC T.ca T.gt T.tk T.mo
  rcases h with ⟨D, b, rfl, e, q⟩ | ⟨T', b, rfl, e, q⟩ | ⟨t, Ds, b, rfl, ht, e, q⟩
  · obtain ⟨u, v, rfl, h1, h2⟩ : ∃ u v, us = [u, v] ∧ RelV (.ref a) u ∧ RelV (.ref D) v := by
      cases r with
      | cons r1 r2 => cases r2 with
        | cons r3 r4 => cases r4; exact ⟨_, _, rfl, r1, r3⟩
    cases h1; cases h2
    exact PySem.W.kia_one kx I.kIn inst e (fun z => nomatch z) fun tk => ⟨.bl b, H, I.kept (t' := tk) fun _ _ z => z, rfl, q⟩
  · obtain ⟨u, v, rfl, h1, h2⟩ : ∃ u v, us = [u, v] ∧ RelV (.ref a) u ∧ RelV (.ty T') v := by
      cases r with
      | cons r1 r2 => cases r2 with
        | cons r3 r4 => cases r4; exact ⟨_, _, rfl, r1, r3⟩
    cases h1; cases h2
    exact PySem.W.kia_one kx I.kIn inst e (fun z => nomatch z) fun tk => ⟨.bl b, H, I.kept (t' := tk) fun _ _ z => z, rfl, q⟩
  · obtain ⟨u, v, rfl, h1, h2⟩ : ∃ u v, us = [u, v] ∧ RelV (.ref a) u ∧ RelV (.ref t) v := by
      cases r with
      | cons r1 r2 => cases r2 with
        | cons r3 r4 => cases r4; exact ⟨_, _, rfl, r1, r3⟩
    cases h1; cases h2
    obtain ⟨its, hv, ht', _⟩ := I.tuple ht
    have ei := vals_refs hv
    subst ei
    obtain ⟨ob, hob, hcls, hdat⟩ := ht'
    obtain ⟨oc, odt, oda, osl⟩ := ob
    dsimp only at hcls hdat
    subst hcls
    obtain ⟨n, rfl⟩ : ∃ n, oda = Data.seq (Ds.map Value.ref).toArray n := by
      first
        | exact ⟨_, hdat⟩
        | exact hdat
    exact PySem.W.kia_tup kx I.kIn inst hob e (fun z => nomatch z) fun tk => ⟨.bl b, H, I.kept (t' := tk) fun _ _ z => z, rfl, q⟩
end
end GV

namespace GV
open PySem PySem.Spec PyProof.Rows L2
/-! ### raise C(e, ..) of an own class whose __init__ stores its arguments -/
section
variable {X : Cx} {e : Expr} {es : List Expr} {ta : TA} {p pos : Pos}
theorem pmk_oexN {CX : CXT} {x : Str} {C fI : Addr} {k : Nat} {fd : FuncData} {ps : List Str} {sp : Sp} (T : OexC X.K C)
    (iC : PySem.W.findIn X.K (.ref C) "__init__" = some (some (.ref fI))) (tI : PySem.W.typeIn X.K (.ref fI) = some (.type "function"))
    (F1 : FnOk X.prog X.w X.K X.mg X.base CX k fI fd ps sp) (hr : Room (k + 1) X.A) (hb : Binds X.K fd ps []) (hx : Passes CX X (fun _ _ _ => False))
    (hg : Gl X x) (hm : X.mg x = some (.ref C)) (ha : PA X (e :: es) ta) (hdb : (x == ("__debug__" : Str)) = false := by decide)
    (he : starEach (e :: es) X.env = (false, eval e X.env) :: starEach es X.env := by rfl)
    (hpl : (backTo pos (starEach es X.env)).any (·.1) = false := by rfl) :
    L2N.PMk X (.Call (.Name x p) (e :: es) [] pos) (tMkO C sp [] ta) := by
  intro pins s σ H Q I h
  obtain ⟨nm, q, N, bs, bm, sn, sub, ab, col, dd, k0, k1, k2, k3, k5, hC, hbm⟩ := T.cls
  refine wpAny_Call_Name_kw (ld_glob I hg hm ?_ hdb)
  refine PySem.W.callWith_K (h₀ := X.base) I.ok.mod.kin T.kC (thn (ha.run pos pins s σ H _ I h) ?_) he hpl
  rintro us s1 ⟨vs, H1, J, r1, hz, q1⟩
  refine ⟨J.kIn, ?_⟩
  show wpAny _ _ (call (.ref C) us) _ _ _
  obtain ⟨hp, g, dr, tk, os⟩ := s1
  have h01 : hp.objs.size ≤ hp.objs.size + 1 := Nat.le_succ _
  have hn : H1 (hp.objs.size + 1) = none := J.hok.fresh h01
  have hq := q1 (hp.objs.size + 1) hn
  rw [List.append_nil] at hq
  let hp2 := (hp.push (PySem.W.kdv_tup us)).push (PySem.HandSPX.excO C hp.objs.size)
  have kk : ∀ b o, hp.get? b = some o → hp2.get? b = some o := fun b o e => Heap.get?_push_of_some _ (Heap.get?_push_of_some _ e)
  have hget : hp2.get? (hp.objs.size + 1) = some (PySem.HandSPX.excO C hp.objs.size) := by
    show ((hp.push (PySem.W.kdv_tup us)).push (PySem.HandSPX.excO C hp.objs.size)).get? (hp.objs.size + 1) = _
    heap_get
  have J2 : Inv X pins σ (upd H1 (hp.objs.size + 1) (exo (hp.objs.size + 1) C none)) ⟨hp2, g, dr, tk, os⟩ :=
    J.laid (t' := tk) (a := hp.objs.size + 1) (o := exo (hp.objs.size + 1) C none) (h' := hp2) kk h01 (exo_ok hget)
  have r2 : Vals (V.ref (hp.objs.size + 1) :: vs) (Value.ref (hp.objs.size + 1) :: us) := .cons rfl r1
  have hl : (Value.ref (hp.objs.size + 1) :: us ++ []).length = ps.length := by
    have e := r2.length
    rw [F1.len _ _ _ _ hq] at e
    rw [List.append_nil]
    exact e.symm
  have b2 := hb _ (Value.ref (hp.objs.size + 1) :: us) J2.kIn hl
  rw [List.append_nil] at b2
  have hus : us.length ≤ sizeLine := by
    rw [← Paired.length r1, sizeLine_eq]
    omega
  refine wpAny_call (PySem.HandSPX.call_own F.excBase_ValueError (fun Y => PySem.HandSPX.refsVE_contains Y bm hbm) (J.kIn _ _ hC) (PySem.W.looks_findIn J.kIn iC) (fun self => PySem.W.bind_fn J.kIn self tI) hus
    (codeAny_mono (F1.run _ X.stack _ _ ⟨Value.ref (hp.objs.size + 1) :: us, []⟩ (Value.ref (hp.objs.size + 1) :: us) _ _ (fun _ _ _ => False) (hr.make C us []) (J2.env0.make C us []) b2 r2 hq) ?_))
  intro r s' hq'
  match r, hq' with
  | .error er, h => exact (hx pins σ _ _ er s' J2 h)
  | .ok .next, h => exact h.elim
  | .ok .brk, h => exact h.elim
  | .ok .cont, h => exact h.elim
  | .ok (.ret u), h =>
    obtain ⟨v, H2, os2, bare2, un2, hok2, rv, ev, d, fs, ea, ed, hd1, q2⟩ := h
    subst ev
    obtain ⟨h2, g2, d2, t2, os'⟩ := s'
    obtain ⟨t0, G, I4, kG, ge, hoe, na⟩ := mk_end0 (d2 := d2) (t2 := t2) J h01 kk un2 hok2 os2 bare2 ea ed hd1
    refine ⟨rv, ⟨hp.objs.size + 1, _, _, ⟨G, g2, d2, t2, os'⟩, _, .ref C, some d, rfl, I4, kG, ge, hoe, ⟨rfl, rfl, ?_⟩, rfl, rfl, na, rfl, bare2, raises_own T.exC T.tyC, q2⟩⟩
    intro vs hv
    cases hv
    rfl
end
/-! ### __init__ -/
/-- it hands back None and leaves the fields fs at a new dict d -/
def spI (C : Addr) (ns : List Str) : Sp := fun vs H Q _ => ∃ (a : Addr) (us : List V), vs = .ref a :: us ∧ us.length = ns.length ∧ H a = some (exo a C none) ∧
  ∀ (d : Addr) (H' : Hp), H d = none → d ≠ a → H' a = some (exo a C (some d)) → H' d = some (exd d (ns.zip us).reverse) →
    (∀ b o, H b = some o → b ≠ a → H' b = some o) → Q .non H'
section
variable {P : Program} {w : World} {K : Fg} {mg : Str → Option Value} {base : Heap} {CX : CXT}
theorem ok_init1 {C f : Addr} {fd : FuncData} {qual n : Str} {params : Arguments} {p1 p2 p3 p4 : Pos} {sc : Scope}
    (F : FunD K "__init__" qual params [.Assign [.Attribute (.Name "self" p1) n p2] (.Name n p3) p4] sc [] [] f fd)
    (S : FnScope ["self", n] ["self", n] sc) (T : OexC K C) (hno : PySem.W.findIn K (.ref C) n = some none)
    (v1 : List.lookup (Str.ofString "self") sc.names = some NameKind.local) (v2 : List.lookup n sc.names = some NameKind.local)
    (hd : (n == ("__debug__" : Str)) = false) (hcd : (n == ("__classdict__" : Str)) = false) :
    FnOk P w K mg base CX 1 f fd ["self", n] (spI C [n]) := by
  refine F.ok S (fun vs H Q E h => ?_) (fun cdv A outer s H vs Q E hr h => ?_)
  · obtain ⟨a, us, rfl, hl, _⟩ := h
    exact congrArg Nat.succ hl
  · obtain ⟨a, us, rfl, hl, ha, k⟩ := h
    obtain ⟨y, rfl⟩ : ∃ y, us = [y] := by
      match us, hl with
      | [y], _ => exact ⟨y, rfl⟩
    refine ⟨_, pss_one (ps_ost (pe_var (i := 0) rfl (.inl v1)) (pe_var (i := 1) rfl (.inl v2) hd hcd)), ?_⟩
    refine ⟨y, rfl, .ref a, rfl, a, C, rfl, T, hno, .inl ⟨ha, fun dx hn ne => ?_⟩⟩
    refine k dx _ hn ne upd_same ?_ (fun b o hb hba => ?_)
    · rw [upd_ne ne, upd_same]
      rfl
    · rw [upd_ne hba, upd_ne (ne_of_none hb hn)]
      exact hb
theorem ok_init2 {C f : Addr} {fd : FuncData} {qual n m : Str} {params : Arguments} {p1 p2 p3 p4 q1 q2 q3 q4 : Pos} {sc : Scope}
    (F : FunD K "__init__" qual params [.Assign [.Attribute (.Name "self" p1) n p2] (.Name n p3) p4, .Assign [.Attribute (.Name "self" q1) m q2] (.Name m q3) q4] sc [] [] f fd)
    (S : FnScope ["self", n, m] ["self", n, m] sc) (T : OexC K C) (hno : PySem.W.findIn K (.ref C) n = some none) (hno2 : PySem.W.findIn K (.ref C) m = some none)
    (v1 : List.lookup (Str.ofString "self") sc.names = some NameKind.local) (v2 : List.lookup n sc.names = some NameKind.local) (v3 : List.lookup m sc.names = some NameKind.local)
    (hd : (n == ("__debug__" : Str)) = false) (hcd : (n == ("__classdict__" : Str)) = false) (hd2 : (m == ("__debug__" : Str)) = false) (hcd2 : (m == ("__classdict__" : Str)) = false) :
    FnOk P w K mg base CX 1 f fd ["self", n, m] (spI C [n, m]) := by
  refine F.ok S (fun vs H Q E h => ?_) (fun cdv A outer s H vs Q E hr h => ?_)
  · obtain ⟨a, us, rfl, hl, _⟩ := h
    exact congrArg Nat.succ hl
  · obtain ⟨a, us, rfl, hl, ha, k⟩ := h
    obtain ⟨y, z, rfl⟩ : ∃ y z, us = [y, z] := by
      match us, hl with
      | [y, z], _ => exact ⟨y, z, rfl⟩
    refine ⟨_, pss_cons (ps_ost (pe_var (i := 0) rfl (.inl v1)) (pe_var (i := 1) rfl (.inl v2) hd hcd)) (pss_one (ps_ost (pe_var (i := 0) rfl (.inl v1)) (pe_var (i := 2) rfl (.inl v3) hd2 hcd2))), ?_⟩
    refine ⟨y, rfl, .ref a, rfl, a, C, rfl, T, hno, .inl ⟨ha, fun dx hn ne => ?_⟩⟩
    have e1 : (upd (upd H dx (exd dx [(n, y)])) a (exo a C (some dx))) a = some (exo a C (some dx)) := upd_same
    have e2 : (upd (upd H dx (exd dx [(n, y)])) a (exo a C (some dx))) dx = some (exd dx [(n, y)]) := by rw [upd_ne ne, upd_same]
    refine ⟨z, rfl, .ref a, rfl, a, C, rfl, T, hno2, .inr ⟨dx, [(n, y)], e1, e2, by show 1 ≤ 900; decide, ?_⟩⟩
    refine k dx _ hn ne ?_ upd_same (fun b o hb hba => ?_)
    · rw [upd_ne ne.symm]
      exact e1
    · rw [upd_ne (ne_of_none hb hn), upd_ne hba, upd_ne (ne_of_none hb hn)]
      exact hb
/-- the reading of a raise, at the arguments' values -/
theorem mkO_pt {C : Addr} {ns : List Str} {us : List V} {H1 : Hp} {Q : XK} (h9 : ns.length ≤ 900) (hl : us.length = ns.length)
    (k : ∀ d Hf, H1 d = none → Hf d = some (.xd (ns.zip us).reverse) → (∀ b o, H1 b = some o → Hf b = some o) → Q (.ref C) (some d) Hf) :
    us.length ≤ 1000 ∧ ∀ a, H1 a = none → spI C ns (.ref a :: (us ++ [])) (upd H1 a (exo a C none))
      (fun v H2 => v = .non ∧ ∃ (d : Addr) (fs : List (Str × V)), H2 a = some (exo a C (some d)) ∧ H2 d = some (exd d fs) ∧ H1 d = none ∧ Q (.ref C) (some d) (upd (del H2 a) d (.xd fs))) (fun _ _ _ => False) := by
  refine ⟨by rw [hl]; omega, fun a ha => ⟨a, us, by rw [List.append_nil], hl, upd_same, ?_⟩⟩
  intro d H' hd hda e1 e2 keep
  have hd1 : H1 d = none := by rw [upd_ne hda] at hd; exact hd
  refine ⟨rfl, d, _, e1, e2, hd1, k d _ hd1 upd_same fun b o hb => ?_⟩
  have hba : b ≠ a := ne_of_none hb ha
  rw [upd_ne (ne_of_none hb hd1), del_ne hba]
  refine keep b o ?_ hba
  rw [upd_ne hba]
  exact hb
end
end GV

/-! A layer over HandS: abstract values (tuples are values), a heap of cells, one universal reading a construct. -/
namespace GA
open PySem PySem.Spec PyProof.Rows L2 GV TL
inductive D where
  | non | bl (b : Bool) | int (i : Int) | str (cs : List Nat) | ref (a : Addr) | ty (n : String) | tup (ds : List D) | lof (ds : List D)
inductive Cell where
  | lst (ds : List D)
  | dic (kvs : List (Key × D))
  | dit (kvs : List (List Key × D))
  | xd (fs : List (Str × D))
abbrev Ah := Addr → Option Cell
def updA (A : Ah) (a : Addr) (c : Cell) : Ah := fun b => if b = a then some c else A b
theorem updA_same {A : Ah} {a : Addr} {c : Cell} : updA A a c a = some c := if_pos rfl
theorem updA_ne {A : Ah} {a b : Addr} {c : Cell} (h : b ≠ a) : updA A a c b = A b := if_neg h
theorem updA_updA {A : Ah} {a : Addr} {c c' : Cell} : updA (updA A a c) a c' = updA A a c' := by
  funext b; unfold updA; split <;> rfl
theorem neA {A : Ah} {a b : Addr} {c : Cell} (h : A a = some c) (h' : A b = none) : a ≠ b := by
  intro e; subst e; rw [h] at h'; cases h'
/-- a list that nothing writes to: frozen, or of the text -/
def SqF (K : Fg) (H : Hp) (a : Addr) (xs : List V) : Prop := (∃ o, H a = some (.frz o (.lst xs))) ∨ ∃ o its n, List.lookup a K = some o ∧ o.cls = Value.type "list" ∧ o.dict = none ∧ o.data = Data.seq its n ∧ its.size ≤ sizeLine ∧ Vals xs its.toList
theorem SqF.seq {K : Fg} {H : Hp} {a : Addr} {xs : List V} (h : SqF K H a xs) : SqL K H a xs := h.imp (fun h => .inr h) id
theorem SqF.of {K : Fg} {H : Hp} {a : Addr} {xs : List V} (o : Only H) (h : SqL K H a xs) : SqF K H a xs := h.imp (fun h => by
  rcases h with h | h
  · rcases o a with e | ⟨_, _, e⟩
    · rw [e] at h; cases h
    · rw [e] at h; cases h
  · exact h) id
mutual
inductive Val (K : Fg) (H : Hp) : V → D → Prop
  | non : Val K H .non .non
  | bl (b : Bool) : Val K H (.bl b) (.bl b)
  | int (i : Int) : Val K H (.int i) (.int i)
  | str (x : Str) : Val K H (.str x) (.str (tl x))
  | ref (a : Addr) : Val K H (.ref a) (.ref a)
  | ty (n : String) : Val K H (.ty n) (.ty n)
  | tup {a : Addr} {vs : List V} {ds : List D} : SqT K H a vs → Vls K H vs ds → Val K H (.ref a) (.tup ds)
  | lof {a : Addr} {vs : List V} {ds : List D} : SqF K H a vs → Vls K H vs ds → Val K H (.ref a) (.lof ds)
inductive Vls (K : Fg) (H : Hp) : List V → List D → Prop
  | nil : Vls K H [] []
  | cons {v : V} {vs : List V} {d : D} {ds : List D} : Val K H v d → Vls K H vs ds → Vls K H (v :: vs) (d :: ds)
end
structure Nxt (K : Fg) (H H' : Hp) : Prop where
  tp : ∀ a xs, SqT K H a xs → SqT K H' a xs
  fz : ∀ a o u, H a = some (.frz o u) → H' a = some (.frz o u)
theorem Nxt.rfl {K : Fg} {H : Hp} : Nxt K H H := ⟨fun _ _ h => h, fun _ _ _ h => h⟩
theorem Nxt.trans {K : Fg} {H H1 H2 : Hp} (a : Nxt K H H1) (b : Nxt K H1 H2) : Nxt K H H2 := ⟨fun x xs h => b.tp x xs (a.tp x xs h), fun x o u h => b.fz x o u (a.fz x o u h)⟩
mutual
theorem Val.mono {K : Fg} {H H' : Hp} (n : Nxt K H H') : ∀ {d : D} {v : V}, Val K H v d → Val K H' v d
  | .non, _, .non => .non
  | .bl _, _, .bl b => .bl b
  | .int _, _, .int i => .int i
  | .str _, _, .str x => .str x
  | .ref _, _, .ref a => .ref a
  | .ty _, _, .ty s => .ty s
  | .tup _, _, .tup h t => .tup (n.tp _ _ h) (Vls.mono n t)
  | .lof _, _, .lof h t => .lof (h.imp (fun ⟨o, h⟩ => ⟨o, n.fz _ _ _ h⟩) id) (Vls.mono n t)
theorem Vls.mono {K : Fg} {H H' : Hp} (n : Nxt K H H') : ∀ {ds : List D} {vs : List V}, Vls K H vs ds → Vls K H' vs ds
  | [], _, .nil => .nil
  | _ :: _, _, .cons h t => .cons (Val.mono n h) (Vls.mono n t)
end
section
variable {K : Fg} {H : Hp}
theorem Val.inv_non {v : V} (h : Val K H v .non) : v = .non := by cases h; rfl
theorem Val.inv_bl {v : V} {b : Bool} (h : Val K H v (.bl b)) : v = .bl b := by cases h; rfl
theorem Val.inv_int {v : V} {i : Int} (h : Val K H v (.int i)) : v = .int i := by cases h; rfl
theorem Val.inv_str {v : V} {cs : List Nat} (h : Val K H v (.str cs)) : ∃ x, v = .str x ∧ tl x = cs := by cases h; exact ⟨_, rfl, rfl⟩
theorem Val.inv_ref {v : V} {a : Addr} (h : Val K H v (.ref a)) : v = .ref a := by cases h; rfl
theorem Val.inv_ty {v : V} {n : String} (h : Val K H v (.ty n)) : v = .ty n := by cases h; rfl
theorem Val.inv_tup {v : V} {ds : List D} (h : Val K H v (.tup ds)) : ∃ a vs, v = .ref a ∧ SqT K H a vs ∧ Vls K H vs ds := by cases h with
  | tup h t => exact ⟨_, _, rfl, h, t⟩
theorem Val.inv_lof {v : V} {ds : List D} (h : Val K H v (.lof ds)) : ∃ a vs, v = .ref a ∧ SqF K H a vs ∧ Vls K H vs ds := by cases h with
  | lof h t => exact ⟨_, _, rfl, h, t⟩
theorem Val.strOf {x : Str} {cs : List Nat} (h : tl x = cs) : Val K H (.str x) (.str cs) := by subst h; exact .str x
theorem Vls.length {vs : List V} {ds : List D} (h : Vls K H vs ds) : vs.length = ds.length := by
  induction ds generalizing vs with
  | nil => cases h; rfl
  | cons d ds ih => cases h with
    | cons h t => exact congrArg Nat.succ (ih t)
theorem Vls.get {vs : List V} {ds : List D} (h : Vls K H vs ds) {i : Nat} {d : D} (e : ds[i]? = some d) : ∃ v, vs[i]? = some v ∧ Val K H v d := by
  induction ds generalizing vs i with
  | nil => cases e
  | cons d' ds ih => cases h with
    | cons h t => cases i with
      | zero => cases e; exact ⟨_, rfl, h⟩
      | succ i => exact ih t e
theorem Vls.get' {vs : List V} {ds : List D} (h : Vls K H vs ds) {i : Nat} {v : V} (e : vs[i]? = some v) : ∃ d, ds[i]? = some d ∧ Val K H v d := by
  induction ds generalizing vs i with
  | nil => cases h; cases e
  | cons d' ds ih => cases h with
    | cons h t => cases i with
      | zero => cases e; exact ⟨_, rfl, h⟩
      | succ i => exact ih t e
theorem Vls.append {vs ws : List V} {ds es : List D} (h : Vls K H vs ds) (h' : Vls K H ws es) : Vls K H (vs ++ ws) (ds ++ es) := by
  induction ds generalizing vs with
  | nil => cases h; exact h'
  | cons d ds ih => cases h with
    | cons h t => exact .cons h (ih t)
theorem Vls.take {vs : List V} {ds : List D} (n : Nat) (h : Vls K H vs ds) : Vls K H (vs.take n) (ds.take n) := by
  induction n generalizing vs ds with
  | zero => exact .nil
  | succ n ih => cases h with
    | nil => exact .nil
    | cons h t => exact .cons h (ih t)
theorem Vls.drop {vs : List V} {ds : List D} (n : Nat) (h : Vls K H vs ds) : Vls K H (vs.drop n) (ds.drop n) := by
  induction n generalizing vs ds with
  | zero => exact h
  | succ n ih => cases h with
    | nil => exact .nil
    | cons h t => exact ih t
theorem Vls.set {vs : List V} {ds : List D} {v : V} {d : D} (hv : Val K H v d) (n : Nat) (h : Vls K H vs ds) : Vls K H (vs.set n v) (ds.set n d) := by
  induction n generalizing vs ds with
  | zero => cases h with
    | nil => exact .nil
    | cons h t => exact .cons hv t
  | succ n ih => cases h with
    | nil => exact .nil
    | cons h t => exact .cons h (ih t)
theorem Vls.rev {vs : List V} {ds : List D} (h : Vls K H vs ds) : Vls K H vs.reverse ds.reverse := by
  induction ds generalizing vs with
  | nil => cases h; exact .nil
  | cons d ds ih => cases h with
    | cons h t =>
      rw [List.reverse_cons, List.reverse_cons]
      exact (ih t).append (.cons h .nil)
end
/-- what stands at a cell's address -/
inductive CellOk (K : Fg) (H : Hp) : Cell → HO → Prop
  | lst {ds : List D} {vs : List V} : Vls K H vs ds → CellOk K H (.lst ds) (.lst vs)
  | dic {kvs : List (Key × D)} {ws : List (Key × V)} : Paired (fun (p : Key × V) (q : Key × D) => p.1 = q.1 ∧ Val K H p.2 q.2) ws kvs → CellOk K H (.dic kvs) (.dK ws)
  | dit {kvs : List (List Key × D)} {ws : List (List Key × V)} : Paired (fun (p : List Key × V) (q : List Key × D) => p.1 = q.1 ∧ Val K H p.2 q.2) ws kvs → CellOk K H (.dit kvs) (.dT ws)
  | xd {fs : List (Str × D)} {ws : List (Str × V)} : Paired (fun (p : Str × V) (q : Str × D) => p.1 = q.1 ∧ Val K H p.2 q.2) ws fs → CellOk K H (.xd fs) (.xd ws)
theorem CellOk.mono {K : Fg} {H H' : Hp} (n : Nxt K H H') {c : Cell} {o : HO} (h : CellOk K H c o) : CellOk K H' c o := by
  cases h with
  | lst h => exact .lst (h.mono n)
  | dic h => exact .dic (Paired.mapP h fun _ _ z => ⟨z.1, z.2.mono n⟩)
  | dit h => exact .dit (Paired.mapP h fun _ _ z => ⟨z.1, z.2.mono n⟩)
  | xd h => exact .xd (Paired.mapP h fun _ _ z => ⟨z.1, z.2.mono n⟩)
def RelA (K : Fg) (H : Hp) (A : Ah) : Prop := ∀ a c, A a = some c → ∃ o, H a = some o ∧ CellOk K H c o
abbrev Gt := List (Option D)
structure Slots (K : Fg) (H : Hp) (σ : L2.St) (Γ : Gt) : Prop where
  len : σ.length = Γ.length
  get : ∀ (i : Nat) (d : D), Γ[i]? = some (some d) → ∃ v, σ[i]? = some (some v) ∧ Val K H v d
theorem Slots.mono {K : Fg} {H H' : Hp} {σ : L2.St} {Γ : Gt} (s : Slots K H σ Γ) (n : Nxt K H H') : Slots K H' σ Γ :=
  ⟨s.len, fun i d e => let ⟨v, h1, h2⟩ := s.get i d e; ⟨v, h1, h2.mono n⟩⟩
theorem Slots.set {K : Fg} {H : Hp} {σ : L2.St} {Γ : Gt} (s : Slots K H σ Γ) {i : Nat} {v : V} {d : D} (h : Val K H v d) : Slots K H (σ.set i (some v)) (Γ.set i (some d)) := by
  refine ⟨by rw [List.length_set, List.length_set]; exact s.len, fun j e hj => ?_⟩
  by_cases hij : i = j
  · subst hij
    by_cases hi : i < Γ.length
    · rw [List.getElem?_set_self hi] at hj
      cases hj
      exact ⟨v, List.getElem?_set_self (by rw [s.len]; exact hi), h⟩
    · rw [List.getElem?_eq_none (by rw [List.length_set]; omega)] at hj
      cases hj
  · rw [List.getElem?_set_ne hij] at hj
    rw [List.getElem?_set_ne hij]
    exact s.get j e hj
theorem Slots.unset {K : Fg} {H : Hp} {σ : L2.St} {Γ : Gt} (s : Slots K H σ Γ) {i : Nat} : Slots K H (σ.set i none) (Γ.set i none) := by
  refine ⟨by rw [List.length_set, List.length_set]; exact s.len, fun j e hj => ?_⟩
  by_cases hij : i = j
  · subst hij
    by_cases hi : i < Γ.length
    · rw [List.getElem?_set_self hi] at hj
      cases hj
    · rw [List.getElem?_eq_none (by rw [List.length_set]; omega)] at hj
      cases hj
  · rw [List.getElem?_set_ne hij] at hj
    rw [List.getElem?_set_ne hij]
    exact s.get j e hj
/-- an exception in the air: the name of its class, its dict's address -/
structure Exn where
  cls : Str
  d : Addr
abbrev AX := Exn → Ah → Prop
abbrev AE := Gt → Ah → (D → Ah → Prop) → AX → Prop
abbrev AT := Gt → Ah → (Bool → Ah → Prop) → AX → Prop
abbrev AA := Gt → Ah → (List D → Ah → Prop) → AX → Prop
structure AEnds where
  nx : Gt → Ah → Prop
  rt : D → Ah → Prop
  bk : Gt → Ah → Prop
  ct : Gt → Ah → Prop
  ex : Exn → Gt → Ah → Prop
abbrev AS := AEnds → Gt → Ah → Prop
abbrev exC (K : Fg) (e : Exn) : Value := .ref (He.ga K e.cls)
/-- what an expression's reading owes its abstract reading -/
def SimE (K : Fg) (W : WX) (te : TE) (ae : AE) : Prop := ∀ (σ : L2.St) (H : Hp) (Γ : Gt) (A : Ah) (q : D → Ah → Prop) (x : AX) (Q : VK), RelA K H A → Slots K H σ Γ → ae Γ A q x →
  (∀ H' v d A', Nxt K H H' → RelA K H' A' → Val K H' v d → q d A' → Q v H') → (∀ H' e A', Nxt K H H' → RelA K H' A' → x e A' → W (exC K e) (some e.d) σ H') → te σ H Q
def SimT (K : Fg) (W : WX) (tt : TT) (at_ : AT) : Prop := ∀ (σ : L2.St) (H : Hp) (Γ : Gt) (A : Ah) (q : Bool → Ah → Prop) (x : AX) (Q : Bool → Hp → Prop), RelA K H A → Slots K H σ Γ → at_ Γ A q x →
  (∀ H' b A', Nxt K H H' → RelA K H' A' → q b A' → Q b H') → (∀ H' e A', Nxt K H H' → RelA K H' A' → x e A' → W (exC K e) (some e.d) σ H') → tt σ H Q
def SimA (K : Fg) (W : WX) (ta : TA) (aa : AA) : Prop := ∀ (σ : L2.St) (H : Hp) (Γ : Gt) (A : Ah) (q : List D → Ah → Prop) (x : AX) (Q : List V → Hp → Prop), RelA K H A → Slots K H σ Γ → aa Γ A q x →
  (∀ H' vs ds A', Nxt K H H' → RelA K H' A' → Vls K H' vs ds → q ds A' → Q vs H') → (∀ H' e A', Nxt K H H' → RelA K H' A' → x e A' → W (exC K e) (some e.d) σ H') → ta σ H Q
structure SimD (K : Fg) (W : WX) (H0 : Hp) (D : L2.Ends) (AD : AEnds) : Prop where
  nx : ∀ σ H Γ A, Nxt K H0 H → RelA K H A → Slots K H σ Γ → AD.nx Γ A → D.nx σ H
  rt : ∀ v H d A, Nxt K H0 H → RelA K H A → Val K H v d → AD.rt d A → D.rt v H
  bk : ∀ σ H Γ A, Nxt K H0 H → RelA K H A → Slots K H σ Γ → AD.bk Γ A → D.bk σ H
  ct : ∀ σ H Γ A, Nxt K H0 H → RelA K H A → Slots K H σ Γ → AD.ct Γ A → D.ct σ H
  ex : ∀ e σ H Γ A, Nxt K H0 H → RelA K H A → Slots K H σ Γ → AD.ex e Γ A → W (exC K e) (some e.d) σ H
theorem SimD.mono {K : Fg} {W : WX} {H0 H1 : Hp} {D : L2.Ends} {AD : AEnds} (h : SimD K W H0 D AD) (n : Nxt K H0 H1) : SimD K W H1 D AD :=
  ⟨fun σ H Γ A k => h.nx σ H Γ A (n.trans k), fun v H d A k => h.rt v H d A (n.trans k), fun σ H Γ A k => h.bk σ H Γ A (n.trans k), fun σ H Γ A k => h.ct σ H Γ A (n.trans k), fun e σ H Γ A k => h.ex e σ H Γ A (n.trans k)⟩
def SimS (K : Fg) (W : WX) (ts : TS) (as : AS) : Prop := ∀ (D : L2.Ends) (AD : AEnds) (σ : L2.St) (H : Hp) (Γ : Gt) (A : Ah), RelA K H A → Slots K H σ Γ → as AD Γ A → SimD K W H D AD → ts D σ H
structure PEA (X : Cx) (W : WX) (e : Expr) (te : TE) (ae : AE) : Prop where
  pe : PE X e te
  sim : SimE X.K W te ae
structure PTA (X : Cx) (W : WX) (e : Expr) (tt : TT) (at_ : AT) : Prop where
  pe : PT X e tt
  sim : SimT X.K W tt at_
structure PWA (X : Cx) (W : WX) (e : Expr) (tt : TT) (at_ : AT) : Prop where
  pe : PW X e tt
  sim : SimT X.K W tt at_
structure PAA (X : Cx) (W : WX) (es : List Expr) (ta : TA) (aa : AA) : Prop where
  pe : PA X es ta
  sim : SimA X.K W ta aa
structure PSA (X : Cx) (W : WX) (st : Stmt) (ts : TS) (as : AS) : Prop where
  pe : PS X st ts
  sim : SimS X.K W ts as
structure PSsA (X : Cx) (W : WX) (sts : List Stmt) (ts : TS) (as : AS) : Prop where
  pe : PSs X sts ts
  sim : SimS X.K W ts as
/-! ### expressions -/
section
variable {X : Cx} {W : WX}
def aVar (i : Nat) : AE := fun Γ A q _ => match Γ[i]? with
  | some (some d) => q d A
  | _ => False
theorem ga_var {i : Nat} {x : Str} {pos : Pos} (hN : X.N[i]? = some x := by rfl) (hv : Vis X.env.scope x := by first | exact Or.inl rfl | exact Or.inr (Or.inl rfl) | exact Or.inr (Or.inr rfl)) (hd : (x == ("__debug__" : Str)) = false := by decide)
    (hcd : (x == ("__classdict__" : Str)) = false := by decide) : PEA X W (.Name x pos) (tVar i) (aVar i) where
  pe := pe_var hN hv hd hcd
  sim := fun σ H Γ A q x Q R S h k _ => by
    unfold aVar at h
    split at h
    · rename_i d e
      obtain ⟨v, h1, h2⟩ := S.get i d e
      exact ⟨v, h1, k H v d A .rfl R h2 h⟩
    · exact h.elim
def aC (d : D) : AE := fun _ A q _ => q d A
theorem sim_c {K : Fg} {v : V} {d : D} (hv : ∀ H, Val K H v d) : SimE K W (tC v) (aC d) := fun σ H Γ A q x Q R S h k _ => k H v d A .rfl R (hv H) h
theorem ga_int {i j pos} : PEA X W (.Constant (.int i) j pos) (tC (.int i)) (aC (.int i)) := ⟨pe_int, sim_c fun _ => .int i⟩
theorem ga_bl {b j pos} : PEA X W (.Constant (.bool b) j pos) (tC (.bl b)) (aC (.bl b)) := ⟨pe_bl, sim_c fun _ => .bl b⟩
theorem ga_non {j pos} : PEA X W (.Constant .none j pos) (tC .non) (aC .non) := ⟨pe_non, sim_c fun _ => .non⟩
theorem ga_str {x j pos} : PEA X W (.Constant (.str x) j pos) (tC (.str x)) (aC (.str (tl x))) := ⟨pe_str, sim_c fun _ => .str x⟩
theorem ga_glob {x : Str} {v : V} {u : Value} {d : D} {pos : Pos} (hm : X.mg x = some u) (r : RelV v u) (hv : ∀ H, Val X.K H v d) (hg : Gl X x := by rfl) (hd : (x == ("__debug__" : Str)) = false := by decide) : PEA X W (.Name x pos) (tC v) (aC d) :=
  ⟨pe_glob hg hm r hd, sim_c hv⟩
theorem ga_bltn {x : Str} {v : V} {u : Value} {d : D} {pos : Pos} (hm : X.mg x = none) (hv : bootBuiltins x = some u) (r : RelV v u) (hd : ∀ H, Val X.K H v d) (hg : Gl X x := by rfl) (hn : x ≠ "__name__" := by decide) (hdb : (x == ("__debug__" : Str)) = false := by decide) :
    PEA X W (.Name x pos) (tC v) (aC d) := ⟨pe_bltn hg hm hv r hn hdb, sim_c hd⟩
/-- a two-place operation on values -/
abbrev A2 := D → D → Ah → (D → Ah → Prop) → Prop
def Sim2 (K : Fg) (r : R2) (ar : A2) : Prop := ∀ (H : Hp) (A : Ah) (v w : V) (d e : D) (q : D → Ah → Prop) (Q : VK), RelA K H A → Val K H v d → Val K H w e → ar d e A q →
  (∀ H' z f A', Nxt K H H' → RelA K H' A' → Val K H' z f → q f A' → Q z H') → r v w H Q
def aOp (r : A2) (a b : AE) : AE := fun Γ A q x => a Γ A (fun d A1 => b Γ A1 (fun e A2 => r d e A2 q) x) x
theorem sim_op {K : Fg} {r : R2} {ar : A2} {ta tb : TE} {aa ab : AE} (hr : Sim2 K r ar) (ha : SimE K W ta aa) (hb : SimE K W tb ab) : SimE K W (tOp r ta tb) (aOp ar aa ab) :=
  fun σ H Γ A q x Q R S h k kx => ha σ H Γ A _ x _ R S h (fun H1 v d A1 n1 R1 v1 h1 => hb σ H1 Γ A1 _ x _ R1 (S.mono n1) h1
    (fun H2 w e A2 n2 R2 v2 h2 => hr H2 A2 v w d e q Q R2 (v1.mono n2) v2 h2 fun H3 z f A3 n3 R3 v3 h3 => k H3 z f A3 ((n1.trans n2).trans n3) R3 v3 h3)
    (fun H2 e A2 n2 R2 h2 => kx H2 e A2 (n1.trans n2) R2 h2)) kx
/-- either of two readings -/
def r2or (r r' : R2) : R2 := fun x y H Q => r x y H Q ∨ r' x y H Q
theorem opR_or {f : Value → Value → Sem Value} {r r' : R2} (h : OpR X f r) (h' : OpR X f r') : OpR X f (r2or r r') := by
  intro pins s σ H x y v u Q I rx ry q
  rcases q with q | q
  · exact h pins s σ H x y v u Q I rx ry q
  · exact h' pins s σ H x y v u Q I rx ry q
theorem ixR_or {r r' : R2} (h : IxR X r) (h' : IxR X r') : IxR X (r2or r r') := by
  intro a b pins s σ H x y v u Q I rx ry q
  rcases q with q | q
  · exact h a b pins s σ H x y v u Q I rx ry q
  · exact h' a b pins s σ H x y v u Q I rx ry q
end
end GA

namespace GA
open PySem PySem.Spec PyProof.Rows L2 GV TL
abbrev big : Nat := 16777216
theorem big_eq : sizeLine = big := sizeLine_eq
section
variable {K : Fg} {H : Hp} {A : Ah}
theorem RelA.none {p : Addr} (R : RelA K H A) (h : H p = none) : A p = none := by
  cases e : A p with
  | none => rfl
  | some c =>
    obtain ⟨o, h1, _⟩ := R p c e
    rw [h] at h1; cases h1
theorem Nxt.new {p : Addr} {o : HO} (h : H p = none) : Nxt K H (upd H p o) := by
  refine ⟨fun a xs hs => ?_, fun a ob u hs => by rw [upd_ne (ne_of_none hs h)]; exact hs⟩
  rcases hs with hs | hs
  · refine .inl ?_
    rcases hs with hs | ⟨ob, hs⟩
    · exact .inl (by rw [upd_ne (ne_of_none hs h)]; exact hs)
    · exact .inr ⟨ob, by rw [upd_ne (ne_of_none hs h)]; exact hs⟩
  · exact .inr hs
/-- an object that is no tuple is changed -/
def NoTup (o : HO) : Prop := (∀ xs, o ≠ .tup xs) ∧ ∀ ob u, o ≠ .frz ob u
theorem Nxt.set {p : Addr} {o o' : HO} (h : H p = some o) (hn : NoTup o) : Nxt K H (upd H p o') := by
  refine ⟨fun a xs hs => ?_, fun a ob u hs => ?_⟩
  rotate_left
  · have : a ≠ p := fun e => by subst e; rw [h] at hs; exact hn.2 _ _ (Option.some.inj hs)
    rw [upd_ne this]; exact hs
  rcases hs with hs | hs
  · refine .inl ?_
    rcases hs with hs | ⟨ob, hs⟩
    · have : a ≠ p := fun e => by subst e; rw [h] at hs; exact hn.1 _ (Option.some.inj hs)
      exact .inl (by rw [upd_ne this]; exact hs)
    · have : a ≠ p := fun e => by subst e; rw [h] at hs; exact hn.2 _ _ (Option.some.inj hs)
      exact .inr ⟨ob, by rw [upd_ne this]; exact hs⟩
  · exact .inr hs
theorem noTup_lst {xs : List V} : NoTup (.lst xs) := ⟨fun _ e => (nomatch e), fun _ _ e => (nomatch e)⟩
theorem noTup_dK {xs : List (Key × V)} : NoTup (.dK xs) := ⟨fun _ e => (nomatch e), fun _ _ e => (nomatch e)⟩
theorem noTup_dT {xs : List (List Key × V)} : NoTup (.dT xs) := ⟨fun _ e => (nomatch e), fun _ _ e => (nomatch e)⟩
/-- an object that A does not know -/
theorem RelA.ext (R : RelA K H A) {p : Addr} {o : HO} (h : H p = .none) : RelA K (upd H p o) A := fun a c e => by
  obtain ⟨o', h1, h2⟩ := R a c e
  exact ⟨o', by rw [upd_ne (ne_of_none h1 h)]; exact h1, h2.mono (.new h)⟩
theorem RelA.new (R : RelA K H A) {p : Addr} {o : HO} {c : Cell} (h : H p = .none) (hc : CellOk K H c o) : RelA K (upd H p o) (updA A p c) := fun a c' e => by
  by_cases hp : a = p
  · subst hp
    rw [updA_same] at e
    cases e
    exact ⟨o, upd_same, hc.mono (.new h)⟩
  · rw [updA_ne hp] at e
    exact R.ext h a c' e
theorem RelA.set (R : RelA K H A) {p : Addr} {o o' : HO} {c : Cell} (h : H p = some o) (hn : NoTup o) (hc : CellOk K H c o') : RelA K (upd H p o') (updA A p c) := fun a c' e => by
  have n : Nxt K H (upd H p o') := .set h hn
  by_cases hp : a = p
  · subst hp
    rw [updA_same] at e
    cases e
    exact ⟨o', upd_same, hc.mono n⟩
  · rw [updA_ne hp] at e
    obtain ⟨o2, h1, h2⟩ := R a c' e
    exact ⟨o2, by rw [upd_ne hp]; exact h1, h2.mono n⟩
/-- less is known -/
theorem RelA.less {A' : Ah} (R : RelA K H A) (h : ∀ a c, A' a = some c → A a = some c) : RelA K H A' := fun a c e => R a c (h a c e)
theorem RelA.lst {a : Addr} {ds : List D} (R : RelA K H A) (h : A a = some (.lst ds)) : ∃ vs, H a = some (.lst vs) ∧ Vls K H vs ds := by
  obtain ⟨o, h1, h2⟩ := R a _ h
  cases h2 with
  | lst hv => exact ⟨_, h1, hv⟩
end
/-! ### + -/
def onL (A : Ah) (a : Addr) (k : List D → Prop) : Prop := ∃ xs, A a = some (.lst xs) ∧ k xs
theorem onL_of {A : Ah} {a : Addr} {k : List D → Prop} (h : onL A a k) : ∃ xs, A a = some (.lst xs) ∧ k xs := h
/-- two ways by a truth value -/
def bsel (b : Bool) (P Q : Prop) : Prop := (b = true → P) ∧ (b = false → Q)
def newL (A : Ah) (ds : List D) (q : D → Ah → Prop) : Prop := ∀ p, A p = none → q (.ref p) (updA A p (.lst ds))
def aAdd : A2 := fun d e A q => match d, e with
  | .int i, .int j => q (.int (i + j)) A
  | .str a, .str b => a.length + b.length ≤ big ∧ q (.str (a ++ b)) A
  | .tup a, .tup b => a.length + b.length ≤ big ∧ q (.tup (a ++ b)) A
  | .ref a, .ref b => onL A a fun xs => onL A b fun ys => xs.length + ys.length ≤ big ∧ newL A (xs ++ ys) q
  | _, _ => False
section
variable {X : Cx}
theorem op_addU : OpR X (binaryOp .Add) (r2or (rI0 fun i j => .int (i + j)) (r2or (fun x y H Q => ∃ i j, x = .str i ∧ y = .str j ∧ i.length + j.length ≤ sizeLine ∧ Q (.str (i ++ j)) H) (r2or (rCatA X.K) rCat))) :=
  opR_or op_add (opR_or op_add_str (opR_or op_catA op_cat))
end
theorem sim_add {K : Fg} : Sim2 K (r2or (rI0 fun i j => .int (i + j)) (r2or (fun x y H Q => ∃ i j, x = .str i ∧ y = .str j ∧ i.length + j.length ≤ sizeLine ∧ Q (.str (i ++ j)) H) (r2or (rCatA K) rCat))) aAdd := by
  intro H A v w d e q Q R hv hw h k
  unfold aAdd at h
  split at h
  · rename_i i j
    cases hv; cases hw
    exact .inl ⟨i, j, rfl, rfl, k H _ _ A .rfl R (.int _) h⟩
  · rename_i a b
    obtain ⟨x, rfl, rfl⟩ := hv.inv_str
    obtain ⟨y, rfl, rfl⟩ := hw.inv_str
    refine .inr (.inl ⟨x, y, rfl, rfl, ?_, k H _ _ A .rfl R (.strOf (tl_append x y)) h.2⟩)
    rw [big_eq, len_tl, len_tl]; exact h.1
  · rename_i a b
    obtain ⟨p, vs, rfl, hp, hvs⟩ := hv.inv_tup
    obtain ⟨p', ws, rfl, hp', hws⟩ := hw.inv_tup
    refine .inr (.inr (.inl ⟨p, p', vs, ws, rfl, rfl, hp, hp', ?_, ?_, ?_, ?_⟩))
    · rw [big_eq, hvs.length, hws.length]; exact h.1
    · rintro rfl
      cases hvs
      exact k H _ _ A .rfl R hw h.2
    · rintro _ rfl
      cases hws
      rw [List.append_nil] at h
      exact k H _ _ A .rfl R hv h.2
    · intro _ _ z hz
      exact k _ _ _ A (.new hz) (R.ext hz) (.tup (SqT.of upd_same) ((hvs.append hws).mono (.new hz))) h.2
  · rename_i a b
    obtain ⟨xs, ha, h⟩ := onL_of h
    obtain ⟨ys, hb, h, h'⟩ := onL_of h
    obtain ⟨vs, h1, r1⟩ := R.lst ha
    obtain ⟨ws, h2, r2⟩ := R.lst hb
    cases hv; cases hw
    refine .inr (.inr (.inr ⟨a, b, vs, ws, rfl, rfl, h1, h2, ?_, fun p hp => ?_⟩))
    · rw [big_eq, r1.length, r2.length]; exact h
    · exact k _ _ _ _ (.new hp) (R.new hp (.lst (r1.append r2))) (.ref p) (h' p (R.none hp))
  · exact h.elim
/-! ### -, *, //, %, ** -/
def aSub : A2 := fun d e A q => match d, e with
  | .int i, .int j => q (.int (i - j)) A
  | _, _ => False
theorem sim_sub {K : Fg} : Sim2 K (rI0 fun i j => .int (i - j)) aSub := by
  intro H A v w d e q Q R hv hw h k
  unfold aSub at h
  split at h
  · cases hv; cases hw
    exact ⟨_, _, rfl, rfl, k H _ _ A .rfl R (.int _) h⟩
  · exact h.elim
def lim : Nat := 2 ^ 4000
def SmallI (i : Int) : Prop := i.natAbs < lim
theorem small_of {i : Int} {b : Nat} (h : i.natAbs ≤ b) (hb : b < lim) : SmallI i := Nat.lt_of_le_of_lt h hb
def rRepS : R2 := fun x y H Q => ∃ z n, x = .str z ∧ y = .int n ∧ 0 ≤ n ∧ n < 2 ^ 40 ∧ z.length * n.toNat ≤ big ∧ ∀ z', tl z' = (List.replicate n.toNat (tl z)).flatten → Q (.str z') H
theorem foldl_app : ∀ (l : List (Array Nat)) (a : Array Nat), (l.foldl (· ++ ·) a).toList = a.toList ++ (l.map Array.toList).flatten
  | [], a => by simp
  | b :: l, a => by
    rw [List.foldl_cons, foldl_app l (a ++ b)]
    simp
theorem tl_mul {z : Str} {n : Int} (h : 0 ≤ n) : tl (Txt.mul z n) = (List.replicate n.toNat (tl z)).flatten := by
  unfold Txt.mul
  by_cases h1 : n < 1
  · have : n = 0 := by omega
    subst this
    rw [if_pos h1]
    rfl
  · rw [if_neg h1]
    split
    · rename_i h2
      rw [Bool.or_eq_true] at h2
      rcases h2 with h2 | h2
      · have : n = 1 := by simpa using h2
        subst this
        simp
      · have : tl z = [] := List.eq_nil_of_length_eq_zero (by rw [← len_tl]; simpa using h2)
        rw [this]
        simp
    · show ((List.replicate n.toNat z.cps).foldl (· ++ ·) #[]).toList = _
      rw [foldl_app]
      simp
theorem op_repS {X : Cx} : OpR X (binaryOp .Mult) rRepS := by
  intro pins s σ H x y v u Q I rx ry h
  obtain ⟨z, n, rfl, rfl, h0, h1, h2, k⟩ := h
  obtain ⟨t, rfl⟩ := rx
  obtain ⟨t', rfl⟩ := ry
  have hb : (2 : Int) ^ 63 = 9223372036854775808 := by decide
  have hb2 : (2 : Int) ^ 40 = 1099511627776 := by decide
  refine SB.mul ⟨?_, fun g1 g2 => ?_, fun g1 g2 => ?_⟩ fun t'' k' => ⟨.str _, H, I.tok _, ⟨_, rfl⟩, k _ (tl_mul h0)⟩
  · rw [Bool.or_eq_false_iff]
    exact ⟨decide_eq_false (by omega), decide_eq_false (by omega)⟩
  · have hz : (z.length : Int) * n ≤ 16777216 := by
      have e : ((z.length * n.toNat : Nat) : Int) ≤ ((16777216 : Nat) : Int) := Int.ofNat_le.mpr h2
      rw [Int.natCast_mul, Int.toNat_of_nonneg h0] at e
      exact e
    intro hgt
    have hlt : (2 ^ 63 - 1) / n < (z.length : Int) := hgt
    have hp : 0 < n := by omega
    have := (Int.ediv_lt_iff_lt_mul hp).mp hlt
    omega
  · have h2' : z.length * n.toNat ≤ 16777216 := h2
    unfold Builtin.Str.tooLong
    rw [sizeLine_eq]
    exact decide_eq_false (by omega)
def aMul : A2 := fun d e A q => match d, e with
  | .int i, .int j => SmallI i ∧ SmallI j ∧ q (.int (i * j)) A
  | .str a, .int n => 0 ≤ n ∧ n < 2 ^ 40 ∧ a.length * n.toNat ≤ big ∧ q (.str (List.replicate n.toNat a).flatten) A
  | .ref a, .int n => onL A a fun xs => 0 ≤ n ∧ n < 2 ^ 40 ∧ xs.length * n.toNat ≤ big ∧ newL A (List.replicate n.toNat xs).flatten q
  | .tup ds, .int n => ds ≠ [] ∧ 2 ≤ n ∧ n ≤ 1000 ∧ ds.length ≤ 1000 ∧ q (.tup (List.replicate n.toNat ds).flatten) A
  | _, _ => False
theorem small_mul {i j : Int} (h : SmallI i) (h' : SmallI j) : CMulW i j := wide_mul (a := 4000) (b := 4000) h h' (by decide) (by decide) (by decide)
theorem Vls.flat {K : Fg} {H : Hp} {vs : List V} {ds : List D} (h : Vls K H vs ds) : ∀ n : Nat, Vls K H (List.replicate n vs).flatten (List.replicate n ds).flatten
  | 0 => .nil
  | n + 1 => by
    rw [List.replicate_succ, List.replicate_succ, List.flatten_cons, List.flatten_cons]
    exact h.append (Vls.flat h n)
theorem sim_mul {K : Fg} : Sim2 K (r2or (rI CMulW fun i j => .int (i * j)) (r2or rRepS (r2or rRep (rRepT K)))) aMul := by
  intro H A v w d e q Q R hv hw h k
  unfold aMul at h
  split at h
  · cases hv; cases hw
    exact .inl ⟨_, _, rfl, rfl, small_mul h.1 h.2.1, k H _ _ A .rfl R (.int _) h.2.2⟩
  · obtain ⟨x, rfl, rfl⟩ := hv.inv_str
    cases hw
    obtain ⟨h0, h1, h2, h3⟩ := h
    exact .inr (.inl ⟨x, _, rfl, rfl, h0, h1, by rw [len_tl]; exact h2, fun z' hz => k H _ _ A .rfl R (.strOf hz) h3⟩)
  · obtain ⟨xs, ha, h0, h1, h2, h3⟩ := onL_of h
    obtain ⟨vs, e1, r1⟩ := R.lst ha
    cases hv; cases hw
    have hb : (2 : Int) ^ 63 = 9223372036854775808 := by decide
    have hb2 : (2 : Int) ^ 40 = 1099511627776 := by decide
    exact .inr (.inr (.inl ⟨_, _, vs, rfl, rfl, e1, by omega, by omega, by rw [big_eq, r1.length]; exact h2, fun p hp => k _ _ _ _ (.new hp) (R.new hp (.lst (r1.flat _))) (.ref p) (h3 p (R.none hp))⟩))
  · obtain ⟨p, vs, rfl, hp, hvs⟩ := hv.inv_tup
    cases hw
    obtain ⟨h0, h1, h2, h3, h4⟩ := h
    refine .inr (.inr (.inr ⟨p, _, vs, rfl, rfl, hp, ?_, h1, h2, by rw [hvs.length]; exact h3, fun r hr => k _ _ _ _ (.new hr) (R.ext hr) (.tup (SqT.of upd_same) ((hvs.flat _).mono (.new hr))) h4⟩))
    intro z; subst z; cases hvs; exact h0 rfl
  · exact h.elim
def aDiv : A2 := fun d e A q => match d, e with
  | .int i, .int j => 0 < j ∧ SmallI j ∧ q (.int (i / j)) A
  | _, _ => False
theorem sim_div {K : Fg} : Sim2 K (rI CDivW fun i j => .int (i / j)) aDiv := by
  intro H A v w d e q Q R hv hw h k
  unfold aDiv at h
  split at h
  · cases hv; cases hw
    exact ⟨_, _, rfl, rfl, wide_div h.1 (b := 4000) h.2.1 (by decide) (by decide), k H _ _ A .rfl R (.int _) h.2.2⟩
  · exact h.elim
def aMod : A2 := fun d e A q => match d, e with
  | .int i, .int j => 0 < j ∧ q (.int (i % j)) A
  | _, _ => False
theorem sim_mod {K : Fg} : Sim2 K (rI (fun _ j => j ≠ 0) fun i j => .int (i.fmod j)) aMod := by
  intro H A v w d e q Q R hv hw h k
  unfold aMod at h
  split at h
  · rename_i i j
    cases hv; cases hw
    refine ⟨_, _, rfl, rfl, by omega, ?_⟩
    show Q (.int (i.fmod j)) H
    rw [Int.fmod_eq_emod_of_nonneg i (by omega)]
    exact k H _ _ A .rfl R (.int _) h.2
  · exact h.elim
def aPow : A2 := fun d e A q => match d, e with
  | .int i, .int j => (0 ≤ j ∧ j ≤ 100000 ∧ i.natAbs < 2 ^ 64) ∧ q (.int (i ^ j.toNat)) A
  | _, _ => False
theorem sim_pow {K : Fg} : Sim2 K (rI CPow fun i j => .int (i ^ j.toNat)) aPow := by
  intro H A v w d e q Q R hv hw h k
  unfold aPow at h
  split at h
  · cases hv; cases hw
    exact ⟨_, _, rfl, rfl, ⟨h.1.1, by omega, h.1.2.2⟩, k H _ _ A .rfl R (.int _) h.2⟩
  · exact h.elim
/-! ### comparisons -/
def lexL : List Nat → List Nat → Bool
  | _, [] => false
  | [], _ :: _ => true
  | a :: x, b :: y => decide (a < b) || (decide (a = b) && lexL x y)
theorem lexL_eq : ∀ a b : List Nat, lexL a b = decide (a < b)
  | [], [] => by decide
  | _ :: _, [] => by simp [lexL]
  | [], _ :: _ => by simp [lexL]
  | a :: x, b :: y => by
    rw [lexL, lexL_eq x y, Bool.eq_iff_iff]
    simp [List.cons_lt_cons_iff]
def aLt : A2 := fun d e A q => match d, e with
  | .int i, .int j => q (.bl (decide (i < j))) A
  | .str a, .str b => q (.bl (lexL a b)) A
  | _, _ => False
def aLe : A2 := fun d e A q => match d, e with
  | .int i, .int j => q (.bl (decide (i ≤ j))) A
  | .str a, .str b => q (.bl (!lexL b a)) A
  | _, _ => False
def aGt : A2 := fun d e A q => match d, e with
  | .int i, .int j => q (.bl (decide (j < i))) A
  | .str a, .str b => q (.bl (lexL b a)) A
  | _, _ => False
def aGe : A2 := fun d e A q => match d, e with
  | .int i, .int j => q (.bl (decide (j ≤ i))) A
  | .str a, .str b => q (.bl (!lexL a b)) A
  | _, _ => False

section
variable {X : Cx}
theorem op_ltU : OpR X (compareOp .Lt) (r2or (rI0 fun i j => .bl (decide (i < j))) fun x y H Q => ∃ i j, x = .str i ∧ y = .str j ∧ Q (.bl (decide (i.cps.toList < j.cps.toList))) H) := opR_or op_lt op_lt_str
theorem op_leU : OpR X (compareOp .LtE) (r2or (rI0 fun i j => .bl (decide (i ≤ j))) fun x y H Q => ∃ i j, x = .str i ∧ y = .str j ∧ Q (.bl !decide (j.cps.toList < i.cps.toList)) H) := opR_or op_le op_le_str
theorem op_gtU : OpR X (compareOp .Gt) (r2or (rI0 fun i j => .bl (decide (j < i))) fun x y H Q => ∃ i j, x = .str i ∧ y = .str j ∧ Q (.bl (decide (j.cps.toList < i.cps.toList))) H) := opR_or op_gt op_gt_str
theorem op_geU : OpR X (compareOp .GtE) (r2or (rI0 fun i j => .bl (decide (j ≤ i))) fun x y H Q => ∃ i j, x = .str i ∧ y = .str j ∧ Q (.bl !decide (i.cps.toList < j.cps.toList)) H) := opR_or op_ge op_ge_str
end
section
variable {K : Fg}
theorem sim_lt : Sim2 K (r2or (rI0 fun i j => .bl (decide (i < j))) fun x y H Q => ∃ i j, x = .str i ∧ y = .str j ∧ Q (.bl (decide (i.cps.toList < j.cps.toList))) H) aLt := by
  intro H A v w d e q Q R hv hw h k
  unfold aLt at h
  split at h
  · cases hv; cases hw; exact .inl ⟨_, _, rfl, rfl, k H _ _ A .rfl R (.bl _) h⟩
  · obtain ⟨x, rfl, rfl⟩ := hv.inv_str
    obtain ⟨y, rfl, rfl⟩ := hw.inv_str
    rw [lexL_eq] at h
    exact .inr ⟨x, y, rfl, rfl, k H _ _ A .rfl R (.bl _) h⟩
  · exact h.elim
theorem sim_le : Sim2 K (r2or (rI0 fun i j => .bl (decide (i ≤ j))) fun x y H Q => ∃ i j, x = .str i ∧ y = .str j ∧ Q (.bl !decide (j.cps.toList < i.cps.toList)) H) aLe := by
  intro H A v w d e q Q R hv hw h k
  unfold aLe at h
  split at h
  · cases hv; cases hw; exact .inl ⟨_, _, rfl, rfl, k H _ _ A .rfl R (.bl _) h⟩
  · obtain ⟨x, rfl, rfl⟩ := hv.inv_str
    obtain ⟨y, rfl, rfl⟩ := hw.inv_str
    rw [lexL_eq] at h
    exact .inr ⟨x, y, rfl, rfl, k H _ _ A .rfl R (.bl _) h⟩
  · exact h.elim
theorem sim_gt : Sim2 K (r2or (rI0 fun i j => .bl (decide (j < i))) fun x y H Q => ∃ i j, x = .str i ∧ y = .str j ∧ Q (.bl (decide (j.cps.toList < i.cps.toList))) H) aGt := by
  intro H A v w d e q Q R hv hw h k
  unfold aGt at h
  split at h
  · cases hv; cases hw; exact .inl ⟨_, _, rfl, rfl, k H _ _ A .rfl R (.bl _) h⟩
  · obtain ⟨x, rfl, rfl⟩ := hv.inv_str
    obtain ⟨y, rfl, rfl⟩ := hw.inv_str
    rw [lexL_eq] at h
    exact .inr ⟨x, y, rfl, rfl, k H _ _ A .rfl R (.bl _) h⟩
  · exact h.elim
theorem sim_ge : Sim2 K (r2or (rI0 fun i j => .bl (decide (j ≤ i))) fun x y H Q => ∃ i j, x = .str i ∧ y = .str j ∧ Q (.bl !decide (i.cps.toList < j.cps.toList)) H) aGe := by
  intro H A v w d e q Q R hv hw h k
  unfold aGe at h
  split at h
  · cases hv; cases hw; exact .inl ⟨_, _, rfl, rfl, k H _ _ A .rfl R (.bl _) h⟩
  · obtain ⟨x, rfl, rfl⟩ := hv.inv_str
    obtain ⟨y, rfl, rfl⟩ := hw.inv_str
    rw [lexL_eq] at h
    exact .inr ⟨x, y, rfl, rfl, k H _ _ A .rfl R (.bl _) h⟩
  · exact h.elim
end
/-! ### ==, != -/
mutual
def D.py : D → PyData
  | .non => .none
  | .bl b => .bool b
  | .int i => .int i
  | .str cs => .str ⟨cs.toArray⟩
  | .ref _ => .none
  | .ty _ => .none
  | .tup ds => .tuple (D.pys ds)
  | .lof _ => .none
def D.pys : List D → List PyData
  | [] => []
  | d :: ds => d.py :: D.pys ds
end
mutual
/-- data that == looks through: no reference, signs of Python, at most 60 deep -/
def D.flat : Nat → D → Bool
  | _, .non => true
  | _, .bl _ => true
  | _, .int _ => true
  | _, .str cs => cs.all (· < 0x110000)
  | _, .ref _ => false
  | _, .ty _ => false
  | _, .lof _ => false
  | 0, .tup _ => false
  | n + 1, .tup ds => D.flats n ds
def D.flats : Nat → List D → Bool
  | _, [] => true
  | n, d :: ds => D.flat n d && D.flats n ds
end
mutual
/-- == of such data -/
def D.eqv : D → D → Bool
  | .non, .non => true
  | .bl a, .bl b => a == b
  | .bl a, .int j => (if a then 1 else 0) == j
  | .int i, .bl b => i == (if b then 1 else 0)
  | .int i, .int j => i == j
  | .str x, .str y => x == y
  | .tup xs, .tup ys => D.eqvs xs ys
  | _, _ => false
def D.eqvs : List D → List D → Bool
  | [], [] => true
  | x :: xs, y :: ys => D.eqv x y && D.eqvs xs ys
  | _, _ => false
end
mutual
theorem flat_depth : ∀ (n : Nat) (d : D), d.flat n = true → d.py.depth ≤ n ∧ d.py.canLay0 = true
  | _, .non, _ => ⟨Nat.zero_le _, rfl⟩
  | _, .bl _, _ => ⟨Nat.zero_le _, rfl⟩
  | _, .int _, _ => ⟨Nat.zero_le _, rfl⟩
  | n, .str cs, h => ⟨Nat.zero_le _, by
      show PyData.strOk ⟨cs.toArray⟩ = true
      unfold PyData.strOk
      cases n <;> simpa [D.flat] using h⟩
  | n, .ref _, h => by simp [D.flat] at h
  | n, .ty _, h => by simp [D.flat] at h
  | n, .lof _, h => by simp [D.flat] at h
  | 0, .tup _, h => by simp [D.flat] at h
  | n + 1, .tup ds, h => by
    have := flats_depth n ds (by simpa [D.flat] using h)
    exact ⟨by simp only [D.py, PyData.depth]; omega, by simp only [D.py, PyData.canLay0]; exact this.2⟩
theorem flats_depth : ∀ (n : Nat) (ds : List D), D.flats n ds = true → PyData.depthAll (D.pys ds) ≤ n ∧ PyData.canLayAll0 (D.pys ds) = true
  | _, [], _ => ⟨Nat.zero_le _, rfl⟩
  | n, d :: ds, h => by
    have h1 : D.flat n d = true ∧ D.flats n ds = true := by simpa [D.flats] using h
    have a := flat_depth n d h1.1
    have b := flats_depth n ds h1.2
    exact ⟨by simp only [D.pys, PyData.depthAll]; omega, by simp only [D.pys, PyData.canLayAll0, a.2, b.2]; rfl⟩
end
mutual
theorem py_eqv : ∀ (n m : Nat) (d e : D), d.flat n = true → e.flat m = true → PyData.eqv d.py e.py = D.eqv d e := by
  intro n m d e hd he
  cases d <;> cases e <;> first
    | rfl
    | (simp [D.flat] at hd; done)
    | (simp [D.flat] at he; done)
    | skip
  · rename_i x y
    simp only [D.py, PyData.eqv, D.eqv]
    rw [Bool.eq_iff_iff]
    simp
  · rename_i xs ys
    simp only [D.py, PyData.eqv, D.eqv]
    cases n with
    | zero => simp [D.flat] at hd
    | succ n => cases m with
      | zero => simp [D.flat] at he
      | succ m => exact pys_eqv n m xs ys (by simpa [D.flat] using hd) (by simpa [D.flat] using he)
theorem pys_eqv : ∀ (n m : Nat) (ds es : List D), D.flats n ds = true → D.flats m es = true → PyData.eqvAll (D.pys ds) (D.pys es) = D.eqvs ds es
  | _, _, [], [], _, _ => rfl
  | _, _, [], _ :: _, _, _ => rfl
  | _, _, _ :: _, [], _, _ => rfl
  | n, m, d :: ds, e :: es, hd, he => by
    have h1 : D.flat n d = true ∧ D.flats n ds = true := by simpa [D.flats] using hd
    have h2 : D.flat m e = true ∧ D.flats m es = true := by simpa [D.flats] using he
    simp only [D.pys, PyData.eqvAll, D.eqvs]
    rw [py_eqv n m d e h1.1 h2.1, pys_eqv n m ds es h1.2 h2.2]
end
mutual
theorem Val.dp {K : Fg} {H : Hp} : ∀ (n : Nat) {d : D} {v : V}, d.flat n = true → Val K H v d → Dp K H v d.py
  | _, .non, _, _, .non => .non
  | _, .bl _, _, _, .bl b => .bl b
  | _, .int _, _, _, .int i => .int i
  | _, .str _, _, _, .str x => by
    show Dp K H (.str x) (.str ⟨(tl x).toArray⟩)
    rw [mk_tl]
    exact .str x
  | n, .ref _, _, h, _ => by simp [D.flat] at h
  | n, .ty _, _, h, _ => by simp [D.flat] at h
  | n, .lof _, _, h, _ => by simp [D.flat] at h
  | 0, .tup _, _, h, _ => by simp [D.flat] at h
  | n + 1, .tup ds, _, h, .tup hs t => .tup hs (Vls.dp n (by simpa [D.flat] using h) t)
theorem Vls.dp {K : Fg} {H : Hp} : ∀ (n : Nat) {ds : List D} {vs : List V}, D.flats n ds = true → Vls K H vs ds → DpAll K H vs (D.pys ds)
  | _, [], _, _, .nil => .nil
  | n, d :: ds, _, h, .cons hv t => by
    have h1 : D.flat n d = true ∧ D.flats n ds = true := by simpa [D.flats] using h
    exact .cons (Val.dp n h1.1 hv) (Vls.dp n h1.2 t)
end
def aEq : A2 := fun d e A q => match d, e with
  | .int i, .int j => q (.bl (decide (i = j))) A
  | .str a, .str b => q (.bl (decide (a = b))) A
  | .bl a, .bl b => q (.bl (a == b)) A
  | d, e => d.flat 60 = true ∧ e.flat 60 = true ∧ q (.bl (D.eqv d e)) A
def aNe : A2 := fun d e A q => match d, e with
  | .int i, .int j => q (.bl (!decide (i = j))) A
  | .str a, .str b => q (.bl (!decide (a = b))) A
  | .bl a, .bl b => q (.bl (!(a == b))) A
  | d, e => d.flat 60 = true ∧ e.flat 60 = true ∧ q (.bl (!D.eqv d e)) A
theorem tl_inj {x y : Str} : (x = y) ↔ (tl x = tl y) := ⟨fun h => by rw [h], ext_tl⟩
section
variable {K : Fg}
theorem sim_eq : Sim2 K (r2or rEq (rEqD K)) aEq := by
  intro H A v w d e q Q R hv hw h k
  unfold aEq at h
  split at h
  · rename_i i j
    cases hv; cases hw
    refine .inl ⟨rfl, ?_⟩
    have : decide (V.int i = V.int j) = decide (i = j) := by rw [Bool.eq_iff_iff]; simp
    rw [this]
    exact k H _ _ A .rfl R (.bl _) h
  · obtain ⟨x, rfl, rfl⟩ := hv.inv_str
    obtain ⟨y, rfl, rfl⟩ := hw.inv_str
    refine .inl ⟨rfl, ?_⟩
    have : decide (V.str x = V.str y) = decide (tl x = tl y) := by rw [Bool.eq_iff_iff]; simp only [decide_eq_true_eq, V.str.injEq]; exact tl_inj
    rw [this]
    exact k H _ _ A .rfl R (.bl _) h
  · rename_i a b
    cases hv; cases hw
    refine .inl ⟨rfl, ?_⟩
    have : decide (V.bl a = V.bl b) = (a == b) := by rw [Bool.eq_iff_iff]; simp
    rw [this]
    exact k H _ _ A .rfl R (.bl _) h
  · obtain ⟨h1, h2, h3⟩ := h
    refine .inr ⟨d.py, e.py, hv.dp 60 h1, hw.dp 60 h2, ?_, ?_, ?_⟩
    · have := flat_depth 60 d h1
      unfold SeqAt.shaped; rw [this.2]; simp; omega
    · have := flat_depth 60 e h2
      unfold SeqAt.shaped; rw [this.2]; simp; omega
    · rw [py_eqv 60 60 d e h1 h2]
      exact k H _ _ A .rfl R (.bl _) h3
theorem sim_ne : Sim2 K (r2or rNe (rNeD K)) aNe := by
  intro H A v w d e q Q R hv hw h k
  unfold aNe at h
  split at h
  · rename_i i j
    cases hv; cases hw
    refine .inl ⟨rfl, ?_⟩
    have : decide (V.int i = V.int j) = decide (i = j) := by rw [Bool.eq_iff_iff]; simp
    rw [this]
    exact k H _ _ A .rfl R (.bl _) h
  · obtain ⟨x, rfl, rfl⟩ := hv.inv_str
    obtain ⟨y, rfl, rfl⟩ := hw.inv_str
    refine .inl ⟨rfl, ?_⟩
    have : decide (V.str x = V.str y) = decide (tl x = tl y) := by rw [Bool.eq_iff_iff]; simp only [decide_eq_true_eq, V.str.injEq]; exact tl_inj
    rw [this]
    exact k H _ _ A .rfl R (.bl _) h
  · rename_i a b
    cases hv; cases hw
    refine .inl ⟨rfl, ?_⟩
    have : decide (V.bl a = V.bl b) = (a == b) := by rw [Bool.eq_iff_iff]; simp
    rw [this]
    exact k H _ _ A .rfl R (.bl _) h
  · obtain ⟨h1, h2, h3⟩ := h
    refine .inr ⟨d.py, e.py, hv.dp 60 h1, hw.dp 60 h2, ?_, ?_, ?_⟩
    · have := flat_depth 60 d h1
      unfold SeqAt.shaped; rw [this.2]; simp; omega
    · have := flat_depth 60 e h2
      unfold SeqAt.shaped; rw [this.2]; simp; omega
    · rw [py_eqv 60 60 d e h1 h2]
      exact k H _ _ A .rfl R (.bl _) h3
end
end GA

namespace GA
open PySem PySem.Spec PyProof.Rows L2 GV TL
/-! ### in -/
def inL (y x : List Nat) : Bool := match y with
  | [c] => decide (c ∈ x)
  | y => (List.range (x.length + 1)).any fun i => pre y (x.drop i)
theorem inL_eq (x y : Str) : (!(Builtin.Str.occurrences x y 0 x.length 1).isEmpty) = inL (tl y) (tl x) := by
  unfold inL
  split
  · rename_i c e
    have : y = ⟨#[c]⟩ := ext_tl e
    rw [this]
    exact PySem.StrLaws.found_one x c
  · rw [Bool.eq_iff_iff, PySem.StrLaws.found_iff]
    simp only [List.any_eq_true, List.mem_range]
    by_cases hy : tl y = []
    · rw [hy]
      constructor
      · rintro ⟨i, h1, h2⟩
        exact ⟨0, by omega, rfl⟩
      · rintro ⟨i, h1, h2⟩
        refine ⟨0, ?_, ?_⟩
        · rw [len_tl y, hy]; simp
        · have : y = ⟨#[]⟩ := ext_tl hy
          subst this
          unfold Builtin.Str.subAt
          simp [Str.length]
    · constructor
      · rintro ⟨i, h1, h2⟩
        refine ⟨i, ?_, (at_iff hy i).mp ⟨h1, h2⟩⟩
        rw [← len_tl]; omega
      · rintro ⟨i, h1, h2⟩
        obtain ⟨h3, h4⟩ := (at_iff hy i).mpr h2
        exact ⟨i, h3, h4⟩
def D.sc : D → Bool
  | .non => true | .bl _ => true | .int _ => true | .str _ => true | _ => false
def inD (x : D) (ds : List D) : Bool := ds.any fun y => D.eqv y x
def valD {κ : Type} [DecidableEq κ] : List (κ × D) → κ → Option D
  | [], _ => none
  | (k', d) :: r, k => if k' = k then some d else valD r k
def keyD : D → Option Key
  | .int i => some (.inl i)
  | .str cs => some (.inr ⟨cs.toArray⟩)
  | _ => none
def keysD : List D → Option (List Key)
  | [] => some []
  | d :: ds => match keyD d, keysD ds with
    | some k, some ks => some (k :: ks)
    | _, _ => none
/-- what the dict at a holds under d (none: not asked rightly) -/
def dget (A : Ah) (a : Addr) (d : D) : Option (Option D) := match A a, d with
  | some (.dic kvs), .tup _ => none
  | some (.dic kvs), d => (keyD d).map fun k => valD kvs k
  | some (.dit kvs), .tup ds => (keysD ds).map fun k => valD kvs k
  | _, _ => none
def aIn : A2 := fun d e A q => match d, e with
  | .str a, .str b => q (.bl (inL a b)) A
  | d, .tup ds => d.sc = true ∧ ds.all D.sc = true ∧ q (.bl (inD d ds)) A
  | d, .ref a => match A a with
    | some (.lst ds) => d.sc = true ∧ ds.all D.sc = true ∧ q (.bl (inD d ds)) A
    | _ => match dget A a d with
      | some o => q (.bl o.isSome) A
      | none => False
  | _, _ => False
def aNotIn : A2 := fun d e A q => aIn d e A fun b A1 => match b with
  | .bl b => q (.bl (!b)) A1
  | _ => False
section
variable {K : Fg} {H : Hp}
theorem Val.flatV {v : V} {d : D} (h : Val K H v d) (hd : d.sc = true) : flatV v = true := by
  cases d <;> first | (cases h; rfl) | cases hd
theorem Vls.flatV {vs : List V} {ds : List D} (h : Vls K H vs ds) (hd : ds.all D.sc = true) : vs.all L2.flatV = true := by
  induction ds generalizing vs with
  | nil => cases h; rfl
  | cons d ds ih => cases h with
    | cons h t =>
      rw [List.all_cons, Bool.and_eq_true] at hd
      rw [List.all_cons, Bool.and_eq_true]
      exact ⟨h.flatV hd.1, ih t hd.2⟩
theorem Val.eqV {v w : V} {d e : D} (h : Val K H v d) (h' : Val K H w e) (hd : d.sc = true) (he : e.sc = true) : eqV v w = D.eqv d e := by
  cases d <;> cases e <;> first | (cases hd; done) | (cases he; done) | (cases h; cases h'; rfl) | skip
  cases h; cases h'
  show (_ == _) = (_ == _)
  rw [Bool.eq_iff_iff]
  simp only [beq_iff_eq]
  exact tl_inj
theorem Vls.inV {v : V} {d : D} (hv : Val K H v d) (hd : d.sc = true) : ∀ {vs : List V} {ds : List D}, Vls K H vs ds → ds.all D.sc = true → inV v vs = inD d ds
  | _, [], .nil, _ => rfl
  | _, e :: ds, .cons h t, hs => by
    rw [List.all_cons, Bool.and_eq_true] at hs
    have ih := Vls.inV hv hd t hs.2
    unfold L2.inV inD at ih ⊢
    rw [List.any_cons, List.any_cons, ih, h.eqV hv hs.1 hd]
end
section
variable {K : Fg}
abbrev rInS : R2 := fun x y H Q => ∃ i j, x = .str i ∧ y = .str j ∧ Q (.bl !(Builtin.Str.occurrences j i 0 j.length 1).isEmpty) H
abbrev rNiS : R2 := fun x y H Q => ∃ i j, x = .str i ∧ y = .str j ∧ Q (.bl !!(Builtin.Str.occurrences j i 0 j.length 1).isEmpty) H
/-- in, without dicts -/
def aInS : A2 := fun d e A q => match d, e with
  | .str a, .str b => q (.bl (inL a b)) A
  | d, .tup ds => d.sc = true ∧ ds.all D.sc = true ∧ q (.bl (inD d ds)) A
  | d, .ref a => onL A a fun ds => d.sc = true ∧ ds.all D.sc = true ∧ q (.bl (inD d ds)) A
  | _, _ => False
def aNiS : A2 := fun d e A q => match d, e with
  | .str a, .str b => q (.bl (!inL a b)) A
  | d, .tup ds => d.sc = true ∧ ds.all D.sc = true ∧ q (.bl (!inD d ds)) A
  | d, .ref a => onL A a fun ds => d.sc = true ∧ ds.all D.sc = true ∧ q (.bl (!inD d ds)) A
  | _, _ => False
theorem sim_in : Sim2 K (r2or rInS (rIn K false)) aInS := by
  intro H A v w d e q Q R hv hw h k
  unfold aInS at h
  split at h
  · obtain ⟨x, rfl, rfl⟩ := hv.inv_str
    obtain ⟨y, rfl, rfl⟩ := hw.inv_str
    refine .inl ⟨x, y, rfl, rfl, ?_⟩
    rw [inL_eq]
    exact k H _ _ A .rfl R (.bl _) h
  · obtain ⟨p, vs, rfl, hp, hvs⟩ := hw.inv_tup
    refine .inr ⟨p, vs, rfl, .inr hp, hv.flatV h.1, hvs.flatV h.2.1, ?_⟩
    rw [if_neg Bool.false_ne_true, Vls.inV hv h.1 hvs h.2.1]
    exact k H _ _ A .rfl R (.bl _) h.2.2
  · obtain ⟨xs, ha, h⟩ := onL_of h
    obtain ⟨vs, h1, r1⟩ := R.lst ha
    cases hw
    refine .inr ⟨_, vs, rfl, .inl (SqL.of h1), hv.flatV h.1, r1.flatV h.2.1, ?_⟩
    rw [if_neg Bool.false_ne_true, Vls.inV hv h.1 r1 h.2.1]
    exact k H _ _ A .rfl R (.bl _) h.2.2
  · exact h.elim
theorem sim_ni : Sim2 K (r2or rNiS (rIn K true)) aNiS := by
  intro H A v w d e q Q R hv hw h k
  unfold aNiS at h
  split at h
  · obtain ⟨x, rfl, rfl⟩ := hv.inv_str
    obtain ⟨y, rfl, rfl⟩ := hw.inv_str
    refine .inl ⟨x, y, rfl, rfl, ?_⟩
    rw [inL_eq]
    exact k H _ _ A .rfl R (.bl _) h
  · obtain ⟨p, vs, rfl, hp, hvs⟩ := hw.inv_tup
    refine .inr ⟨p, vs, rfl, .inr hp, hv.flatV h.1, hvs.flatV h.2.1, ?_⟩
    rw [if_pos rfl, Vls.inV hv h.1 hvs h.2.1]
    exact k H _ _ A .rfl R (.bl _) h.2.2
  · obtain ⟨xs, ha, h⟩ := onL_of h
    obtain ⟨vs, h1, r1⟩ := R.lst ha
    cases hw
    refine .inr ⟨_, vs, rfl, .inl (SqL.of h1), hv.flatV h.1, r1.flatV h.2.1, ?_⟩
    rw [if_pos rfl, Vls.inV hv h.1 r1 h.2.1]
    exact k H _ _ A .rfl R (.bl _) h.2.2
  · exact h.elim
def D.isNon : D → Bool
  | .non => true
  | _ => false
def aIs : A2 := fun d e A q => match e with
  | .non => q (.bl d.isNon) A
  | _ => False
def aIsNot : A2 := fun d e A q => match e with
  | .non => q (.bl (!d.isNon)) A
  | _ => False
theorem isNon_eq {H : Hp} {v : V} {d : D} (h : Val K H v d) : decide (v = .non) = d.isNon := by
  cases h <;> first | rfl | (rw [decide_eq_false (by intro z; cases z)]; rfl)
theorem sim_is : Sim2 K (fun x y H Q => y = .non ∧ Q (.bl (decide (x = .non))) H) aIs := by
  intro H A v w d e q Q R hv hw h k
  unfold aIs at h
  split at h
  · cases hw
    refine ⟨rfl, ?_⟩
    rw [isNon_eq hv]
    exact k H _ _ A .rfl R (.bl _) h
  · exact h.elim
theorem sim_isn : Sim2 K (fun x y H Q => y = .non ∧ Q (.bl !decide (x = .non)) H) aIsNot := by
  intro H A v w d e q Q R hv hw h k
  unfold aIsNot at h
  split at h
  · cases hw
    refine ⟨rfl, ?_⟩
    rw [isNon_eq hv]
    exact k H _ _ A .rfl R (.bl _) h
  · exact h.elim
/-! ### subscripts -/
def aIx : A2 := fun d e A q => match d, e with
  | .tup ds, .int i => ∃ f, atI ds i = some f ∧ q f A
  | .str cs, .int i => cs.length ≤ big ∧ ∃ c, atI cs i = some c ∧ q (.str [c]) A
  | .ref a, .int i => onL A a fun ds => ∃ f, atI ds i = some f ∧ q f A
  | _, _ => False
theorem Vls.atI {H : Hp} {vs : List V} {ds : List D} (h : Vls K H vs ds) {i : Int} {f : D} (e : L2.atI ds i = some f) : ∃ v, L2.atI vs i = some v ∧ Val K H v f := by
  unfold L2.atI at e ⊢
  rw [h.length]
  cases hx : ixN ds.length i with
  | none => rw [hx] at e; cases e
  | some j =>
    rw [hx] at e
    exact h.get e
theorem sim_ix : Sim2 K (rIx K) aIx := by
  intro H A v w d e q Q R hv hw h k
  unfold aIx at h
  split at h
  · obtain ⟨f, e, h⟩ := h
    obtain ⟨p, vs, rfl, hp, hvs⟩ := hv.inv_tup
    cases hw
    obtain ⟨z, e', hz⟩ := hvs.atI e
    exact .inr (.inl ⟨p, vs, _, z, rfl, rfl, hp, e', k H _ _ A .rfl R hz h⟩)
  · obtain ⟨hb, c, e, h⟩ := h
    obtain ⟨x, rfl, rfl⟩ := hv.inv_str
    cases hw
    exact .inr (.inr ⟨x, _, c, rfl, rfl, by rw [big_eq, len_tl]; exact hb, e, k H _ _ A .rfl R (.strOf rfl) h⟩)
  · obtain ⟨xs, ha, f, e, h⟩ := onL_of h
    obtain ⟨vs, h1, r1⟩ := R.lst ha
    cases hv; cases hw
    obtain ⟨z, e', hz⟩ := r1.atI e
    exact .inl ⟨_, vs, _, z, rfl, rfl, SqL.of h1, e', k H _ _ A .rfl R hz h⟩
  · exact h.elim
end
/-! ### the operators' rules -/
abbrev uAdd (K : Fg) : R2 := r2or (rI0 fun i j => .int (i + j)) (r2or (fun x y H Q => ∃ i j, x = .str i ∧ y = .str j ∧ i.length + j.length ≤ sizeLine ∧ Q (.str (i ++ j)) H) (r2or (rCatA K) rCat))
abbrev uSub : R2 := rI0 fun i j => .int (i - j)
abbrev uMul (K : Fg) : R2 := r2or (rI CMulW fun i j => .int (i * j)) (r2or rRepS (r2or rRep (rRepT K)))
abbrev uDiv : R2 := rI CDivW fun i j => .int (i / j)
abbrev uMod : R2 := rI (fun _ j => j ≠ 0) fun i j => .int (i.fmod j)
abbrev uPow : R2 := rI CPow fun i j => .int (i ^ j.toNat)
abbrev uLt : R2 := r2or (rI0 fun i j => .bl (decide (i < j))) fun x y H Q => ∃ i j, x = .str i ∧ y = .str j ∧ Q (.bl (decide (i.cps.toList < j.cps.toList))) H
abbrev uLe : R2 := r2or (rI0 fun i j => .bl (decide (i ≤ j))) fun x y H Q => ∃ i j, x = .str i ∧ y = .str j ∧ Q (.bl !decide (j.cps.toList < i.cps.toList)) H
abbrev uGt : R2 := r2or (rI0 fun i j => .bl (decide (j < i))) fun x y H Q => ∃ i j, x = .str i ∧ y = .str j ∧ Q (.bl (decide (j.cps.toList < i.cps.toList))) H
abbrev uGe : R2 := r2or (rI0 fun i j => .bl (decide (j ≤ i))) fun x y H Q => ∃ i j, x = .str i ∧ y = .str j ∧ Q (.bl !decide (i.cps.toList < j.cps.toList)) H
abbrev uEq (K : Fg) : R2 := r2or rEq (rEqD K)
abbrev uNe (K : Fg) : R2 := r2or rNe (rNeD K)
abbrev uIn (K : Fg) : R2 := r2or rInS (rIn K false)
abbrev uNi (K : Fg) : R2 := r2or rNiS (rIn K true)
abbrev uIs : R2 := fun x y H Q => y = .non ∧ Q (.bl (decide (x = .non))) H
abbrev uIsn : R2 := fun x y H Q => y = .non ∧ Q (.bl !decide (x = .non)) H

section
variable {X : Cx} {W : WX} {a b c : Expr} {ta tb tc : TE} {aa ab ac : AE} {pos : Pos}
theorem ga_bin {op : Operator} {r : R2} {ar : A2} (ho : OpR X (binaryOp op) r) (hs : Sim2 X.K r ar) (ha : PEA X W a ta aa) (hb : PEA X W b tb ab) : PEA X W (.BinOp a op b pos) (tOp r ta tb) (aOp ar aa ab) :=
  ⟨pe_op ho ha.pe hb.pe, sim_op hs ha.sim hb.sim⟩
theorem ga_add (ha : PEA X W a ta aa) (hb : PEA X W b tb ab) : PEA X W (.BinOp a .Add b pos) (tOp (uAdd X.K) ta tb) (aOp aAdd aa ab) := ga_bin op_addU sim_add ha hb
theorem ga_sub (ha : PEA X W a ta aa) (hb : PEA X W b tb ab) : PEA X W (.BinOp a .Sub b pos) (tOp uSub ta tb) (aOp aSub aa ab) := ga_bin op_sub sim_sub ha hb
theorem ga_mul (ha : PEA X W a ta aa) (hb : PEA X W b tb ab) : PEA X W (.BinOp a .Mult b pos) (tOp (uMul X.K) ta tb) (aOp aMul aa ab) := ga_bin (opR_or op_mulW (opR_or op_repS (opR_or op_rep op_repT))) sim_mul ha hb
theorem ga_div (ha : PEA X W a ta aa) (hb : PEA X W b tb ab) : PEA X W (.BinOp a .FloorDiv b pos) (tOp uDiv ta tb) (aOp aDiv aa ab) := ga_bin op_fdivW sim_div ha hb
theorem ga_mod (ha : PEA X W a ta aa) (hb : PEA X W b tb ab) : PEA X W (.BinOp a .Mod b pos) (tOp uMod ta tb) (aOp aMod aa ab) := ga_bin op_modN sim_mod ha hb
theorem ga_pow (ha : PEA X W a ta aa) (hb : PEA X W b tb ab) : PEA X W (.BinOp a .Pow b pos) (tOp uPow ta tb) (aOp aPow aa ab) := ga_bin op_pow sim_pow ha hb
/-- one comparison -/
structure CmpA (X : Cx) (op : CmpOp) (r : R2) (ar : A2) : Prop where
  op : OpR X (compareOp op) r
  sim : Sim2 X.K r ar
theorem ca_lt : CmpA X .Lt uLt aLt := ⟨op_ltU, sim_lt⟩
theorem ca_le : CmpA X .LtE uLe aLe := ⟨op_leU, sim_le⟩
theorem ca_gt : CmpA X .Gt uGt aGt := ⟨op_gtU, sim_gt⟩
theorem ca_ge : CmpA X .GtE uGe aGe := ⟨op_geU, sim_ge⟩
theorem ca_eq (hu : X.A.units + 64 < cLine) : CmpA X .Eq (uEq X.K) aEq := ⟨opR_or op_eq (op_eqD hu), sim_eq⟩
theorem ca_ne (hu : X.A.units + 64 < cLine) : CmpA X .NotEq (uNe X.K) aNe := ⟨opR_or op_ne (op_neD hu), sim_ne⟩
theorem ca_in : CmpA X .In (uIn X.K) aInS := ⟨opR_or op_in_str op_in_seq, sim_in⟩
theorem ca_ni : CmpA X .NotIn (uNi X.K) aNiS := ⟨opR_or op_notin_str op_notIn_seq, sim_ni⟩
theorem ca_is : CmpA X .Is uIs aIs := ⟨op_isN, sim_is⟩
theorem ca_isn : CmpA X .IsNot uIsn aIsNot := ⟨op_notN, sim_isn⟩
theorem ga_cmp {op : CmpOp} {r : R2} {ar : A2} (c : CmpA X op r ar) (ha : PEA X W a ta aa) (hb : PEA X W b tb ab) (h1 : behindInMarks op b = false := by first | exact nobehind _ (by decide) (by decide) | rfl) :
    PEA X W (.Compare a [op] [b] pos) (tOp r ta tb) (aOp ar aa ab) := ⟨pe_cmpR c.op ha.pe hb.pe h1, sim_op c.sim ha.sim hb.sim⟩
def aChain (r r' : A2) (a b c : AE) : AE := fun Γ A q x => a Γ A (fun d A1 => b Γ A1 (fun e A2 => r d e A2 fun z A3 => match z with
  | .bl t => bsel t (c Γ A3 (fun f A4 => r' e f A4 q) x) (q (.bl false) A3)
  | _ => False) x) x
theorem ga_chain {op op' : CmpOp} {r r' : R2} {ar ar' : A2} (c1 : CmpA X op r ar) (c2 : CmpA X op' r' ar') (ha : PEA X W a ta aa) (hb : PEA X W b tb ab) (hc : PEA X W c tc ac) (h1 : lastMarks [op, op'] [b, c] = false := by rfl) :
    PEA X W (.Compare a [op, op'] [b, c] pos) (tChain r r' ta tb tc) (aChain ar ar' aa ab ac) where
  pe := pe_chain c1.op c2.op ha.pe hb.pe hc.pe h1
  sim := fun σ H Γ A q x Q R S h k kx => ha.sim σ H Γ A _ x _ R S h (fun H1 v d A1 n1 R1 v1 h1 => hb.sim σ H1 Γ A1 _ x _ R1 (S.mono n1) h1
    (fun H2 w e A2 n2 R2 v2 h2 => c1.sim H2 A2 v w d e _ _ R2 (v1.mono n2) v2 h2 fun H3 z f A3 n3 R3 v3 h3 => by
      cases f with
      | bl b =>
        cases v3
        refine ⟨b, rfl, ?_⟩
        cases b with
        | true =>
          exact hc.sim σ H3 Γ A3 _ x _ R3 (S.mono ((n1.trans n2).trans n3)) (h3.1 rfl) (fun H4 y g A4 n4 R4 v4 h4 => c2.sim H4 A4 w y e g q Q R4 ((v2.mono n3).mono n4) v4 h4
            fun H5 z f A5 n5 R5 v5 h5 => k H5 z f A5 ((((n1.trans n2).trans n3).trans n4).trans n5) R5 v5 h5) fun H4 e A4 n4 R4 h4 => kx H4 e A4 (((n1.trans n2).trans n3).trans n4) R4 h4
        | false => exact k H3 _ _ A3 ((n1.trans n2).trans n3) R3 (.bl false) (h3.2 rfl)
      | _ => exact h3.elim)
    (fun H2 e A2 n2 R2 h2 => kx H2 e A2 (n1.trans n2) R2 h2)) kx
theorem ga_ix (ha : PEA X W a ta aa) (hb : PEA X W b tb ab) (hs : PlainIx b := by exact fun _ _ => rfl) : PEA X W (.Subscript a b pos) (tOp (rIx X.K) ta tb) (aOp aIx aa ab) := ⟨pe_ix ix_seq ha.pe hb.pe hs, sim_op sim_ix ha.sim hb.sim⟩
def aNeg (a : AE) : AE := fun Γ A q x => a Γ A (fun d A1 => match d with
  | .int i => q (.int (-i)) A1
  | _ => False) x
theorem ga_neg (ha : PEA X W a ta aa) : PEA X W (.UnaryOp .USub a pos) (tUn (rU fun i => .int (-i)) ta) (aNeg aa) where
  pe := pe_un un_neg ha.pe
  sim := fun σ H Γ A q x Q R S h k kx => ha.sim σ H Γ A _ x _ R S h (fun H1 v d A1 n1 R1 v1 h1 => by
    cases d with
    | int i => cases v1; exact ⟨i, rfl, k H1 _ _ A1 n1 R1 (.int _) h1⟩
    | _ => exact h1.elim) kx
/-! ### tests -/
def aTest (a : AE) : AT := fun Γ A q x => a Γ A (fun d A1 => match d with
  | .bl b => q b A1
  | _ => False) x
theorem sim_test {K : Fg} {te : TE} {ae : AE} (h : SimE K W te ae) : SimT K W (tB te) (aTest ae) := fun σ H Γ A q x Q R S ht k kx => h σ H Γ A _ x _ R S ht (fun H1 v d A1 n1 R1 v1 h1 => by
  cases d with
  | bl b => cases v1; exact ⟨b, rfl, k H1 b A1 n1 R1 h1⟩
  | _ => exact h1.elim) kx
/-- a test that is an expression giving True or False -/
theorem gt_val {e : Expr} {te : TE} {ae : AE} (h : PEA X W e te ae) (he : ∀ whole, isTrue e X.env whole = (do let v ← whole; standAt e.pos; holding [v] (truthy v)) := by intro _; rfl) : PTA X W e (tB te) (aTest ae) :=
  ⟨pt_val h.pe he, sim_test h.sim⟩
theorem gt_cmp {op : CmpOp} {r : R2} {ar : A2} (c : CmpA X op r ar) (ha : PEA X W a ta aa) (hb : PEA X W b tb ab) (h1 : behindInMarks op b = false := by first | exact nobehind _ (by decide) (by decide) | rfl) :
    PTA X W (.Compare a [op] [b] pos) (tTest (tOp r ta tb)) (aTest (aOp ar aa ab)) := ⟨pt_cmpR c.op ha.pe hb.pe h1, sim_test (sim_op c.sim ha.sim hb.sim)⟩
theorem gt_chain {op op' : CmpOp} {r r' : R2} {ar ar' : A2} (c1 : CmpA X op r ar) (c2 : CmpA X op' r' ar') (ha : PEA X W a ta aa) (hb : PEA X W b tb ab) (hc : PEA X W c tc ac) (h1 : lastMarks [op, op'] [b, c] = false := by rfl) :
    PTA X W (.Compare a [op, op'] [b, c] pos) (tTest (tChain r r' ta tb tc)) (aTest (aChain ar ar' aa ab ac)) := ⟨pt_chain c1.op c2.op ha.pe hb.pe hc.pe h1, sim_test (ga_chain (pos := pos) c1 c2 ha hb hc h1).sim⟩
def aAndT (s t : AT) : AT := fun Γ A q x => s Γ A (fun b A1 => bsel b (t Γ A1 q x) (q false A1)) x
def aOrT (s t : AT) : AT := fun Γ A q x => s Γ A (fun b A1 => bsel b (q true A1) (t Γ A1 q x)) x
def aNotT (s : AT) : AT := fun Γ A q x => s Γ A (fun b A1 => q (!b) A1) x
variable {s t : TT} {as' at' : AT} {rest : List Expr}
theorem gw_and1 (h : PTA X W a s as') : PWA X W (.BoolOp .And [a] pos) s as' := ⟨pw_and1 h.pe, h.sim⟩
theorem gw_or1 (h : PTA X W a s as') : PWA X W (.BoolOp .Or [a] pos) s as' := ⟨pw_or1 h.pe, h.sim⟩
theorem gw_and (h : PTA X W a s as') (h2 : PWA X W (.BoolOp .And (b :: rest) pos) t at') : PWA X W (.BoolOp .And (a :: b :: rest) pos) (tAnd s t) (aAndT as' at') where
  pe := pw_and h.pe h2.pe
  sim := fun σ H Γ A q x Q R S ht k kx => h.sim σ H Γ A _ x _ R S ht (fun H1 c A1 n1 R1 h1 => by
    cases c with
    | true => exact h2.sim σ H1 Γ A1 q x Q R1 (S.mono n1) (h1.1 rfl) (fun H2 b A2 n2 R2 h2 => k H2 b A2 (n1.trans n2) R2 h2) fun H2 e A2 n2 R2 h2 => kx H2 e A2 (n1.trans n2) R2 h2
    | false => exact k H1 false A1 n1 R1 (h1.2 rfl)) kx
theorem gw_or (h : PTA X W a s as') (h2 : PWA X W (.BoolOp .Or (b :: rest) pos) t at') : PWA X W (.BoolOp .Or (a :: b :: rest) pos) (tOr s t) (aOrT as' at') where
  pe := pw_or h.pe h2.pe
  sim := fun σ H Γ A q x Q R S ht k kx => h.sim σ H Γ A _ x _ R S ht (fun H1 c A1 n1 R1 h1 => by
    cases c with
    | true => exact k H1 true A1 n1 R1 (h1.1 rfl)
    | false => exact h2.sim σ H1 Γ A1 q x Q R1 (S.mono n1) (h1.2 rfl) (fun H2 b A2 n2 R2 h2 => k H2 b A2 (n1.trans n2) R2 h2) fun H2 e A2 n2 R2 h2 => kx H2 e A2 (n1.trans n2) R2 h2) kx
theorem gt_bool {e : Expr} (h : PWA X W e s as') : PTA X W e s as' := ⟨h.pe.pt, h.sim⟩
theorem gt_not (h : PTA X W a s as') : PTA X W (.UnaryOp .Not a pos) (tNot s) (aNotT as') where
  pe := pt_not h.pe
  sim := fun σ H Γ A q x Q R S ht k kx => h.sim σ H Γ A _ x _ R S ht (fun H1 c A1 n1 R1 h1 => k H1 _ A1 n1 R1 h1) kx
/-- bool operators as values: all but the last True or False -/
def aAndV (a b : AE) : AE := fun Γ A q x => a Γ A (fun d A1 => match d with
  | .bl t => bsel t (b Γ A1 q x) (q (.bl false) A1)
  | _ => False) x
def aOrV (a b : AE) : AE := fun Γ A q x => a Γ A (fun d A1 => match d with
  | .bl t => bsel t (q (.bl true) A1) (b Γ A1 q x)
  | _ => False) x
def aNotV (a : AE) : AE := fun Γ A q x => a Γ A (fun d A1 => match d with
  | .bl b => q (.bl (!b)) A1
  | _ => False) x
theorem ga_one {op} (h : PEA X W a ta aa) : PEA X W (.BoolOp op [a] pos) ta aa := ⟨pe_one h.pe, h.sim⟩
theorem ga_and (ha : PEA X W a ta aa) (hb : PEA X W (.BoolOp .And (b :: rest) pos) tb ab) : PEA X W (.BoolOp .And (a :: b :: rest) pos) (tAndV ta tb) (aAndV aa ab) where
  pe := pe_and ha.pe hb.pe
  sim := fun σ H Γ A q x Q R S h k kx => ha.sim σ H Γ A _ x _ R S h (fun H1 v d A1 n1 R1 v1 h1 => by
    cases d with
    | bl b =>
      cases v1
      refine ⟨b, rfl, ?_⟩
      cases b with
      | true => exact hb.sim σ H1 Γ A1 q x Q R1 (S.mono n1) (h1.1 rfl) (fun H2 v d A2 n2 R2 v2 h2 => k H2 v d A2 (n1.trans n2) R2 v2 h2) fun H2 e A2 n2 R2 h2 => kx H2 e A2 (n1.trans n2) R2 h2
      | false => exact k H1 _ _ A1 n1 R1 (.bl false) (h1.2 rfl)
    | _ => exact h1.elim) kx
theorem ga_or (ha : PEA X W a ta aa) (hb : PEA X W (.BoolOp .Or (b :: rest) pos) tb ab) : PEA X W (.BoolOp .Or (a :: b :: rest) pos) (tOrV ta tb) (aOrV aa ab) where
  pe := pe_or ha.pe hb.pe
  sim := fun σ H Γ A q x Q R S h k kx => ha.sim σ H Γ A _ x _ R S h (fun H1 v d A1 n1 R1 v1 h1 => by
    cases d with
    | bl b =>
      cases v1
      refine ⟨b, rfl, ?_⟩
      cases b with
      | false => exact hb.sim σ H1 Γ A1 q x Q R1 (S.mono n1) (h1.2 rfl) (fun H2 v d A2 n2 R2 v2 h2 => k H2 v d A2 (n1.trans n2) R2 v2 h2) fun H2 e A2 n2 R2 h2 => kx H2 e A2 (n1.trans n2) R2 h2
      | true => exact k H1 _ _ A1 n1 R1 (.bl true) (h1.1 rfl)
    | _ => exact h1.elim) kx
theorem ga_not (ha : PEA X W a ta aa) : PEA X W (.UnaryOp .Not a pos) (tNotV ta) (aNotV aa) where
  pe := pe_not ha.pe
  sim := fun σ H Γ A q x Q R S h k kx => ha.sim σ H Γ A _ x _ R S h (fun H1 v d A1 n1 R1 v1 h1 => by
    cases d with
    | bl b => cases v1; exact ⟨b, rfl, k H1 _ _ A1 n1 R1 (.bl _) h1⟩
    | _ => exact h1.elim) kx
def aIfE (t : AT) (a b : AE) : AE := fun Γ A q x => t Γ A (fun c A1 => bsel c (a Γ A1 q x) (b Γ A1 q x)) x
theorem ga_if (ht : PTA X W c s as') (ha : PEA X W a ta aa) (hb : PEA X W b tb ab) : PEA X W (.IfExp c a b pos) (tIf s ta tb) (aIfE as' aa ab) where
  pe := pe_ifExp ht.pe ha.pe hb.pe
  sim := fun σ H Γ A q x Q R S h k kx => ht.sim σ H Γ A _ x _ R S h (fun H1 c A1 n1 R1 h1 => by
    cases c with
    | true => exact ha.sim σ H1 Γ A1 q x Q R1 (S.mono n1) (h1.1 rfl) (fun H2 v d A2 n2 R2 v2 h2 => k H2 v d A2 (n1.trans n2) R2 v2 h2) fun H2 e A2 n2 R2 h2 => kx H2 e A2 (n1.trans n2) R2 h2
    | false => exact hb.sim σ H1 Γ A1 q x Q R1 (S.mono n1) (h1.2 rfl) (fun H2 v d A2 n2 R2 v2 h2 => k H2 v d A2 (n1.trans n2) R2 v2 h2) fun H2 e A2 n2 R2 h2 => kx H2 e A2 (n1.trans n2) R2 h2) kx
end
end GA

namespace GA
open PySem PySem.Spec PyProof.Rows L2 GV TL
section
variable {X : Cx} {W : WX} {a b c e o : Expr} {es : List Expr} {ta tb tc te to : TE} {aa ab ac ae ao : AE} {t : TA} {at_ : AA} {pos apos cpos p : Pos}
/-! ### arguments, displays -/
def aNil : AA := fun _ A q _ => q [] A
def aCons (a : AE) (r : AA) : AA := fun Γ A q x => a Γ A (fun d A1 => r Γ A1 (fun ds A2 => q (d :: ds) A2) x) x
theorem gs_nil : PAA X W [] tNil aNil := ⟨pa_nil, fun σ H Γ A q x Q R S h k _ => k H [] [] A .rfl R .nil h⟩
theorem gs_cons (ha : PEA X W e te ae) (hr : PAA X W es t at_) (he : starEach (e :: es) X.env = (false, eval e X.env) :: starEach es X.env := by rfl) : PAA X W (e :: es) (tCons te t) (aCons ae at_) where
  pe := pa_cons ha.pe hr.pe he
  sim := fun σ H Γ A q x Q R S h k kx => ha.sim σ H Γ A _ x _ R S h (fun H1 v d A1 n1 R1 v1 h1 => hr.sim σ H1 Γ A1 _ x _ R1 (S.mono n1) h1
    (fun H2 vs ds A2 n2 R2 v2 h2 => k H2 _ _ A2 (n1.trans n2) R2 (.cons (v1.mono n2) v2) h2) fun H2 e A2 n2 R2 h2 => kx H2 e A2 (n1.trans n2) R2 h2) kx
def aTup (as : AA) : AE := fun Γ A q x => as Γ A (fun ds A1 => ds.length ≤ big ∧ q (.tup ds) A1) x
theorem ga_tup {k0 : Nat} (h : PAA X W es t at_) : PEA X W (.Tuple es k0 pos) (tTup t) (aTup at_) where
  pe := pe_tup h.pe
  sim := fun σ H Γ A q x Q R S hh k kx => h.sim σ H Γ A _ x _ R S hh (fun H1 vs ds A1 n1 R1 v1 h1 =>
    ⟨by rw [big_eq, v1.length]; exact h1.1, fun p hp => k _ _ _ A1 (n1.trans (.new hp)) (R1.ext hp) (.tup (SqT.of upd_same) (v1.mono (.new hp))) h1.2⟩) kx
def aLst (as : AA) : AE := fun Γ A q x => as Γ A (fun ds A1 => ds.length ≤ big ∧ newL A1 ds q) x
theorem ga_lst (h : PAA X W es t at_) : PEA X W (.List es pos) (tLst t) (aLst at_) where
  pe := pe_lst h.pe
  sim := fun σ H Γ A q x Q R S hh k kx => h.sim σ H Γ A _ x _ R S hh (fun H1 vs ds A1 n1 R1 v1 h1 =>
    ⟨by rw [big_eq, v1.length]; exact h1.1, fun p hp => k _ _ _ _ (n1.trans (.new hp)) (R1.new hp (.lst v1)) (.ref p) (h1.2 p (R1.none hp))⟩) kx
/-! ### calls of own defs -/
abbrev ASp := List D → Ah → (D → Ah → Prop) → AX → Prop
/-- a promise over abstract values as a promise of HandS -/
def lift (K : Fg) (sp : ASp) : Sp := fun vs H Q E => ∃ (A : Ah) (ds : List D) (q : D → Ah → Prop) (x : AX), RelA K H A ∧ Vls K H vs ds ∧ sp ds A q x ∧
  (∀ H' v d A', Nxt K H H' → RelA K H' A' → Val K H' v d → q d A' → Q v H') ∧ ∀ H' e A', Nxt K H H' → RelA K H' A' → x e A' → E (exC K e) (some e.d) H'
def aCall (sp : ASp) (as : AA) : AE := fun Γ A q x => as Γ A (fun ds A1 => sp ds A1 q x) x
theorem sim_call {K : Fg} {sp : ASp} (h : SimA K W t at_) : SimE K W (tCallS (lift K sp) (WE W) t) (aCall sp at_) := fun σ H Γ A q x Q R S hh k kx =>
  h σ H Γ A _ x _ R S hh (fun H1 vs ds A1 n1 R1 v1 h1 => ⟨A1, ds, q, x, R1, v1, h1, fun H2 v d A2 n2 R2 v2 h2 => k H2 v d A2 (n1.trans n2) R2 v2 h2, fun H2 e A2 n2 R2 h2 => kx H2 e A2 (n1.trans n2) R2 h2⟩) kx
abbrev FnA (P : Program) (w : World) (K : Fg) (mg : Str → Option Value) (base : Heap) (k : Nat) (f : Addr) (fd : FuncData) (ps : List Str) (sp : ASp) : Prop := FnOk P w K mg base (L2N.CX P w) k f fd ps (lift K sp)
/-- what the text says of a def that is called -/
structure Fn0 (P : Program) (w : World) (K : Fg) (mg : Str → Option Value) (base : Heap) (x : Str) (k : Nat) (sp : ASp) : Prop where
  ex : ∃ (f : Addr) (fd : FuncData) (ps : List Str), FnA P w K mg base k f fd ps sp ∧ mg x = some (.ref f) ∧ PySem.W.keepIn K (.ref f) = true ∧ Binds K fd ps []
abbrev Fnd (X : Cx) (x : Str) (k : Nat) (sp : ASp) : Prop := Fn0 X.prog X.w X.K X.mg X.base x k sp
theorem ga_call {k : Nat} {x : Str} {sp : ASp} (F : Fnd X x k sp) (hr : Room k X.A) (tk : L2N.Takes X W) (h : PAA X W (e :: es) t at_) (hg : Gl X x := by rfl) (hdb : (x == ("__debug__" : Str)) = false := by decide)
    (he : starEach (e :: es) X.env = (false, eval e X.env) :: starEach es X.env := by rfl) (hpl : (backTo pos (starEach es X.env)).any (·.1) = false := by rfl) :
    PEA X W (.Call (.Name x p) (e :: es) [] pos) (tCallS (lift X.K sp) (WE W) t) (aCall sp at_) := by
  obtain ⟨f, fd, ps, F, hm, hk, hb⟩ := F.ex
  exact ⟨pe_callS F hr hg hm hk hb (fun σ => L2N.passAt tk σ) h.pe hdb he hpl, sim_call h.sim⟩
theorem ga_call0 {k : Nat} {x : Str} {sp : ASp} (F : Fnd X x k sp) (hr : Room k X.A) (tk : L2N.Takes X W) (hg : Gl X x := by rfl) (hdb : (x == ("__debug__" : Str)) = false := by decide) :
    PEA X W (.Call (.Name x p) [] [] pos) (tCallS (lift X.K sp) (WE W) tNil) (aCall sp aNil) := by
  obtain ⟨f, fd, ps, F, hm, hk, hb⟩ := F.ex
  refine ⟨⟨fun pins s σ H Q I h => ?_⟩, sim_call gs_nil.sim⟩
  refine wpAny_Call_Name_kw (ld_glob I hg hm ?_ hdb)
  exact PySem.W.callWith_K0 I.kIn hk (run_fnS (us := []) (vs := []) F hr hb (L2N.passAt tk σ) I .nil h)
/-! ### calls of built-ins -/
abbrev A1c := List D → Ah → (D → Ah → Prop) → Prop
def SimC (K : Fg) (r : List V → Hp → VK → Prop) (ar : A1c) : Prop := ∀ (H : Hp) (A : Ah) (vs : List V) (ds : List D) (q : D → Ah → Prop) (Q : VK), RelA K H A → Vls K H vs ds → ar ds A q →
  (∀ H' z f A', Nxt K H H' → RelA K H' A' → Val K H' z f → q f A' → Q z H') → r vs H Q
def aBlt (r : A1c) (as : AA) : AE := fun Γ A q x => as Γ A (fun ds A1 => r ds A1 q) x
theorem sim_blt {K : Fg} {r : List V → Hp → VK → Prop} {ar : A1c} (hr : SimC K r ar) (h : SimA K W t at_) : SimE K W (tCB r t) (aBlt ar at_) := fun σ H Γ A q x Q R S hh k kx =>
  h σ H Γ A _ x _ R S hh (fun H1 vs ds A1 n1 R1 v1 h1 => hr H1 A1 vs ds q Q R1 v1 h1 fun H2 z f A2 n2 R2 v2 h2 => k H2 z f A2 (n1.trans n2) R2 v2 h2) kx
/-- a built-in function | class by its name -/
structure BltA (X : Cx) (u : Value) (r : List V → Hp → VK → Prop) (ar : A1c) : Prop where
  op : CallR X u r
  sim : SimC X.K r ar
theorem ga_blt {x : Str} {id : String} {r : List V → Hp → VK → Prop} {ar : A1c} (B : BltA X (.builtin id) r ar) (hm : X.mg x = none) (h : PAA X W (e :: es) t at_) (hv : bootBuiltins x = some (.builtin id) := by decide +kernel) (hg : Gl X x := by rfl)
    (hn : x ≠ "__name__" := by decide) (hdb : (x == ("__debug__" : Str)) = false := by decide)
    (he : starEach (e :: es) X.env = (false, eval e X.env) :: starEach es X.env := by rfl) (hpl : (backTo pos (starEach es X.env)).any (·.1) = false := by rfl) : PEA X W (.Call (.Name x p) (e :: es) [] pos) (tCB r t) (aBlt ar at_) :=
  ⟨pe_callB B.op hg hm hv h.pe hn hdb he hpl, sim_blt B.sim h.sim⟩
theorem ga_bty {x : Str} {T : String} {r : List V → Hp → VK → Prop} {ar : A1c} (B : BltA X (.type T) r ar) (hm : X.mg x = none) (h : PAA X W (e :: es) t at_) (hv : bootBuiltins x = some (.type T) := by decide +kernel) (hg : Gl X x := by rfl)
    (hn : x ≠ "__name__" := by decide) (hdb : (x == ("__debug__" : Str)) = false := by decide)
    (he : starEach (e :: es) X.env = (false, eval e X.env) :: starEach es X.env := by rfl) (hpl : (backTo pos (starEach es X.env)).any (·.1) = false := by rfl) : PEA X W (.Call (.Name x p) (e :: es) [] pos) (tCB r t) (aBlt ar at_) :=
  ⟨pe_callTy B.op hg hm hv h.pe hn hdb he hpl, sim_blt B.sim h.sim⟩
def rcor (r r' : List V → Hp → VK → Prop) : List V → Hp → VK → Prop := fun xs H Q => r xs H Q ∨ r' xs H Q
theorem callR_or {f : Value} {r r' : List V → Hp → VK → Prop} (h : CallR X f r) (h' : CallR X f r') : CallR X f (rcor r r') := by
  intro pins s σ H xs us Q I rv q
  rcases q with q | q
  · exact h pins s σ H xs us Q I rv q
  · exact h' pins s σ H xs us Q I rv q
end
section
variable {K : Fg}
def aLen : A1c := fun ds A q => match ds with
  | [.str cs] => cs.length ≤ big ∧ q (.int cs.length) A
  | [.tup xs] => q (.int xs.length) A
  | [.ref a] => onL A a fun xs => q (.int xs.length) A
  | _ => False
theorem Vls.one {H : Hp} {vs : List V} {d : D} (h : Vls K H vs [d]) : ∃ v, vs = [v] ∧ Val K H v d := by
  cases h with
  | cons h t => cases t; exact ⟨_, rfl, h⟩
theorem Vls.two {H : Hp} {vs : List V} {d e : D} (h : Vls K H vs [d, e]) : ∃ v w, vs = [v, w] ∧ Val K H v d ∧ Val K H w e := by
  cases h with
  | cons h t => cases t with
    | cons h' t => cases t; exact ⟨_, _, rfl, h, h'⟩
theorem sim_len : SimC K (fun xs H Q => ∃ x n, xs = [x] ∧ LenV K x H n ∧ Q (.int n) H) aLen := by
  intro H A vs ds q Q R hv h k
  unfold aLen at h
  split at h
  · obtain ⟨v, rfl, h1⟩ := hv.one
    obtain ⟨x, rfl, rfl⟩ := h1.inv_str
    refine ⟨_, x.length, rfl, ⟨by rw [big_eq, len_tl]; exact h.1, rfl⟩, ?_⟩
    have := k H _ _ A .rfl R (.int _) h.2
    rw [len_tl]; exact this
  · obtain ⟨v, rfl, h1⟩ := hv.one
    obtain ⟨p, vs, rfl, hp, hvs⟩ := h1.inv_tup
    refine ⟨_, vs.length, rfl, .inr ⟨vs, hp, rfl⟩, ?_⟩
    have := k H _ _ A .rfl R (.int _) h
    rw [hvs.length]; exact this
  · obtain ⟨v, rfl, h1⟩ := hv.one
    obtain ⟨xs, ha, h⟩ := onL_of h
    obtain ⟨ws, e1, r1⟩ := R.lst ha
    cases h1
    refine ⟨_, ws.length, rfl, .inl ⟨ws, SqL.of e1, rfl⟩, ?_⟩
    have := k H _ _ A .rfl R (.int _) h
    rw [r1.length]; exact this
  · exact h.elim
def aInt : A1c := fun ds A q => match ds with
  | [.int i] => q (.int i) A
  | [.bl b] => q (.int (if b = true then 1 else 0)) A
  | _ => False
theorem sim_int : SimC K (fun xs H Q => (∃ i, xs = [V.int i] ∧ Q (V.int i) H) ∨ ∃ k, xs = [V.bl k] ∧ Q (V.int (if k = true then 1 else 0)) H) aInt := by
  intro H A vs ds q Q R hv h k
  unfold aInt at h
  split at h
  · obtain ⟨v, rfl, h1⟩ := hv.one
    cases h1
    exact .inl ⟨_, rfl, k H _ _ A .rfl R (.int _) h⟩
  · obtain ⟨v, rfl, h1⟩ := hv.one
    cases h1
    exact .inr ⟨_, rfl, k H _ _ A .rfl R (.int _) h⟩
  · exact h.elim
def aAbs : A1c := fun ds A q => match ds with
  | [.int i] => q (.int (if i < 0 then -i else i)) A
  | _ => False
theorem sim_abs : SimC K (fun xs H Q => ∃ i, xs = [V.int i] ∧ Q (V.int (if i < 0 then -i else i)) H) aAbs := by
  intro H A vs ds q Q R hv h k
  unfold aAbs at h
  split at h
  · obtain ⟨v, rfl, h1⟩ := hv.one
    cases h1
    exact ⟨_, rfl, k H _ _ A .rfl R (.int _) h⟩
  · exact h.elim
def decN (i : Int) : List Nat := tl (Str.ofString (toString i))
def aStr : A1c := fun ds A q => match ds with
  | [.int i] => i.natAbs.log2 < 1920 ∧ q (.str (decN i)) A
  | _ => False
theorem sim_str : SimC K (fun xs H Q => ∃ i, xs = [V.int i] ∧ i.natAbs.log2 < 1920 ∧ Q (V.str (Str.ofString (toString i))) H) aStr := by
  intro H A vs ds q Q R hv h k
  unfold aStr at h
  split at h
  · obtain ⟨v, rfl, h1⟩ := hv.one
    cases h1
    exact ⟨_, rfl, h.1, k H _ _ A .rfl R (.strOf rfl) h.2⟩
  · exact h.elim
def aMin2 : A1c := fun ds A q => match ds with
  | [.int i, .int j] => q (.int (if j < i then j else i)) A
  | _ => False
theorem sim_min2 : SimC K (fun xs H Q => ∃ i j, xs = [V.int i, V.int j] ∧ Q (V.int (if j < i then j else i)) H) aMin2 := by
  intro H A vs ds q Q R hv h k
  unfold aMin2 at h
  split at h
  · obtain ⟨v, w, rfl, h1, h2⟩ := hv.two
    cases h1; cases h2
    exact ⟨_, _, rfl, k H _ _ A .rfl R (.int _) h⟩
  · exact h.elim
def aMax2 : A1c := fun ds A q => match ds with
  | [.int i, .int j] => q (.int (if j > i then j else i)) A
  | _ => False
theorem sim_max2 : SimC K (fun xs H Q => ∃ i j, xs = [V.int i, V.int j] ∧ Q (V.int (if j > i then j else i)) H) aMax2 := by
  intro H A vs ds q Q R hv h k
  unfold aMax2 at h
  split at h
  · obtain ⟨v, w, rfl, h1, h2⟩ := hv.two
    cases h1; cases h2
    exact ⟨_, _, rfl, k H _ _ A .rfl R (.int _) h⟩
  · exact h.elim
/-- list(xs) -/
def aList : A1c := fun ds A q => match ds with
  | [.tup xs] => newL A xs q
  | [.lof xs] => newL A xs q
  | [.ref a] => onL A a fun xs => newL A xs q
  | _ => False
theorem sim_list : SimC K (fun xs H Q => ∃ p ys, xs = [V.ref p] ∧ (SqL K H p ys ∨ SqT K H p ys) ∧ ∀ (l : Addr), H l = none → Q (V.ref l) (upd H l (HO.lst ys))) aList := by
  intro H A vs ds q Q R hv h k
  unfold aList at h
  split at h
  · obtain ⟨v, rfl, h1⟩ := hv.one
    obtain ⟨p, vs, rfl, hp, hvs⟩ := h1.inv_tup
    exact ⟨p, vs, rfl, .inr hp, fun l hl => k _ _ _ _ (.new hl) (R.new hl (.lst hvs)) (.ref l) (h l (R.none hl))⟩
  · obtain ⟨v, rfl, h1⟩ := hv.one
    obtain ⟨p, vs, rfl, hp, hvs⟩ := h1.inv_lof
    exact ⟨p, vs, rfl, .inl hp.seq, fun l hl => k _ _ _ _ (.new hl) (R.new hl (.lst hvs)) (.ref l) (h l (R.none hl))⟩
  · obtain ⟨v, rfl, h1⟩ := hv.one
    obtain ⟨xs, ha, h⟩ := onL_of h
    obtain ⟨ws, e1, r1⟩ := R.lst ha
    cases h1
    exact ⟨_, ws, rfl, .inl (SqL.of e1), fun l hl => k _ _ _ _ (.new hl) (R.new hl (.lst r1)) (.ref l) (h l (R.none hl))⟩
  · exact h.elim
def aTuple : A1c := fun ds A q => match ds with
  | [.tup xs] => q (.tup xs) A
  | [.ref a] => onL A a fun xs => q (.tup xs) A
  | _ => False
theorem sim_tuple : SimC K (fun xs H Q => ∃ p ys, xs = [V.ref p] ∧ ((SqL K H p ys ∧ ∀ (l : Addr), H l = none → Q (V.ref l) (upd H l (HO.tup ys))) ∨ SqT K H p ys ∧ Q (V.ref p) H)) aTuple := by
  intro H A vs ds q Q R hv h k
  unfold aTuple at h
  split at h
  · obtain ⟨v, rfl, h1⟩ := hv.one
    obtain ⟨p, vs, rfl, hp, hvs⟩ := h1.inv_tup
    exact ⟨p, vs, rfl, .inr ⟨hp, k H _ _ A .rfl R (.tup hp hvs) h⟩⟩
  · obtain ⟨v, rfl, h1⟩ := hv.one
    obtain ⟨xs, ha, h⟩ := onL_of h
    obtain ⟨ws, e1, r1⟩ := R.lst ha
    cases h1
    exact ⟨_, ws, rfl, .inl ⟨SqL.of e1, fun l hl => k _ _ _ A (.new hl) (R.ext hl) (.tup (SqT.of upd_same) (r1.mono (.new hl))) h⟩⟩
  · exact h.elim
/-- isinstance against a built-in class -/
def tyn (A : Ah) : D → Option String
  | .non => some "NoneType"
  | .bl _ => some "bool"
  | .int _ => some "int"
  | .str _ => some "str"
  | .tup _ => some "tuple"
  | .ref a => match A a with
    | some (.lst _) => some "list"
    | some (.dic _) => some "dict"
    | some (.dit _) => some "dict"
    | _ => none
  | .ty _ => none
  | .lof _ => none
def tys : List String := ["NoneType", "bool", "int", "str", "tuple", "list", "dict"]
def isB (a b : String) : Bool := a == b || (a == "bool" && b == "int")
theorem isB_ok : ∀ a ∈ tys, ∀ b ∈ tys, kitB a b = some (isB a b) := by
  have h : (tys.all fun a => tys.all fun b => decide (kitB a b = some (isB a b))) = true := by decide +kernel
  intro a ha b hb
  exact of_decide_eq_true (List.all_eq_true.mp (List.all_eq_true.mp h a ha) b hb)
theorem tyn_mem {A : Ah} {d : D} {s : String} (h : tyn A d = some s) : s ∈ tys := by
  unfold tyn at h
  cases d with
  | ref a =>
    dsimp only at h
    split at h <;> first | (cases h; decide) | cases h
  | _ => first | (cases h; decide) | cases h
theorem tyn_ok {H : Hp} {A : Ah} {v : V} {d : D} {s : String} (R : RelA K H A) (hv : Val K H v d) (h : tyn A d = some s) : TyX K H v (.type s) := by
  unfold tyn at h
  cases d with
  | non => cases h; cases hv; exact .base .non
  | bl b => cases h; cases hv; exact .base (.bl b)
  | int i => cases h; cases hv; exact .base (.int i)
  | str cs => cases h; cases hv; exact .base (.str _)
  | ty n => cases h
  | lof ds =>
    cases h
  | tup ds =>
    cases h
    obtain ⟨a, vs, rfl, hp, _⟩ := hv.inv_tup
    rcases hp with hp | ⟨o, its, n, e, c, _⟩
    · rcases hp with hp | ⟨o, hp⟩
      · exact .base (.tup hp)
      · exact .fTuple hp
    · exact .kTuple e c
  | ref a =>
    cases hv
    dsimp only at h
    split at h
    · rename_i ds e
      cases h
      obtain ⟨vs, e1, _⟩ := R.lst e
      exact .base (.lst e1)
    · rename_i kvs e
      cases h
      obtain ⟨o, e1, e2⟩ := R _ _ e
      cases e2
      exact .base (.dK e1)
    · rename_i kvs e
      cases h
      obtain ⟨o, e1, e2⟩ := R _ _ e
      cases e2
      exact .base (.dT e1)
    · cases h
def aIsi : A1c := fun ds A q => match ds with
  | [d, .ty b] => ∃ s, tyn A d = some s ∧ b ∈ tys ∧ q (.bl (isB s b)) A
  | _ => False
theorem sim_isi : SimC K (rIsi K) aIsi := by
  intro H A vs ds q Q R hv h k
  unfold aIsi at h
  split at h
  · obtain ⟨v, w, rfl, h1, h2⟩ := hv.two
    obtain ⟨s, e, h⟩ := h
    cases h2
    exact ⟨v, _, _, _, _, rfl, .ty _, tyn_ok R h1 e, kit_ty (isB_ok s (tyn_mem e) _ h.1), k H _ _ A .rfl R (.bl _) h.2⟩
  · exact h.elim
end
section
variable {X : Cx}
theorem ba_len : BltA X (.builtin "len") (fun xs H Q => ∃ x n, xs = [x] ∧ LenV X.K x H n ∧ Q (.int n) H) aLen := ⟨call_len, sim_len⟩
theorem ba_int : BltA X (.type "int") (fun xs H Q => (∃ i, xs = [V.int i] ∧ Q (V.int i) H) ∨ ∃ k, xs = [V.bl k] ∧ Q (V.int (if k = true then 1 else 0)) H) aInt := ⟨call_int1, sim_int⟩
theorem ba_abs : BltA X (.builtin "abs") (fun xs H Q => ∃ i, xs = [V.int i] ∧ Q (V.int (if i < 0 then -i else i)) H) aAbs := ⟨call_abs, sim_abs⟩
theorem ba_str : BltA X (.type "str") (fun xs H Q => ∃ i, xs = [V.int i] ∧ i.natAbs.log2 < 1920 ∧ Q (V.str (Str.ofString (toString i))) H) aStr := ⟨call_str_int, sim_str⟩
theorem ba_min2 (hc : X.calm = true) : BltA X (.builtin "min") (fun xs H Q => ∃ i j, xs = [V.int i, V.int j] ∧ Q (V.int (if j < i then j else i)) H) aMin2 := ⟨call_min2 hc, sim_min2⟩
theorem ba_max2 (hc : X.calm = true) : BltA X (.builtin "max") (fun xs H Q => ∃ i j, xs = [V.int i, V.int j] ∧ Q (V.int (if j > i then j else i)) H) aMax2 := ⟨call_max2 hc, sim_max2⟩
theorem ba_list : BltA X (.type "list") (fun xs H Q => ∃ p ys, xs = [V.ref p] ∧ (SqL X.K H p ys ∨ SqT X.K H p ys) ∧ ∀ (l : Addr), H l = none → Q (V.ref l) (upd H l (HO.lst ys))) aList := ⟨call_list_of, sim_list⟩
theorem ba_tuple : BltA X (.type "tuple") (fun xs H Q => ∃ p ys, xs = [V.ref p] ∧ ((SqL X.K H p ys ∧ ∀ (l : Addr), H l = none → Q (V.ref l) (upd H l (HO.tup ys))) ∨ SqT X.K H p ys ∧ Q (V.ref p) H)) aTuple := ⟨call_tuple_of, sim_tuple⟩
theorem ba_isi : BltA X (.builtin "isinstance") (rIsi X.K) aIsi := ⟨call_isi, sim_isi⟩
end
end GA

namespace GA
open PySem PySem.Spec PyProof.Rows L2 GV TL
/-! ### slices -/
def cutD {α : Type} (xs : List α) (lo hi : Option Int) : List α := (xs.drop (HT.sIx xs.length 0 lo)).take (HT.sIx xs.length xs.length hi - HT.sIx xs.length 0 lo)
section
variable {X : Cx} {W : WX} {a b c e o : Expr} {es : List Expr} {ta tb tc te to : TE} {aa ab ac ae ao : AE} {t : TA} {at_ : AA} {pos apos cpos p p2 : Pos}
abbrev AO := Gt → Ah → (Option Int → Ah → Prop) → AX → Prop
structure POA (X : Cx) (W : WX) (e : Option Expr) (t : TO) (ao : AO) : Prop where
  pe : PO X e t
  sim : ∀ (σ : L2.St) (H : Hp) (Γ : Gt) (A : Ah) (q : Option Int → Ah → Prop) (x : AX) (Q : Option Int → Hp → Prop), RelA X.K H A → Slots X.K H σ Γ → ao Γ A q x →
    (∀ H' b A', Nxt X.K H H' → RelA X.K H' A' → q b A' → Q b H') → (∀ H' e A', Nxt X.K H H' → RelA X.K H' A' → x e A' → W (exC X.K e) (some e.d) σ H') → t σ H Q
def aNoP : AO := fun _ A q _ => q none A
def aPart (a : AE) : AO := fun Γ A q x => a Γ A (fun d A1 => match d with
  | .int i => q (some i) A1
  | _ => False) x
theorem go_none : POA X W none tNoPart aNoP := ⟨po_none, fun σ H Γ A q x Q R S h k _ => k H none A .rfl R h⟩
theorem go_some (ha : PEA X W a ta aa) : POA X W (some a) (tPart ta) (aPart aa) where
  pe := po_some ha.pe
  sim := fun σ H Γ A q x Q R S h k kx => ha.sim σ H Γ A _ x _ R S h (fun H1 v d A1 n1 R1 v1 h1 => by
    cases d with
    | int i => cases v1; exact ⟨i, rfl, k H1 _ A1 n1 R1 h1⟩
    | _ => exact h1.elim) kx
def aSl (a : AE) (lo hi : AO) : AE := fun Γ A q x => a Γ A (fun d A1 => lo Γ A1 (fun l A2 => hi Γ A2 (fun h A3 => match d with
  | .str cs => cs.length ≤ big ∧ q (.str (cutD cs l h)) A3
  | .tup ds => q (.tup (cutD ds l h)) A3
  | .ref a => onL A3 a fun ds => newL A3 (cutD ds l h) q
  | _ => False) x) x) x
def rSlU (K : Fg) : V → Option Int → Option Int → Hp → VK → Prop := fun x lo hi H Q => rSlS x lo hi H Q ∨ rSlA K x lo hi H Q ∨ rSlL K x lo hi H Q
theorem slU : SlR X (rSlU X.K) := by
  intro pins s σ H x v vl vu lo hi sl Q I rx hs pl pu h
  rcases h with h | h | h
  · exact sl_str pins s σ H x v vl vu lo hi sl Q I rx hs pl pu h
  · exact sl_tupA pins s σ H x v vl vu lo hi sl Q I rx hs pl pu h
  · exact sl_list pins s σ H x v vl vu lo hi sl Q I rx hs pl pu h
theorem Vls.cut {K : Fg} {H : Hp} {vs : List V} {ds : List D} (h : Vls K H vs ds) (lo hi : Option Int) : Vls K H (cutV vs lo hi) (cutD ds lo hi) := by
  unfold cutV cutD
  rw [h.length]
  exact (h.drop _).take _
theorem sIx_lt (n d : Nat) (hd : d ≤ n) (o : Option Int) : HT.sIx n d o ≤ n := HT.sIx_le n d hd o
theorem ga_sl {lo hi : Option Expr} {tl' th : TO} {al ah : AO} (ha : PEA X W a ta aa) (h1 : POA X W lo tl' al) (h2 : POA X W hi th ah) : PEA X W (.Subscript a (.Slice lo hi none p2) pos) (tSl (rSlU X.K) ta tl' th) (aSl aa al ah) where
  pe := pe_slice slU ha.pe h1.pe h2.pe
  sim := fun σ H Γ A q x Q R S h k kx => ha.sim σ H Γ A _ x _ R S h (fun H1 v d A1 n1 R1 v1 hh => h1.sim σ H1 Γ A1 _ x _ R1 (S.mono n1) hh
    (fun H2 l A2 n2 R2 hh => h2.sim σ H2 Γ A2 _ x _ R2 (S.mono (n1.trans n2)) hh (fun H3 u A3 n3 R3 hh => by
      have v3 := (v1.mono n2).mono n3
      have n := (n1.trans n2).trans n3
      cases d with
      | str cs =>
        obtain ⟨z, rfl, rfl⟩ := v3.inv_str
        refine .inl ⟨z, rfl, by rw [big_eq, len_tl]; exact hh.1, ?_⟩
        refine k H3 _ _ A3 n R3 (.strOf ?_) hh.2
        unfold cutS cutD
        rw [len_tl]
      | tup ds =>
        obtain ⟨p, vs, rfl, hp, hvs⟩ := v3.inv_tup
        refine .inr (.inl ⟨p, vs, rfl, hp, fun hw => ?_, fun hw p' hp' => ?_⟩)
        · have e : cutD ds l u = ds := by
            rw [hvs.length] at hw
            unfold cutD
            rw [hw.1, hw.2, List.drop_zero, Nat.sub_zero, List.take_length]
          have hh : q (.tup (cutD ds l u)) A3 := hh
          rw [e] at hh
          exact k H3 _ _ A3 n R3 (.tup hp hvs) hh
        · exact k _ _ _ A3 (n.trans (.new hp')) (R3.ext hp') (.tup (SqT.of upd_same) ((hvs.cut l u).mono (.new hp'))) hh
      | ref a =>
        obtain ⟨xs, ha, h⟩ := onL_of hh
        obtain ⟨ws, e1, r1⟩ := R3.lst ha
        cases v3
        exact .inr (.inr ⟨_, ws, rfl, SqL.of e1, fun p hp => k _ _ _ _ (n.trans (.new hp)) (R3.new hp (.lst (r1.cut l u))) (.ref p) (h p (R3.none hp))⟩)
      | _ => exact hh.elim) fun H3 e A3 n3 R3 h3 => kx H3 e A3 ((n1.trans n2).trans n3) R3 h3) fun H2 e A2 n2 R2 h2 => kx H2 e A2 (n1.trans n2) R2 h2) kx
/-! ### methods of built-in types -/
abbrev A1m := D → List D → Ah → (D → Ah → Prop) → Prop
def SimM (K : Fg) (T : String) (r : V → List V → Hp → VK → Prop) (ar : A1m) : Prop := ∀ (H : Hp) (A : Ah) (v : V) (d : D) (vs : List V) (ds : List D) (q : D → Ah → Prop) (Q : VK), RelA K H A → Val K H v d → Vls K H vs ds → ar d ds A q →
  (∀ H' z f A', Nxt K H H' → RelA K H' A' → Val K H' z f → q f A' → Q z H') → r v vs H Q
def isLst (A : Ah) : D → Prop
  | .ref a => ∃ ds, A a = some (.lst ds)
  | _ => False
def aMethL (r : A1m) (o : AE) (as : AA) : AE := fun Γ A q x => o Γ A (fun d A1 => isLst A1 d ∧ as Γ A1 (fun ds A2 => r d ds A2 q) x) x
theorem isLst_ty {K : Fg} {H : Hp} {A : Ah} {v : V} {d : D} (R : RelA K H A) (hv : Val K H v d) (h : isLst A d) : tyV K "list" v H := by
  cases d with
  | ref a =>
    obtain ⟨ds, e⟩ := h
    obtain ⟨vs, e1, _⟩ := R.lst e
    cases hv
    exact .inl ⟨rfl, _, SqL.of e1⟩
  | _ => exact h.elim
theorem sim_methL {r : V → List V → Hp → VK → Prop} {ar : A1m} (hr : SimM X.K "list" r ar) (ho : SimE X.K W to ao) (h : SimA X.K W t at_) : SimE X.K W (tBM X.K "list" r to t) (aMethL ar ao at_) := fun σ H Γ A q x Q R S hh k kx =>
  ho σ H Γ A _ x _ R S hh (fun H1 v d A1 n1 R1 v1 ⟨hl, h1⟩ => ⟨isLst_ty R1 v1 hl, h σ H1 Γ A1 _ x _ R1 (S.mono n1) h1
    (fun H2 vs ds A2 n2 R2 v2 h2 => hr H2 A2 v d vs ds q Q R2 (v1.mono n2) v2 h2 fun H3 z f A3 n3 R3 v3 h3 => k H3 z f A3 ((n1.trans n2).trans n3) R3 v3 h3) fun H2 e A2 n2 R2 h2 => kx H2 e A2 (n1.trans n2) R2 h2⟩) kx
theorem sim_methL0 {r : V → List V → Hp → VK → Prop} {ar : A1m} (hr : SimM X.K "list" r ar) (ho : SimE X.K W to ao) : SimE X.K W (tBM0 X.K "list" r to) (aMethL ar ao aNil) := fun σ H Γ A q x Q R S hh k kx =>
  ho σ H Γ A _ x _ R S hh (fun H1 v d A1 n1 R1 v1 ⟨hl, h1⟩ => ⟨isLst_ty R1 v1 hl, hr H1 A1 v d [] [] q Q R1 v1 .nil h1 fun H3 z f A3 n3 R3 v3 h3 => k H3 z f A3 (n1.trans n3) R3 v3 h3⟩) kx
/-- a list's method -/
structure MthL (X : Cx) (name : Str) (id : String) (r : V → List V → Hp → VK → Prop) (ar : A1m) : Prop where
  slot : Slot "list" name id
  ty : typeOf (Value.builtin id) = pure (Value.type "method_descriptor")
  op : MtR X id r
  sim : SimM X.K "list" r ar
theorem ga_mL {name : Str} {id : String} {r : V → List V → Hp → VK → Prop} {ar : A1m} (M : MthL X name id r ar) (ho : PEA X W o to ao) (h : PAA X W (e :: es) t at_)
    (h1 : attributeBase o name X.env (eval o X.env) = eval o X.env := by rfl)
    (h2 : ((backTo cpos (starEach (e :: es) X.env)).all (fun x => !x.1) && (backToKw cpos (keywordEach [] X.env)).all (fun x => x.1.isSome) && decide ((e :: es).length + ([] : List Keyword).length + (if ([] : List Keyword).isEmpty = true then 0 else 1) < 30)) = true := by rfl)
    (h3 : (apos.endLine == cpos.line) = true := by rfl) (h4 : starEach (e :: es) X.env = (false, eval e X.env) :: starEach es X.env := by rfl) (h5 : (backTo cpos (starEach es X.env)).any (·.1) = false := by rfl) :
    PEA X W (.Call (.Attribute o name apos) (e :: es) [] cpos) (tBM X.K "list" r to t) (aMethL ar ao at_) :=
  ⟨pe_bm PySem.F.plainAttrs_list M.slot M.ty M.op ho.pe h.pe h1 h2 h3 h4 h5, sim_methL M.sim ho.sim h.sim⟩
theorem ga_mL0 {name : Str} {id : String} {r : V → List V → Hp → VK → Prop} {ar : A1m} (M : MthL X name id r ar) (ho : PEA X W o to ao)
    (h1 : attributeBase o name X.env (eval o X.env) = eval o X.env := by rfl) (h3 : (apos.endLine == cpos.line) = true := by rfl) :
    PEA X W (.Call (.Attribute o name apos) [] [] cpos) (tBM0 X.K "list" r to) (aMethL ar ao aNil) :=
  ⟨pe_bm0 PySem.F.plainAttrs_list M.slot M.ty M.op ho.pe h1 h3, sim_methL0 M.sim ho.sim⟩
end
section
variable {K : Fg}
def aAppend : A1m := fun d ds A q => match d, ds with
  | .ref a, [e] => onL A a fun xs => xs.length < big ∧ q .non (updA A a (.lst (xs ++ [e])))
  | _, _ => False
theorem sim_append : SimM K "list" rAppend aAppend := by
  intro H A v d vs ds q Q R hv hvs h k
  unfold aAppend at h
  split at h
  · obtain ⟨w, rfl, hw⟩ := hvs.one
    obtain ⟨xs, ha, h⟩ := onL_of h
    obtain ⟨ws, e1, r1⟩ := R.lst ha
    cases hv
    exact ⟨_, ws, w, rfl, rfl, e1, by rw [big_eq, r1.length]; exact h.1, k _ _ _ _ (.set e1 noTup_lst) (R.set e1 noTup_lst (.lst (r1.append (.cons hw .nil)))) .non h.2⟩
  · exact h.elim
def aPop : A1m := fun d ds A q => match d, ds with
  | .ref a, [] => onL A a fun xs => ∃ y, xs[xs.length - 1]? = some y ∧ q y (updA A a (.lst xs.dropLast))
  | .ref a, [.int i] => onL A a fun xs => ∃ (j : Nat) (y : D), i = (j : Int) ∧ j < 1000000 ∧ xs[j]? = some y ∧ q y (updA A a (.lst (xs.eraseIdx j)))
  | _, _ => False
theorem Vls.dropLast {H : Hp} {vs : List V} {ds : List D} (h : Vls K H vs ds) : Vls K H vs.dropLast ds.dropLast := by
  rw [List.dropLast_eq_take, List.dropLast_eq_take, h.length]
  exact h.take _
theorem Vls.erase {H : Hp} {vs : List V} {ds : List D} (h : Vls K H vs ds) (n : Nat) : Vls K H (vs.eraseIdx n) (ds.eraseIdx n) := by
  rw [List.eraseIdx_eq_take_drop_succ, List.eraseIdx_eq_take_drop_succ]
  exact (h.take n).append (h.drop _)
def rPopU : V → List V → Hp → VK → Prop := fun x vs H Q => rPop x vs H Q ∨ rPopAt x vs H Q
theorem mtR_or {X : Cx} {id : String} {r r' : V → List V → Hp → VK → Prop} (h : MtR X id r) (h' : MtR X id r') : MtR X id (fun x vs H Q => r x vs H Q ∨ r' x vs H Q) := by
  intro pins s σ H x vs v us Q I rx rv q
  rcases q with q | q
  · exact h pins s σ H x vs v us Q I rx rv q
  · exact h' pins s σ H x vs v us Q I rx rv q
theorem mtM_or {X : Cx} {id : String} {r r' : V → List V → Hp → VK → Prop} (h : MtM X id r) (h' : MtM X id r') : MtM X id (fun x vs H Q => r x vs H Q ∨ r' x vs H Q) := by
  intro pins s σ H x vs v us Q I rx rv q
  rcases q with q | q
  · exact h pins s σ H x vs v us Q I rx rv q
  · exact h' pins s σ H x vs v us Q I rx rv q
theorem sim_pop : SimM K "list" rPopU aPop := by
  intro H A v d vs ds q Q R hv hvs h k
  unfold aPop at h
  split at h
  · obtain ⟨xs, ha, y, hy, h⟩ := onL_of h
    obtain ⟨ws, e1, r1⟩ := R.lst ha
    cases hv; cases hvs
    obtain ⟨z, hz, vz⟩ := r1.get hy
    refine .inl ⟨_, ws, z, rfl, rfl, e1, by rw [r1.length]; exact hz, ?_⟩
    have n : Nxt K H (upd H _ (.lst ws.dropLast)) := .set e1 noTup_lst
    exact k _ _ _ _ n (R.set e1 noTup_lst (.lst r1.dropLast)) (vz.mono n) h
  · obtain ⟨w, rfl, hw⟩ := hvs.one
    obtain ⟨xs, ha, j, y, rfl, hj, hy, h⟩ := onL_of h
    obtain ⟨ws, e1, r1⟩ := R.lst ha
    cases hv; cases hw
    obtain ⟨z, hz, vz⟩ := r1.get hy
    have hlt : j < ws.length := (List.getElem?_eq_some_iff.mp hz).1
    have hb : (2 : Int) ^ 63 = 9223372036854775808 := by decide
    have n : Nxt K H (upd H _ (.lst (ws.eraseIdx j))) := .set e1 noTup_lst
    refine .inr ⟨_, ws, _, j, z, rfl, rfl, e1, by omega, by omega, ?_, hz, k _ _ _ _ n (R.set e1 noTup_lst (.lst (r1.erase j))) (vz.mono n) h⟩
    have hn : ¬ ((j : Int) < 0) := by omega
    have hn2 : (j : Int) < (ws.length : Int) := by omega
    simp [seqIndex?, hn, hlt]
  · exact h.elim
end

section
variable {K : Fg}
def aExtend : A1m := fun d ds A q => match d, ds with
  | .ref a, [.ref b] => onL A a fun xs => onL A b fun ys => xs.length + ys.length ≤ big ∧ q .non (updA A a (.lst (xs ++ ys)))
  | _, _ => False
theorem sim_extend : SimM K "list" rExtend aExtend := by
  intro H A v d vs ds q Q R hv hvs h k
  unfold aExtend at h
  split at h
  · obtain ⟨w, rfl, hw⟩ := hvs.one
    obtain ⟨xs, ha, h⟩ := onL_of h
    obtain ⟨ys, hb, h⟩ := onL_of h
    obtain ⟨ws, e1, r1⟩ := R.lst ha
    obtain ⟨us, e2, r2⟩ := R.lst hb
    cases hv; cases hw
    exact ⟨_, _, ws, us, rfl, rfl, e1, e2, by rw [big_eq, r1.length, r2.length]; exact h.1, k _ _ _ _ (.set e1 noTup_lst) (R.set e1 noTup_lst (.lst (r1.append r2))) .non h.2⟩
  · exact h.elim
end
section
variable {X : Cx} {W : WX} {a b c e o : Expr} {es : List Expr} {ta tb tc te to : TE} {aa ab ac ae ao : AE} {t : TA} {at_ : AA} {pos apos cpos p p2 : Pos}
theorem ml_append : MthL X "append" "list.append" rAppend aAppend := ⟨PySem.F.slot_list_append, PySem.F.type_list_append, mt_append, sim_append⟩
theorem ml_pop : MthL X "pop" "list.pop" rPopU aPop := ⟨PySem.F.slot_list_pop, PySem.F.type_list_pop, mtM_or mt_pop mt_popAt, sim_pop⟩
theorem ml_extend : MthL X "extend" "list.extend" rExtend aExtend := ⟨PySem.F.slot_list_extend, PySem.F.type_list_extend, mt_extend, sim_extend⟩
/-! ### s.split(sep), sep.join(xs) -/
def splitD (sep cs : List Nat) : List (List Nat) := spl sep 0 [] cs
def aSplit (o s : AE) : AE := fun Γ A q x => o Γ A (fun d A1 => match d with
  | .str cs => s Γ A1 (fun e A2 => match e with
    | .str sep => sep ≠ [] ∧ sep.all (· < 256) = true ∧ cs.length + 2 ≤ big ∧ newL A2 ((splitD sep cs).map D.str) q
    | _ => False) x
  | _ => False) x
theorem Vls.strs {K : Fg} {H : Hp} : ∀ {ys : List Str} {zs : List (List Nat)}, ys.map tl = zs → Vls K H (ys.map V.str) (zs.map D.str)
  | [], _, rfl => .nil
  | y :: ys, _, rfl => .cons (.str y) (Vls.strs rfl)
theorem ga_split (ho : PEA X W o to ao) (he : PEA X W e te ae) (hs : starEach [e] X.env = [(false, eval e X.env)] := by rfl) (hb : attributeBase o "split" X.env (eval o X.env) = eval o X.env := by rfl) (hl : (apos.endLine == pos.line) = true := by rfl) :
    PEA X W (.Call (.Attribute o "split" apos) [e] [] pos) (tM1 (fun x xs H Q => ∃ a b, x = .str a ∧ xs = [.str b] ∧ (b.length == 0) = false ∧ a.length + 2 ≤ sizeLine ∧ rNewStrs (Txt.split a b) H Q) to te) (aSplit ao ae) where
  pe := pe_split ho.pe he.pe hs hb hl
  sim := fun σ H Γ A q x Q R S h k kx => ho.sim σ H Γ A _ x _ R S h (fun H1 v d A1 n1 R1 v1 h1 => by
    cases d with
    | str cs =>
      obtain ⟨z, rfl, rfl⟩ := v1.inv_str
      refine ⟨⟨z, rfl⟩, he.sim σ H1 Γ A1 _ x _ R1 (S.mono n1) h1 (fun H2 w f A2 n2 R2 v2 h2 => ?_) fun H2 e A2 n2 R2 h2 => kx H2 e A2 (n1.trans n2) R2 h2⟩
      cases f with
      | str sep =>
        obtain ⟨y, rfl, rfl⟩ := v2.inv_str
        obtain ⟨g1, g2, g3, g4⟩ := h2
        refine ⟨z, y, rfl, rfl, ?_, by rw [big_eq, len_tl]; exact g3, fun p hp => ?_⟩
        · rw [beq_eq_false_iff_ne, len_tl]
          exact fun z => g1 (List.eq_nil_of_length_eq_zero z)
        · refine k _ _ _ _ ((n1.trans n2).trans (.new hp)) (R2.new hp (.lst (Vls.strs ?_))) (.ref p) (g4 p (R2.none hp))
          refine split_spl z y g1 (kind_ok ?_)
          rw [← Array.all_toList]
          exact g2
      | _ => exact h2.elim
    | _ => exact h1.elim) kx
def strsOf : List D → Option (List (List Nat))
  | [] => some []
  | .str cs :: r => (strsOf r).map (cs :: ·)
  | _ => none
theorem strsOf_vals {K : Fg} {H : Hp} : ∀ {ds : List D} {zs : List (List Nat)} {vs : List V}, strsOf ds = some zs → Vls K H vs ds → ∃ ys : List Str, vs = ys.map V.str ∧ ys.map tl = zs
  | [], _, _, h, .nil => by cases h; exact ⟨[], rfl, rfl⟩
  | .str cs :: r, zs, _, h, .cons hv t => by
    unfold strsOf at h
    cases e : strsOf r with
    | none => rw [e] at h; cases h
    | some z =>
      rw [e] at h
      cases h
      obtain ⟨x, rfl, rfl⟩ := hv.inv_str
      obtain ⟨ys, rfl, rfl⟩ := strsOf_vals e t
      exact ⟨x :: ys, rfl, rfl⟩
def joinD (sep : List Nat) (zs : List (List Nat)) : List Nat := joinL sep zs
def aJoin (o s : AE) : AE := fun Γ A q x => o Γ A (fun d A1 => match d with
  | .str sep => s Γ A1 (fun e A2 => match e with
    | .tup ds => ∃ zs, strsOf ds = some zs ∧ (zs.map List.length).sum + zs.length * sep.length ≤ big ∧ q (.str (joinD sep zs)) A2
    | .ref a => onL A2 a fun ds => ∃ zs, strsOf ds = some zs ∧ (zs.map List.length).sum + zs.length * sep.length ≤ big ∧ q (.str (joinD sep zs)) A2
    | _ => False) x
  | _ => False) x
theorem tl_joinD (y : Str) (ys : List Str) : tl (Txt.join y ys) = joinD (tl y) (ys.map tl) := by rw [join_eq, tl_join]; rfl
theorem lens_tl (ys : List Str) : ys.map (fun x => x.length) = (ys.map tl).map List.length := by
  rw [List.map_map]
  exact List.map_congr_left fun y _ => len_tl y
theorem ga_join (ho : PEA X W o to ao) (he : PEA X W e te ae) (hs : starEach [e] X.env = [(false, eval e X.env)] := by rfl) (hb : attributeBase o "join" X.env (eval o X.env) = eval o X.env := by rfl) (hl : (apos.endLine == pos.line) = true := by rfl) :
    PEA X W (.Call (.Attribute o "join" apos) [e] [] pos) (tM1 (fun x xs H Q => ∃ a p ys, x = .str a ∧ xs = [.ref p] ∧ (SqL X.K H p (List.map V.str ys) ∨ SqT X.K H p (List.map V.str ys)) ∧ (List.map (fun x => x.length) ys).sum + ys.length * a.length ≤ 16777216 ∧ Q (.str (Txt.join a ys)) H) to te) (aJoin ao ae) where
  pe := pe_join ho.pe he.pe hs hb hl
  sim := fun σ H Γ A q x Q R S h k kx => ho.sim σ H Γ A _ x _ R S h (fun H1 v d A1 n1 R1 v1 h1 => by
    cases d with
    | str sep =>
      obtain ⟨z, rfl, rfl⟩ := v1.inv_str
      refine ⟨⟨z, rfl⟩, he.sim σ H1 Γ A1 _ x _ R1 (S.mono n1) h1 (fun H2 w f A2 n2 R2 v2 h2 => ?_) fun H2 e A2 n2 R2 h2 => kx H2 e A2 (n1.trans n2) R2 h2⟩
      cases f with
      | tup ds =>
        obtain ⟨zs, g1, g2, g3⟩ := h2
        obtain ⟨p, vs, rfl, hp, hvs⟩ := v2.inv_tup
        obtain ⟨ys, rfl, rfl⟩ := strsOf_vals g1 hvs
        refine ⟨z, p, ys, rfl, rfl, .inr hp, ?_, k _ _ _ A2 (n1.trans n2) R2 (.strOf (tl_joinD z ys)) g3⟩
        rw [lens_tl, len_tl z]; simpa using g2
      | ref a =>
        obtain ⟨xs, ha, zs, g1, g2, g3⟩ := onL_of h2
        obtain ⟨ws, e1, r1⟩ := R2.lst ha
        cases v2
        obtain ⟨ys, rfl, rfl⟩ := strsOf_vals g1 r1
        refine ⟨z, _, ys, rfl, rfl, .inl (SqL.of e1), ?_, k _ _ _ A2 (n1.trans n2) R2 (.strOf (tl_joinD z ys)) g3⟩
        rw [lens_tl, len_tl z]; simpa using g2
      | _ => exact h2.elim
    | _ => exact h1.elim) kx
end
end GA

namespace GA
open PySem PySem.Spec PyProof.Rows L2 GV TL
section
variable {X : Cx} {W : WX} {st : Stmt} {rest body orelse : List Stmt} {e o : Expr} {te to : TE} {ae ao : AE} {ts us : TS} {as' bs' : AS} {pos pos' p : Pos}
/-! ### blocks -/
def aNext : AS := fun D Γ A => D.nx Γ A
def aSeq (s t : AS) : AS := fun D Γ A => s { D with nx := t D } Γ A
theorem gb_nil : PSsA X W [] tNext aNext := ⟨pss_nil, fun D AD σ H Γ A R S h k => k.nx σ H Γ A .rfl R S h⟩
theorem gb_cons (h1 : PSA X W st ts as') (h2 : PSsA X W rest us bs') : PSsA X W (st :: rest) (tSeq ts us) (aSeq as' bs') where
  pe := pss_cons h1.pe h2.pe
  sim := fun D AD σ H Γ A R S h k => h1.sim _ _ σ H Γ A R S h ⟨fun σ' H' Γ' A' n R' S' h' => h2.sim D AD σ' H' Γ' A' R' S' h' (k.mono n), k.rt, k.bk, k.ct, k.ex⟩
theorem gb_one (h1 : PSA X W st ts as') : PSsA X W [st] ts as' := ⟨pss_one h1.pe, h1.sim⟩
theorem gs_pass : PSA X W (.Pass pos) tNext aNext := ⟨ps_pass, fun D AD σ H Γ A R S h k => k.nx σ H Γ A .rfl R S h⟩
def aBreak : AS := fun D Γ A => D.bk Γ A
theorem gs_break : PSA X W (.Break pos) tBreak aBreak := ⟨ps_break, fun D AD σ H Γ A R S h k => k.bk σ H Γ A .rfl R S h⟩
def aCont : AS := fun D Γ A => D.ct Γ A
theorem gs_cont : PSA X W (.Continue pos) tCont aCont := ⟨ps_continue, fun D AD σ H Γ A R S h k => k.ct σ H Γ A .rfl R S h⟩
def aNever : AS := fun _ _ _ => False
theorem gs_never : PSA X W st tNever aNever := ⟨ps_never, fun _ _ _ _ _ _ _ _ h _ => h⟩
theorem gb_never : PSsA X W rest tNever aNever := ⟨pss_never, fun _ _ _ _ _ _ _ _ h _ => h⟩
def aRet (a : AE) : AS := fun D Γ A => a Γ A D.rt fun e A' => D.ex e Γ A'
theorem gs_ret (h : PEA X W e te ae) : PSA X W (.Return (some e) pos) (tRet te) (aRet ae) :=
  ⟨ps_ret h.pe, fun D AD σ H Γ A R S hh k => h.sim σ H Γ A _ _ _ R S hh (fun H' v d A' n R' V' h' => k.rt v H' d A' n R' V' h') fun H' e A' n R' h' => k.ex e σ H' Γ A' n R' (S.mono n) h'⟩
def aRetN : AS := fun D _ A => D.rt .non A
theorem gs_retN : PSA X W (.Return none pos) tRetN aRetN := ⟨ps_retN, fun D AD σ H Γ A R S h k => k.rt .non H .non A .rfl R .non h⟩
def aDrop (a : AE) : AS := fun D Γ A => a Γ A (fun _ A' => D.nx Γ A') fun e A' => D.ex e Γ A'
theorem gs_expr (h : PEA X W e te ae) (hs : swapsWith e none pos.line X.env = pure false := by rfl) : PSA X W (.Expr e pos) (tDrop te) (aDrop ae) :=
  ⟨ps_expr h.pe hs, fun D AD σ H Γ A R S hh k => h.sim σ H Γ A _ _ _ R S hh (fun H' v d A' n R' _ h' => k.nx σ H' Γ A' n R' (S.mono n) h') fun H' e A' n R' h' => k.ex e σ H' Γ A' n R' (S.mono n) h'⟩
def aIf (c : AT) (t u : AS) : AS := fun D Γ A => c Γ A (fun b A1 => bsel b (t D Γ A1) (u D Γ A1)) fun e A' => D.ex e Γ A'
theorem gs_if {c : Expr} {tc : TT} {ac : AT} (h : PTA X W c tc ac) (h1 : PSsA X W body ts as') (h2 : PSsA X W orelse us bs') : PSA X W (.If c body orelse pos) (tIfS tc ts us) (aIf ac as' bs') where
  pe := ps_if h.pe h1.pe h2.pe
  sim := fun D AD σ H Γ A R S hh k => h.sim σ H Γ A _ _ _ R S hh (fun H1 b A1 n1 R1 h' => by
    cases b with
    | true => exact h1.sim D AD σ H1 Γ A1 R1 (S.mono n1) (h'.1 rfl) (k.mono n1)
    | false => exact h2.sim D AD σ H1 Γ A1 R1 (S.mono n1) (h'.2 rfl) (k.mono n1)) fun H' e A' n R' h' => k.ex e σ H' Γ A' n R' (S.mono n) h'
/-! ### targets -/
abbrev AG := D → Gt → Ah → (Gt → Ah → Prop) → Prop
abbrev AGs := List D → Gt → Ah → (Gt → Ah → Prop) → Prop
structure PGA (X : Cx) (tg : Expr) (g : TG) (ag : AG) : Prop where
  pe : PG X tg g
  sim : ∀ (v : V) (d : D) (σ : L2.St) (H : Hp) (Γ : Gt) (A : Ah) (q : Gt → Ah → Prop) (Q : L2.St → Hp → Prop), RelA X.K H A → Slots X.K H σ Γ → Val X.K H v d → ag d Γ A q →
    (∀ σ' H' Γ' A', Nxt X.K H H' → RelA X.K H' A' → Slots X.K H' σ' Γ' → q Γ' A' → Q σ' H') → g v σ H Q
structure PGsA (X : Cx) (tg : List Expr) (g : TGs) (ag : AGs) : Prop where
  pe : PGs X tg g
  sim : ∀ (vs : List V) (ds : List D) (σ : L2.St) (H : Hp) (Γ : Gt) (A : Ah) (q : Gt → Ah → Prop) (Q : L2.St → Hp → Prop), RelA X.K H A → Slots X.K H σ Γ → Vls X.K H vs ds → ag ds Γ A q →
    (∀ σ' H' Γ' A', Nxt X.K H H' → RelA X.K H' A' → Slots X.K H' σ' Γ' → q Γ' A' → Q σ' H') → g vs σ H Q
def agName (i : Nat) : AG := fun d Γ A q => q (Γ.set i (some d)) A
theorem gg_name {i : Nat} {x : Str} (hN : X.N.Nodup) (hi : X.N[i]? = some x := by rfl) (hl : L2.Loc X.env.scope x := by first | exact Or.inl rfl | exact Or.inr rfl) (hf : X.fn x = true ∨ List.lookup x X.env.scope.names = some NameKind.local := by first | exact Or.inl rfl | exact Or.inr rfl) :
    PGA X (.Name x pos) (gName i) (agName i) :=
  ⟨pg_name hN hi hl hf, fun v d σ H Γ A q Q R S hv h k => k _ H _ A .rfl R (S.set hv) h⟩
def agNil : AGs := fun ds Γ A q => ds = [] ∧ q Γ A
def agCons (t : AG) (u : AGs) : AGs := fun ds Γ A q => match ds with
  | d :: r => t d Γ A fun Γ' A' => u r Γ' A' q
  | [] => False
theorem gg_nil (h : PGs X [] gNil := by exact pgs_nil) : PGsA X [] gNil agNil := ⟨h, fun vs ds σ H Γ A q Q R S hv h k => by
  obtain ⟨rfl, h⟩ := h
  cases hv
  exact ⟨rfl, k σ H Γ A .rfl R S h⟩⟩
theorem gg_cons {tg : Expr} {tgs : List Expr} {t : TG} {u : TGs} {at_ : AG} {au : AGs} (h1 : PGA X tg t at_) (h2 : PGsA X tgs u au)
    (he : (assignEach (tg :: tgs) X.env).map (·.2) = assign tg X.env :: (assignEach tgs X.env).map (·.2) := by rfl) : PGsA X (tg :: tgs) (gCons t u) (agCons at_ au) :=
  ⟨pgs_cons h1.pe h2.pe he, fun vs ds σ H Γ A q Q R S hv h k => by
    cases ds with
    | nil => exact h.elim
    | cons d r =>
      cases hv with
      | cons hv ht => exact ⟨_, _, rfl, h1.sim _ d σ H Γ A _ _ R S hv h fun σ1 H1 Γ1 A1 n1 R1 S1 h1' => h2.sim _ r σ1 H1 Γ1 A1 q Q R1 S1 (ht.mono n1) h1' fun σ2 H2 Γ2 A2 n2 R2 S2 h2' => k σ2 H2 Γ2 A2 (n1.trans n2) R2 S2 h2'⟩⟩
def agTup (n : Nat) (t : AGs) : AG := fun d Γ A q => match d with
  | .tup ds => ds.length = n ∧ t ds Γ A q
  | _ => False
theorem gg_tup {tgs : List Expr} {k0 n : Nat} {t : TGs} {at_ : AGs} (hc : X.calm = true) (h : PGsA X tgs t at_) (h1 : (assignEach tgs X.env).length = n := by rfl) (h2 : (assignEach tgs X.env).findIdx? (·.1) = none := by rfl) :
    PGA X (.Tuple tgs k0 pos) (gTup X.K n t) (agTup n at_) :=
  ⟨pg_tup hc h.pe h1 h2, fun v d σ H Γ A q Q R S hv hh k => by
    cases d with
    | tup ds =>
      obtain ⟨a, vs, rfl, hp, hvs⟩ := hv.inv_tup
      exact ⟨a, vs, rfl, hp, by rw [hvs.length]; exact hh.1, h.sim vs ds σ H Γ A q Q R S hvs hh.2 k⟩
    | _ => exact hh.elim⟩
def aAsg (a : AE) (g : AG) : AS := fun D Γ A => a Γ A (fun d A1 => g d Γ A1 D.nx) fun e A' => D.ex e Γ A'
theorem sim_asg {g : TG} {ag : AG} (h : SimE X.K W te ae) (hg : PGA X e g ag) : SimS X.K W (tAsg te g) (aAsg ae ag) := fun D AD σ H Γ A R S hh k =>
  h σ H Γ A _ _ _ R S hh (fun H1 v d A1 n1 R1 v1 h1 => hg.sim v d σ H1 Γ A1 _ _ R1 (S.mono n1) v1 h1 fun σ2 H2 Γ2 A2 n2 R2 S2 h2 => k.nx σ2 H2 Γ2 A2 (n1.trans n2) R2 S2 h2) fun H' e A' n R' h' => k.ex e σ H' Γ A' n R' (S.mono n) h'
theorem gs_set {i : Nat} {x : Str} (hN : X.N.Nodup) (h : PEA X W e te ae) (hi : X.N[i]? = some x := by rfl) (hl : L2.Loc X.env.scope x := by first | exact Or.inl rfl | exact Or.inr rfl)
    (hs : swapsWith e (some (.Name x pos')) pos.line X.env = pure false := by rfl) (hf : X.fn x = true ∨ List.lookup x X.env.scope.names = some NameKind.local := by first | exact Or.inl rfl | exact Or.inr rfl) :
    PSA X W (.Assign [.Name x pos'] e pos) (tAsg te (gName i)) (aAsg ae (agName i)) :=
  ⟨ps_set hN hi hl h.pe hs hf, sim_asg h.sim (gg_name (pos := pos') hN hi hl hf)⟩
theorem gs_asg {tg : Expr} {g : TG} {ag : AG} (h : PEA X W e te ae) (hg : PGA X tg g ag) (h1 : swapsWithSole [tg] e pos.line X.env = pure false := by rfl) (h2 : swappedStores [tg] e X.env = pure none := by rfl)
    (h3 : (assignEach [tg] X.env).map (·.2) = [assign tg X.env] := by rfl) : PSA X W (.Assign [tg] e pos) (tAsg te g) (aAsg ae ag) :=
  ⟨ps_asg h.pe hg.pe h1 h2 h3, sim_asg h.sim hg⟩
/-- xs[i] = e -/
def agSubL (o i : AE) : AG := fun d Γ A q => o Γ A (fun l A1 => i Γ A1 (fun k A2 => match l, k with
  | .ref a, .int k => onL A2 a fun xs => ∃ j, ixN xs.length k = some j ∧ q Γ (updA A2 a (.lst (xs.set j d)))
  | _, _ => False) fun _ _ => False) fun _ _ => False
abbrev WF : WX := fun _ _ _ _ => False
theorem gg_subL {i : Expr} {ti : TE} {ai : AE} (ho : PEA X WF o to ao) (hi : PEA X WF i ti ai)
    (h : ∀ v, assign (.Subscript o i pos) X.env v = (do let ov ← holding [v] (eval o X.env); let iv ← holding [v, ov] (eval i X.env); standAt pos; holding [v, ov, iv] (setItem ov iv v); release [v, ov, iv] []) := by intro _; rfl) :
    PGA X (.Subscript o i pos) (gSub to ti rSetL) (agSubL ao ai) :=
  ⟨pg_sub ho.pe hi.pe set_list h, fun v d σ H Γ A q Q R S hv hh k => ho.sim σ H Γ A _ _ _ R S hh (fun H1 w l A1 n1 R1 v1 h1 => hi.sim σ H1 Γ A1 _ _ _ R1 (S.mono n1) h1
    (fun H2 z kk A2 n2 R2 v2 h2 => by
      cases l with
      | ref a => cases kk with
        | int kk =>
          obtain ⟨xs, ha, j, hj, h2⟩ := onL_of h2
          obtain ⟨ws, e1, r1⟩ := R2.lst ha
          cases v1; cases v2
          have n : Nxt X.K H2 (upd H2 a (.lst (ws.set j v))) := .set e1 noTup_lst
          exact ⟨a, ws, kk, j, rfl, rfl, e1, by rw [r1.length]; exact hj, k _ _ _ _ ((n1.trans n2).trans n) (R2.set e1 noTup_lst (.lst (r1.set ((hv.mono n1).mono n2) j))) (S.mono ((n1.trans n2).trans n)) h2⟩
        | _ => exact h2.elim
      | _ => exact h2.elim) fun _ _ _ _ _ z => z.elim) fun _ _ _ _ _ z => z.elim⟩
/-- x += e, a number -/
def aAug (i : Nat) (a : AE) (f : Int → Int → Int) : AS := fun D Γ A => match Γ[i]? with
  | some (some (.int m)) => a Γ A (fun d A1 => match d with
    | .int n => D.nx (Γ.set i (some (.int (f m n)))) A1
    | _ => False) fun e A' => D.ex e Γ A'
  | _ => False
theorem gs_augI {i : Nat} {x : Str} {op : Operator} {f : Int → Int → Int} (hN : X.N.Nodup) (hop : PIp X op (ipI f)) (h : PEA X W e te ae) (hi : X.N[i]? = some x := by rfl) (hl : L2.Loc X.env.scope x := by first | exact Or.inl rfl | exact Or.inr rfl)
    (hf : X.fn x = true ∨ List.lookup x X.env.scope.names = some NameKind.local := by first | exact Or.inl rfl | exact Or.inr rfl) : PSA X W (.AugAssign (.Name x pos') op e pos) (tAug i te (ipI f)) (aAug i ae f) :=
  ⟨ps_aug hN hi hl h.pe hop hf, fun D AD σ H Γ A R S hh k => by
    unfold aAug at hh
    split at hh
    · rename_i m e1
      obtain ⟨v, e2, hv⟩ := S.get i _ e1
      cases hv
      refine ⟨_, e2, h.sim σ H Γ A _ _ _ R S hh (fun H1 w d A1 n1 R1 v1 h1 => ?_) fun H' e A' n R' h' => k.ex e σ H' Γ A' n R' (S.mono n) h'⟩
      cases d with
      | int n => cases v1; exact ⟨m, n, rfl, rfl, k.nx _ H1 _ A1 n1 R1 ((S.mono n1).set (.int _)) h1⟩
      | _ => exact h1.elim
    · exact hh.elim⟩
end
/-! ### what a for walks -/
/-- a walk of known length: the list that must stay, how many, which -/
structure ItA where
  src : Option (Addr × List D)
  n : Nat
  item : Nat → D
def ItA.still (it : ItA) (A : Ah) : Prop := match it.src with
  | some (a, ds) => A a = some (.lst ds)
  | none => True
structure LoopOk (K : Fg) (H0 : Hp) (J : It) (it : ItA) : Prop where
  go : ∀ i H A, Nxt K H0 H → RelA K H A → it.still A → i < it.n → J.go i H
  yld : ∀ i H A x H', Nxt K H0 H → RelA K H A → it.still A → i < it.n → J.yld i H x H' → Nxt K H H' ∧ RelA K H' A ∧ Val K H' x (it.item i)
  stop : ∀ i H A, Nxt K H0 H → RelA K H A → it.still A → it.n ≤ i → J.stop i H
abbrev AI := Gt → Ah → (ItA → Ah → Prop) → AX → Prop
structure PIA (X : Cx) (W : WX) (tg iter : Expr) (wi : TI) (ai : AI) : Prop where
  pe : PI X tg iter wi
  sim : ∀ (σ : L2.St) (H : Hp) (Γ : Gt) (A : Ah) (q : ItA → Ah → Prop) (x : AX) (Q : It → Hp → Prop), RelA X.K H A → Slots X.K H σ Γ → ai Γ A q x →
    (∀ H' J it A', Nxt X.K H H' → RelA X.K H' A' → LoopOk X.K H' J it → it.still A' → q it A' → Q J H') →
    (∀ H' e A', Nxt X.K H H' → RelA X.K H' A' → x e A' → W (exC X.K e) (some e.d) σ H') → wi σ H Q

section
variable {X : Cx} {W : WX} {tg iter e : Expr} {body : List Stmt} {te : TE} {ae : AE} {wi : TI} {ai : AI} {g : TG} {ag : AG} {tb : TS} {ab : AS} {pos p : Pos}
def aFor (wi : AI) (g : AG) (tb : AS) : AS := fun D Γ A => wi Γ A (fun it A1 => ∃ Inv : Nat → Gt → Ah → Prop, Inv 0 Γ A1 ∧ (∀ i Γ' A', i ≤ it.n → Inv i Γ' A' → it.still A') ∧
  (∀ i Γ' A', i < it.n → Inv i Γ' A' → g (it.item i) Γ' A' fun Γ2 A2 => tb { D with nx := Inv (i + 1), ct := Inv (i + 1), bk := D.nx } Γ2 A2) ∧ ∀ Γ' A', Inv it.n Γ' A' → D.nx Γ' A') fun e A' => D.ex e Γ A'
theorem sim_for0 (hi : ∀ (σ : L2.St) (H : Hp) (Γ : Gt) (A : Ah) (q : ItA → Ah → Prop) (x : AX) (Q : It → Hp → Prop), RelA X.K H A → Slots X.K H σ Γ → ai Γ A q x →
    (∀ H' J it A', Nxt X.K H H' → RelA X.K H' A' → LoopOk X.K H' J it → it.still A' → q it A' → Q J H') →
    (∀ H' e A', Nxt X.K H H' → RelA X.K H' A' → x e A' → W (exC X.K e) (some e.d) σ H') → wi σ H Q) (hg : PGA X tg g ag) (hb : SimS X.K W tb ab) : SimS X.K W (tFor wi g tb) (aFor ai ag ab) := fun D AD σ H Γ A R S hh k =>
  hi σ H Γ A _ _ _ R S hh (fun H1 J it A1 n1 R1 L st ⟨Iv, h0, hs, hturn, hd⟩ => by
    refine ⟨fun i m σ' H' => m = it.n - i ∧ i ≤ it.n ∧ ∃ Γ' A', Nxt X.K H1 H' ∧ RelA X.K H' A' ∧ Slots X.K H' σ' Γ' ∧ Iv i Γ' A', ⟨it.n, by omega, Nat.zero_le _, Γ, A1, .rfl, R1, S.mono n1, h0⟩, ?_⟩
    rintro i m σ' H' ⟨rfl, hle, Γ', A', n', R', S', hI⟩
    have st' := hs i Γ' A' hle hI
    by_cases hlt : i < it.n
    · refine .inr ⟨L.go i H' A' n' R' st' hlt, fun σ2 H2 => ∃ Γ2 A2, Nxt X.K H1 H2 ∧ RelA X.K H2 A2 ∧ Slots X.K H2 σ2 Γ2 ∧ Iv (i + 1) Γ2 A2, fun σ2 H2 ⟨Γ2, A2, q⟩ => ⟨it.n - (i + 1), by omega, rfl, hlt, Γ2, A2, q⟩, fun x H3 hy => ?_⟩
      obtain ⟨n3, R3, v3⟩ := L.yld i H' A' x H3 n' R' st' hlt hy
      refine hg.sim x _ σ' H3 Γ' A' _ _ R3 (S'.mono n3) v3 (hturn i Γ' A' hlt hI) fun σ4 H4 Γ4 A4 n4 R4 S4 h4 => ?_
      have n14 := (n'.trans n3).trans n4
      refine hb _ _ σ4 H4 Γ4 A4 R4 S4 h4 ⟨fun σ5 H5 Γ5 A5 n5 R5 S5 h5 => ⟨Γ5, A5, n14.trans n5, R5, S5, h5⟩, (k.mono (n1.trans n14)).rt, fun σ5 H5 Γ5 A5 n5 R5 S5 h5 => k.nx σ5 H5 Γ5 A5 ((n1.trans n14).trans n5) R5 S5 h5,
        fun σ5 H5 Γ5 A5 n5 R5 S5 h5 => ⟨Γ5, A5, n14.trans n5, R5, S5, h5⟩, (k.mono (n1.trans n14)).ex⟩
    · have e : i = it.n := by omega
      subst e
      exact .inl ⟨L.stop _ H' A' n' R' st' (Nat.le_refl _), k.nx σ' H' Γ' A' (n1.trans n') R' S' (hd Γ' A' hI)⟩) fun H' e A' n R' h' => k.ex e σ H' Γ A' n R' (S.mono n) h'
theorem gs_for (hp : PassesOwn (model X.prog X.w) X.A X.env X.xe) (hc : X.calm = true) (hi : PIA X W tg iter wi ai) (hg : PGA X tg g ag) (hb : PSsA X W body tb ab)
    (hs : ∀ x, foldedSetIterable iter X.env x = pure x := by intro _; rfl) : PSA X W (.For tg iter body [] pos) (tFor wi g tb) (aFor ai ag ab) :=
  ⟨ps_for hp hc hi.pe hg.pe hb.pe hs, sim_for0 hi.sim hg hb.sim⟩
/-! ### the walks -/
theorem getD_at {ds : List D} {i : Nat} (hi : i < ds.length) : ds.getD i .non = ds[i] := by
  rw [List.getD_eq_getElem?_getD, List.getElem?_eq_getElem hi]
  rfl
theorem loop_list {K : Fg} {H0 : Hp} {a : Addr} {ds : List D} : LoopOk K H0 (Itl K a) ⟨some (a, ds), ds.length, fun i => ds.getD i .non⟩ where
  go := fun i H A _ R st hi => by
    obtain ⟨vs, e, r⟩ := R.lst st
    obtain ⟨v, hv, _⟩ := r.get (i := i) (List.getElem?_eq_getElem hi)
    exact ⟨vs, v, SqL.of e, hv⟩
  yld := fun i H A x H' _ R st hi hy => by
    obtain ⟨rfl, y⟩ := hy
    obtain ⟨vs, e, r⟩ := R.lst st
    obtain ⟨v, hv, r1⟩ := r.get (i := i) (List.getElem?_eq_getElem hi)
    have := y vs (SqL.of e)
    rw [hv] at this
    cases this
    refine ⟨.rfl, R, ?_⟩
    show Val K _ _ (ds.getD i .non)
    rw [getD_at hi]
    exact r1
  stop := fun i H A _ R st hi => by
    obtain ⟨vs, e, r⟩ := R.lst st
    exact ⟨vs, SqL.of e, by rw [r.length]; exact hi⟩
theorem loop_tup {K : Fg} {a : Addr} {ds : List D} {vs : List V} {H0 : Hp} (h : SqT K H0 a vs) (hv : Vls K H0 vs ds) : LoopOk K H0 (Itt K a) ⟨none, ds.length, fun i => ds.getD i .non⟩ where
  go := fun i H A n R _ hi => by
    obtain ⟨v, e, _⟩ := hv.get (i := i) (List.getElem?_eq_getElem hi)
    exact ⟨vs, v, n.tp _ _ h, e⟩
  yld := fun i H A x H' n R _ hi hy => by
    obtain ⟨rfl, y⟩ := hy
    obtain ⟨v, e, r1⟩ := hv.get (i := i) (List.getElem?_eq_getElem hi)
    have := y vs (n.tp _ _ h)
    rw [e] at this
    cases this
    refine ⟨.rfl, R, ?_⟩
    show Val K _ _ (ds.getD i .non)
    rw [getD_at hi]
    exact r1.mono n
  stop := fun i H A n R _ hi => ⟨vs, n.tp _ _ h, by rw [hv.length]; exact hi⟩
theorem loop_rng {K : Fg} {H0 : Hp} {lo : Int} {n : Nat} : LoopOk K H0 (Itr lo n) ⟨none, n, fun i => .int (lo + i)⟩ where
  go := fun i H A _ _ _ hi => hi
  yld := fun i H A x H' _ R _ hi hy => by
    obtain ⟨rfl, rfl⟩ := hy
    exact ⟨.rfl, R, .int _⟩
  stop := fun i H A _ _ _ hi => hi
theorem loop_str {K : Fg} {H0 : Hp} {x : Str} : LoopOk K H0 (Its x) ⟨none, (tl x).length, fun i => .str [(tl x).getD i 0]⟩ where
  go := fun i H A _ _ _ hi => by
    show i < x.cps.size
    simpa using hi
  yld := fun i H A z H' _ R _ hi hy => by
    obtain ⟨rfl, c, hc, rfl⟩ := hy
    refine ⟨.rfl, R, .strOf ?_⟩
    show [c] = [(tl x).getD i 0]
    have : (tl x)[i]? = some c := by rw [Array.getElem?_toList]; exact hc
    rw [List.getD_eq_getElem?_getD, this]
    rfl
  stop := fun i H A _ _ _ hi => by
    show x.cps.size ≤ i
    simpa using hi
theorem loop_rev {K : Fg} {H0 : Hp} {a : Addr} {ds : List D} : LoopOk K H0 (Itv K a ds.length) ⟨some (a, ds), ds.length, fun i => ds.getD (ds.length - 1 - i) .non⟩ where
  go := fun i H A _ R st hi => by
    have hi : i < ds.length := hi
    obtain ⟨vs, e, r⟩ := R.lst st
    obtain ⟨v, hv, _⟩ := r.get (i := ds.length - 1 - i) (List.getElem?_eq_getElem (by omega))
    exact ⟨hi, vs, v, SqL.of e, hv⟩
  yld := fun i H A x H' _ R st hi hy => by
    have hi : i < ds.length := hi
    obtain ⟨rfl, y⟩ := hy
    obtain ⟨vs, e, r⟩ := R.lst st
    obtain ⟨v, hv, r1⟩ := r.get (i := ds.length - 1 - i) (List.getElem?_eq_getElem (by omega))
    have := y vs (SqL.of e)
    rw [hv] at this
    cases this
    refine ⟨.rfl, R, ?_⟩
    show Val K _ _ (ds.getD (ds.length - 1 - i) .non)
    rw [getD_at (by omega)]
    exact r1
  stop := fun i H A _ _ _ hi => hi
theorem loop_revT {K : Fg} {a : Addr} {ds : List D} {vs : List V} {H0 : Hp} (h : SqT K H0 a vs) (hv : Vls K H0 vs ds) : LoopOk K H0 (RT.ItvT K a ds.length) ⟨none, ds.length, fun i => ds.getD (ds.length - 1 - i) .non⟩ where
  go := fun i H A n R _ hi => by
    have hi : i < ds.length := hi
    obtain ⟨v, e, _⟩ := hv.get (i := ds.length - 1 - i) (List.getElem?_eq_getElem (by omega))
    exact ⟨hi, vs, v, n.tp _ _ h, e⟩
  yld := fun i H A x H' n R _ hi hy => by
    have hi : i < ds.length := hi
    obtain ⟨rfl, y⟩ := hy
    obtain ⟨v, e, r1⟩ := hv.get (i := ds.length - 1 - i) (List.getElem?_eq_getElem (by omega))
    have := y vs (n.tp _ _ h)
    rw [e] at this
    cases this
    refine ⟨.rfl, R, ?_⟩
    show Val K _ _ (ds.getD (ds.length - 1 - i) .non)
    rw [getD_at (by omega)]
    exact r1.mono n
  stop := fun i H A _ _ _ hi => hi
/-- for x in a list | a tuple | a text: the three rules of the kind that stands there -/
def aIterL (a : AE) : AI := fun Γ A q x => a Γ A (fun d A1 => match d with
  | .ref a => onL A1 a fun ds => q ⟨some (a, ds), ds.length, fun i => ds.getD i .non⟩ A1
  | _ => False) x
theorem gi_list (h : PEA X W e te ae) : PIA X W tg e (iList X.K te) (aIterL ae) where
  pe := pi_list h.pe
  sim := fun σ H Γ A q x Q R S hh k kx => h.sim σ H Γ A _ x _ R S hh (fun H1 v d A1 n1 R1 v1 h1 => by
    cases d with
    | ref a =>
      obtain ⟨xs, ha, h1⟩ := onL_of h1
      obtain ⟨ws, e1, r1⟩ := R1.lst ha
      cases v1
      exact ⟨_, rfl, ⟨ws, SqL.of e1⟩, k H1 _ _ A1 n1 R1 loop_list ha h1⟩
    | _ => exact h1.elim) kx
def aIterT (a : AE) : AI := fun Γ A q x => a Γ A (fun d A1 => match d with
  | .tup ds => q ⟨none, ds.length, fun i => ds.getD i .non⟩ A1
  | _ => False) x
theorem gi_tup (h : PEA X W e te ae) : PIA X W tg e (iTup X.K te) (aIterT ae) where
  pe := pi_tup h.pe
  sim := fun σ H Γ A q x Q R S hh k kx => h.sim σ H Γ A _ x _ R S hh (fun H1 v d A1 n1 R1 v1 h1 => by
    cases d with
    | tup ds =>
      obtain ⟨p, vs, rfl, hp, hvs⟩ := v1.inv_tup
      exact ⟨_, rfl, ⟨vs, hp⟩, k H1 _ _ A1 n1 R1 (loop_tup hp hvs) trivial h1⟩
    | _ => exact h1.elim) kx
def aIterS (a : AE) : AI := fun Γ A q x => a Γ A (fun d A1 => match d with
  | .str cs => q ⟨none, cs.length, fun i => .str [cs.getD i 0]⟩ A1
  | _ => False) x
theorem gi_str (h : PEA X W e te ae) : PIA X W tg e (iStr te) (aIterS ae) where
  pe := pi_str h.pe
  sim := fun σ H Γ A q x Q R S hh k kx => h.sim σ H Γ A _ x _ R S hh (fun H1 v d A1 n1 R1 v1 h1 => by
    cases d with
    | str cs =>
      obtain ⟨z, rfl, rfl⟩ := v1.inv_str
      exact ⟨z, rfl, k H1 _ _ A1 n1 R1 loop_str trivial h1⟩
    | _ => exact h1.elim) kx
/-- either of three: a list, a tuple, a text -/
def aIter (a : AE) : AI := fun Γ A q x => a Γ A (fun d A1 => match d with
  | .ref a => onL A1 a fun ds => q ⟨some (a, ds), ds.length, fun i => ds.getD i .non⟩ A1
  | .tup ds => q ⟨none, ds.length, fun i => ds.getD i .non⟩ A1
  | .str cs => q ⟨none, cs.length, fun i => .str [cs.getD i 0]⟩ A1
  | _ => False) x
def iSeq (K : Fg) (te : TE) : TI := fun σ H R => te σ H fun x H1 => (∃ a, x = .ref a ∧ (∃ xs, SqL K H1 a xs) ∧ R (Itl K a) H1) ∨ (∃ a, x = .ref a ∧ (∃ xs, SqT K H1 a xs) ∧ R (Itt K a) H1) ∨ ∃ z, x = .str z ∧ R (Its z) H1
theorem pi_seq {l : Expr} {tl' : TE} (hl : PE X l tl') : PI X tg l (iSeq X.K tl') := by
  refine ⟨fun pins s σ H R I h => thn (hl.run pins s σ H _ I h) ?_⟩
  rintro v s1 ⟨x, H1, J, r1, q⟩
  rcases q with ⟨a, rfl, ⟨xs, hq⟩, q⟩ | ⟨a, rfl, ⟨xs, hq⟩, q⟩ | ⟨z, rfl, q⟩
  · cases r1
    obtain ⟨its, rv, p, hz⟩ := J.list hq
    refine wpAny_pyIter_list p.isList ⟨s1.heap.objs.size, [s1.heap.objs.size], _, _, H1, rfl, ?_, turn_list a _, ⟨_, Heap.get?_push_size _ rfl, rfl, rfl⟩, ?_, q⟩
    · exact J.kept (t' := s1.toks) fun b o e => Heap.get?_push_of_some _ e
    · intro b hb
      obtain rfl : b = s1.heap.objs.size := by simpa using hb
      exact J.fpOk (Nat.le_refl _) (J.hok.fresh (Nat.le_refl _))
  · cases r1
    obtain ⟨its, rv, p, hz⟩ := J.tuple hq
    refine wpAny_pyIter_tuple p ⟨s1.heap.objs.size, [s1.heap.objs.size], _, _, H1, rfl, ?_, turn_tuple a _, ⟨_, Heap.get?_push_size _ rfl, rfl, rfl⟩, ?_, q⟩
    · exact J.kept (t' := s1.toks) fun b o e => Heap.get?_push_of_some _ e
    · intro b hb
      obtain rfl : b = s1.heap.objs.size := by simpa using hb
      exact J.fpOk (Nat.le_refl _) (J.hok.fresh (Nat.le_refl _))
  · obtain ⟨t, rfl⟩ := r1
    cases ha : z.cps.all (· < 128)
    · exact wpAny_pyIter_wide ha (pi_one (tk := s1.toks) J _ (turn_str _ z t "str_iterator" (.inr rfl)) ⟨_, Heap.get?_push_size _ rfl, rfl, rfl⟩ q)
    · exact wpAny_pyIter_ascii ha (pi_one (tk := s1.toks) J _ (turn_str _ z t "str_ascii_iterator" (.inl rfl)) ⟨_, Heap.get?_push_size _ rfl, rfl, rfl⟩ q)
theorem gi_seq (h : PEA X W e te ae) : PIA X W tg e (iSeq X.K te) (aIter ae) where
  pe := pi_seq h.pe
  sim := fun σ H Γ A q x Q R S hh k kx => h.sim σ H Γ A _ x _ R S hh (fun H1 v d A1 n1 R1 v1 h1 => by
    cases d with
    | ref a =>
      obtain ⟨xs, ha, h1⟩ := onL_of h1
      obtain ⟨ws, e1, r1⟩ := R1.lst ha
      cases v1
      exact .inl ⟨_, rfl, ⟨ws, SqL.of e1⟩, k H1 _ _ A1 n1 R1 loop_list ha h1⟩
    | tup ds =>
      obtain ⟨p, vs, rfl, hp, hvs⟩ := v1.inv_tup
      exact .inr (.inl ⟨_, rfl, ⟨vs, hp⟩, k H1 _ _ A1 n1 R1 (loop_tup hp hvs) trivial h1⟩)
    | str cs =>
      obtain ⟨z, rfl, rfl⟩ := v1.inv_str
      exact .inr (.inr ⟨z, rfl, k H1 _ _ A1 n1 R1 loop_str trivial h1⟩)
    | _ => exact h1.elim) kx
theorem p62 : (2 : Int) ^ 62 = 4611686018427387904 := by decide
def aRng1 (as : AA) : AI := fun Γ A q x => as Γ A (fun ds A1 => match ds with
  | [.int j] => (-4611686018427387904 ≤ j ∧ j < 4611686018427387904) ∧ q ⟨none, j.toNat, fun i => .int (0 + i)⟩ A1
  | _ => False) x
def aRng2 (as : AA) : AI := fun Γ A q x => as Γ A (fun ds A1 => match ds with
  | [.int i, .int j] => (-4611686018427387904 ≤ i ∧ i < 4611686018427387904 ∧ -4611686018427387904 ≤ j ∧ j < 4611686018427387904) ∧ q ⟨none, (j - i).toNat, fun k => .int (i + k)⟩ A1
  | _ => False) x
theorem sim_rng1 {K : Fg} {ta : TA} {aa : AA} (h : SimA K W ta aa) (σ : L2.St) (H : Hp) (Γ : Gt) (A : Ah) (q : ItA → Ah → Prop) (x : AX) (Q : It → Hp → Prop) (R : RelA K H A) (S : Slots K H σ Γ) (hh : aRng1 aa Γ A q x)
    (k : ∀ H' J it A', Nxt K H H' → RelA K H' A' → LoopOk K H' J it → it.still A' → q it A' → Q J H') (kx : ∀ H' e A', Nxt K H H' → RelA K H' A' → x e A' → W (exC K e) (some e.d) σ H') : iRng1 ta σ H Q :=
  h σ H Γ A _ x _ R S hh (fun H1 vs ds A1 n1 R1 v1 h1 => by
    split at h1
    · obtain ⟨v, rfl, hv⟩ := v1.one
      cases hv
      exact ⟨_, rfl, by rw [p62]; exact h1.1.1, by rw [p62]; exact h1.1.2, k H1 _ _ A1 n1 R1 loop_rng trivial h1.2⟩
    · exact h1.elim) kx
theorem gi_rng1 {ta : TA} {aa : AA} (h : PAA X W [e] ta aa) (hm : X.mg "range" = none) (hg : Gl X "range" := by rfl) (hs : starEach [e] X.env = [(false, eval e X.env)] := by rfl) :
    PIA X W tg (.Call (.Name "range" p) [e] [] pos) (iRng1 ta) (aRng1 aa) := ⟨pi_range1 hg hm h.pe hs, sim_rng1 h.sim⟩
theorem gi_rng2 {e' : Expr} {ta : TA} {aa : AA} (h : PAA X W [e, e'] ta aa) (hm : X.mg "range" = none) (hg : Gl X "range" := by rfl) (hs : starEach [e, e'] X.env = [(false, eval e X.env), (false, eval e' X.env)] := by rfl) (hs2 : starEach [e'] X.env = [(false, eval e' X.env)] := by rfl) :
    PIA X W tg (.Call (.Name "range" p) [e, e'] [] pos) (iRng2 ta) (aRng2 aa) where
  pe := pi_range2 hg hm h.pe hs hs2
  sim := fun σ H Γ A q x Q R S hh k kx => h.sim σ H Γ A _ x _ R S hh (fun H1 vs ds A1 n1 R1 v1 h1 => by
    split at h1
    · obtain ⟨v, w, rfl, hv, hw⟩ := v1.two
      cases hv; cases hw
      exact ⟨_, _, rfl, by rw [p62]; exact h1.1, k H1 _ _ A1 n1 R1 loop_rng trivial h1.2⟩
    · exact h1.elim) kx
def aRev (a : AE) : AI := fun Γ A q x => a Γ A (fun d A1 => match d with
  | .ref a => onL A1 a fun ds => q ⟨some (a, ds), ds.length, fun i => ds.getD (ds.length - 1 - i) .non⟩ A1
  | .tup ds => q ⟨none, ds.length, fun i => ds.getD (ds.length - 1 - i) .non⟩ A1
  | _ => False) x
theorem gi_rev (h : PEA X W e te ae) (hm : X.mg "reversed" = none) (hg : Gl X "reversed" := by rfl) (hs : starEach [e] X.env = (false, eval e X.env) :: starEach [] X.env := by rfl) :
    PIA X W tg (.Call (.Name "reversed" p) [e] [] pos) (RT.iRevA X.K te) (aRev ae) where
  pe := RT.pi_revA hg hm h.pe hs
  sim := fun σ H Γ A q x Q R S hh k kx => h.sim σ H Γ A _ x _ R S hh (fun H1 v d A1 n1 R1 v1 h1 => by
    cases d with
    | ref a =>
      obtain ⟨xs, ha, h1⟩ := onL_of h1
      obtain ⟨ws, e1, r1⟩ := R1.lst ha
      cases v1
      have hl := r1.length
      exact ⟨_, ws, rfl, .inl ⟨SqL.of e1, by rw [hl]; exact k H1 _ _ A1 n1 R1 loop_rev ha h1⟩⟩
    | tup ds =>
      obtain ⟨p, vs, rfl, hp, hvs⟩ := v1.inv_tup
      have hl := hvs.length
      exact ⟨_, vs, rfl, .inr ⟨hp, by rw [hl]; exact k H1 _ _ A1 n1 R1 (loop_revT hp hvs) trivial h1⟩⟩
    | _ => exact h1.elim) kx
/-! ### while -/
def aWhile (c : AT) (tb : AS) : AS := fun D Γ A => ∃ Iv : Nat → Gt → Ah → Prop, (∃ m, Iv m Γ A) ∧ ∀ m Γ' A', Iv m Γ' A' →
  c Γ' A' (fun b A1 => bsel b (tb { D with nx := fun Γ2 A2 => ∃ m', m' < m ∧ Iv m' Γ2 A2, ct := fun Γ2 A2 => ∃ m', m' < m ∧ Iv m' Γ2 A2, bk := D.nx } Γ' A1) (D.nx Γ' A1)) fun e A1 => D.ex e Γ' A1
end
end GA

namespace GA
open PySem PySem.Spec PyProof.Rows L2 GV TL
section
variable {X : Cx} {W : WX} {c e : Expr} {es : List Expr} {body suite : List Stmt} {b₀ : Stmt} {tc : TT} {ac : AT} {tb : TS} {ab : AS} {t : TA} {at_ : AA} {pos p np pos' : Pos}
theorem gs_while (hp : PassesOwn (model X.prog X.w) X.A X.env X.xe) (hc : PTA X W c tc ac) (hb : PSsA X W body tb ab) : PSA X W (.While c body [] pos) (tWhile tc tb) (aWhile ac ab) where
  pe := ps_while hp hc.pe hb.pe
  sim := fun D AD σ H Γ A R S ⟨Iv, ⟨m0, h0⟩, turn⟩ k => by
    refine ⟨fun m σ' H' => ∃ Γ' A', Nxt X.K H H' ∧ RelA X.K H' A' ∧ Slots X.K H' σ' Γ' ∧ Iv m Γ' A', ⟨m0, Γ, A, .rfl, R, S, h0⟩, ?_⟩
    rintro m σ' H' ⟨Γ', A', n', R', S', hI⟩
    refine hc.sim σ' H' Γ' A' _ _ _ R' S' (turn m Γ' A' hI) (fun H1 b A1 n1 R1 h1 => ?_) fun H1 e A1 n1 R1 h1 => k.ex e σ' H1 Γ' A1 (n'.trans n1) R1 (S'.mono n1) h1
    have n01 := n'.trans n1
    cases b with
    | true =>
      refine ⟨fun σ2 H2 => ∃ Γ2 A2, Nxt X.K H H2 ∧ RelA X.K H2 A2 ∧ Slots X.K H2 σ2 Γ2 ∧ ∃ m', m' < m ∧ Iv m' Γ2 A2, fun σ2 H2 ⟨Γ2, A2, a1, a2, a3, m', hm, a4⟩ => ⟨m', hm, Γ2, A2, a1, a2, a3, a4⟩, ?_⟩
      exact hb.sim _ _ σ' H1 Γ' A1 R1 (S'.mono n1) (h1.1 rfl) ⟨fun σ5 H5 Γ5 A5 n5 R5 S5 h5 => ⟨Γ5, A5, n01.trans n5, R5, S5, h5⟩, (k.mono n01).rt, fun σ5 H5 Γ5 A5 n5 R5 S5 h5 => k.nx σ5 H5 Γ5 A5 (n01.trans n5) R5 S5 h5,
        fun σ5 H5 Γ5 A5 n5 R5 S5 h5 => ⟨Γ5, A5, n01.trans n5, R5, S5, h5⟩, (k.mono n01).ex⟩
    | false => exact k.nx σ' H1 Γ' A1 n01 R1 (S'.mono n1) (h1.2 rfl)
/-! ### raise -/
/-- what the text says of an own exception class: its name, its fields -/
structure ExcT0 (P : Program) (w : World) (K : Fg) (mg : Str → Option Value) (base : Heap) (x : Str) (ns : List Str) : Prop where
  n9 : ns.length ≤ 900
  gm : mg x = some (.ref (He.ga K x))
  oc : OexC K (He.ga K x)
  ex : ∃ (fI : Addr) (fd : FuncData) (ps : List Str), PySem.W.findIn K (.ref (He.ga K x)) "__init__" = some (some (.ref fI)) ∧ PySem.W.typeIn K (.ref fI) = some (.type "function") ∧
    FnOk P w K mg base (L2N.CX P w) 1 fI fd ps (spI (He.ga K x) ns) ∧ Binds K fd ps []
abbrev ExcT (X : Cx) (x : Str) (ns : List Str) : Prop := ExcT0 X.prog X.w X.K X.mg X.base x ns
def aRaise (x : Str) (ns : List Str) (as : AA) : AS := fun D Γ A => as Γ A (fun ds A1 => ds.length = ns.length ∧ ∀ d, A1 d = none → D.ex ⟨x, d⟩ Γ (updA A1 d (.xd (ns.zip ds).reverse))) fun e A' => D.ex e Γ A'
theorem zip_ok {K : Fg} {H : Hp} : ∀ {ns : List Str} {vs : List V} {ds : List D}, Vls K H vs ds → Paired (fun (p : Str × V) (q : Str × D) => p.1 = q.1 ∧ Val K H p.2 q.2) (ns.zip vs) (ns.zip ds)
  | [], _, _, _ => .nil
  | _ :: _, _, _, .nil => .nil
  | n :: ns, _, _, .cons h t => .cons ⟨rfl, h⟩ (zip_ok t)
theorem paired_app {α β : Type} {F : α → β → Prop} : ∀ {a : List α} {b : List β} {c : List α} {d : List β}, Paired F a b → Paired F c d → Paired F (a ++ c) (b ++ d)
  | _, _, _, _, .nil, h => h
  | _, _, _, _, .cons r t, h => .cons r (paired_app t h)
theorem paired_rev {α β : Type} {F : α → β → Prop} : ∀ {a : List α} {b : List β}, Paired F a b → Paired F a.reverse b.reverse
  | _, _, .nil => .nil
  | _, _, .cons r t => by
    rw [List.reverse_cons, List.reverse_cons]
    exact paired_app (paired_rev t) (.cons r .nil)
theorem far {K : Fg} {H Hf : Hp} {A : Ah} {d : Addr} {o : HO} {c : Cell} (R : RelA K H A) (hd : H d = none) (he : Hf d = some o) (keep : ∀ b o, H b = some o → Hf b = some o) (hc : CellOk K H c o) : Nxt K H Hf ∧ RelA K Hf (updA A d c) := by
  have n : Nxt K H Hf := by
    refine ⟨fun a xs hs => ?_, fun a o u hs => keep _ _ hs⟩
    rcases hs with hs | hs
    · refine .inl ?_
      rcases hs with hs | ⟨ob, hs⟩
      · exact .inl (keep _ _ hs)
      · exact .inr ⟨ob, keep _ _ hs⟩
    · exact .inr hs
  refine ⟨n, fun a c' e => ?_⟩
  by_cases had : a = d
  · subst had
    rw [updA_same] at e
    cases e
    exact ⟨o, he, hc.mono n⟩
  · rw [updA_ne had] at e
    obtain ⟨o', h1, h2⟩ := R a c' e
    exact ⟨o', keep _ _ h1, h2.mono n⟩
theorem gs_raise {x : Str} {ns : List Str} (T : ExcT X x ns) (hr : Room 2 X.A) (hc : X.calm = true) (tk : L2N.Takes X W) (ha : PAA X W (e :: es) t at_) (hg : Gl X x := by rfl) (hdb : (x == ("__debug__" : Str)) = false := by decide)
    (he : starEach (e :: es) X.env = (false, eval e X.env) :: starEach es X.env := by rfl) (hpl : (backTo pos (starEach es X.env)).any (·.1) = false := by rfl) :
    PSA X W (.Raise (some (.Call (.Name x p) (e :: es) [] pos)) none pos') (fun _ σ H => tMkO (He.ga X.K x) (spI (He.ga X.K x) ns) [] t σ H fun cls d H' => W cls d σ H') (aRaise x ns at_) := by
  obtain ⟨fI, fd, ps, iC, tI, F, hb⟩ := T.ex
  refine ⟨L2N.ps_raise hc tk (pmk_oexN T.oc iC tI F hr hb (L2N.passes_call tk fun _ _ _ _ z => z.elim) hg T.gm ha.pe hdb he hpl), ?_⟩
  intro D AD σ H Γ A R S hh k
  refine ha.sim σ H Γ A _ _ _ R S hh (fun H1 vs ds A1 n1 R1 v1 h1 => ?_) fun H' e A' n R' h' => k.ex e σ H' Γ A' n R' (S.mono n) h'
  refine mkO_pt (C := He.ga X.K x) (H1 := H1) (Q := fun cls d H' => W cls d σ H') T.n9 (by rw [v1.length]; exact h1.1) fun d Hf hd1 hf keep => ?_
  obtain ⟨nf, Rf⟩ := far R1 hd1 hf keep (.xd (paired_rev (zip_ok v1)))
  exact k.ex ⟨x, d⟩ σ Hf Γ _ (n1.trans nf) Rf (S.mono (n1.trans nf)) (h1.2 d (RelA.none R1 hd1))
/-! ### try: body / except GrantError as n: suite -/
theorem takesF {X : Cx} : L2N.Takes X WF := fun _ _ ⟨_, _, _, _, _, _, _, _, _, _, _, _, _, _, _, _, w⟩ => w.elim
/-- n: the clause's name in slot i; names: the classes that it is known to catch -/
def aTry (names : List Str) (i : Nat) (tb : AS) (su : Addr → Exn → AS) : AS := fun D Γ A => tb { D with ex := fun e Γ' A' => (e.cls ∈ names ∧ ∀ a, A' a = none → su a e ⟨fun Γ2 A2 => D.nx (Γ2.set i none) A2, D.rt, fun Γ2 A2 => D.bk (Γ2.set i none) A2, fun Γ2 A2 => D.ct (Γ2.set i none) A2, fun _ _ _ => False⟩ (Γ'.set i (some (.ref a))) A') } Γ A
/-- a plain exception object -/
def o0 (K : Fg) (e : Exn) : Obj := { cls := exC K e, dict := some e.d, data := .fields #[.none, .none, .none] }
def x0 : Value → Shared → Prop := fun _ _ => True
theorem gs_try {x n : Str} {i : Nat} {names : List Str} {tb : WX → List (Addr × Obj) → (Value → Shared → Prop) → TS} {ts : Addr → Obj → Exn → List (Addr × Obj) → TS} {su : Addr → Exn → AS} (hs : X.stack = X.env :: X.outer) (hf : X.env.frame = some X.env.locals) (hN : X.N.Nodup) (hi : X.N[i]? = some n) (hln : X.env.kindOf n = some .local)
    (hcn : Names X x (.ref (He.ga X.K x))) (hx : ∀ m ∈ names, PySem.W.exmOne X.K (.ref (He.ga X.K m)) (.ref (He.ga X.K x)) = some true) (tk : L2N.Takes X WF)
    (hb : ∀ (W : WX) (pn : List (Addr × Obj)) (xe : Value → Shared → Prop), L2N.Takes (X.tr pn xe) W → PassesOwn (model X.prog X.w) X.A X.env xe → PSsA (X.tr pn xe) W body (tb W pn xe) ab)
    
    (hsu : ∀ (a : Addr) (oe : Obj) (e : Exn) (pn : List (Addr × Obj)), e.cls ∈ names → L2N.Zn (exC X.K e) (some e.d) oe → (∃ vs, oe.data = .fields vs) → PSsA (X.suite a ((a, oe) :: pn)) WF (b₀ :: suite) (ts a oe e pn) (su a e))
    (hts : ∀ (a : Addr) (oe : Obj) (e : Exn) (pn : List (Addr × Obj)), ts a oe e pn = ts a (o0 X.K e) e [] := by intros; rfl) (htb : ∀ (W : WX) (pn : List (Addr × Obj)) (xe : Value → Shared → Prop), tb W pn xe = tb W [] x0 := by intros; rfl) :
    PSA X W (.Try body [.ExceptHandler (some (.Name x np)) (some n) (b₀ :: suite) pos'] [] [] pos)
      (fun D σ H => tb (wAs X.K (.ref (He.ga X.K x)) i (fun a cls d D σ H => ∃ e, cls = exC X.K e ∧ d = some e.d ∧ e.cls ∈ names ∧ ts a (o0 X.K e) e [] D σ H) WF D) [] x0 D σ H) (aTry names i ab su) where
  pe := L2N.ps_try_as hs hf hN hi hln hcn tk (fun W pn xe tk' ps => htb W pn xe ▸ (hb W pn xe tk' ps).pe) fun a oe cls d pn hz hf' => by
    refine ⟨fun pins s σ H D I h => ?_⟩
    obtain ⟨e, rfl, rfl, hm, h⟩ := h
    rw [← hts a oe e pn] at h
    exact (hsu a oe e pn hm hz hf').pe.run pins s σ H D I h
  sim := fun D AD σ H Γ A R S hh k => by
    have hbs : ∀ W : WX, SimS X.K W (tb W [] x0) ab := fun W => htb W [] _ ▸ (hb W [] (fun e s₁ => wpAny (model X.prog X.w) X.A (noteFrame e X.env) (fun _ s₂ => wpAny (model X.prog X.w) X.A (setFlight e none) (fun _ _ => True) X.xe s₂) X.xe s₁)
      (fun u s' ⟨a, B, sI, pins, σ, H, cls, d, eu, I, nb, up, sky, na, os, ag, w⟩ => by
        subst eu
        have hfr : X.A.frames = some (X.env :: X.outer) := by
          rw [← hs]
          exact I.ok.frames
        have sky' : Sky B (X.env :: X.outer) a (L2N.Zn cls d) X.env.locals s'.heap := by rw [← hs]; exact sky
        exact L2N.Sky.land L2N.Zn.steady hfr hf sky' fun _ _ _ => trivial) PassesOwn.looking).sim
    refine hbs _ D { AD with ex := fun e Γ' A' => (e.cls ∈ names ∧ ∀ a, A' a = none → su a e ⟨fun Γ2 A2 => AD.nx (Γ2.set i none) A2, AD.rt, fun Γ2 A2 => AD.bk (Γ2.set i none) A2, fun Γ2 A2 => AD.ct (Γ2.set i none) A2, fun _ _ _ => False⟩ (Γ'.set i (some (.ref a))) A') } σ H Γ A R S hh ⟨k.nx, k.rt, k.bk, k.ct, fun e σ' H' Γ' A' n' R' S' ⟨hm, h'⟩ => ?_⟩
    have hss : ∀ a e, e.cls ∈ names → SimS X.K WF (ts a (o0 X.K e) e []) (su a e) := fun a e hm => (hsu a (o0 X.K e) e [] hm ⟨rfl, rfl, fun vs hv => by cases hv; rfl⟩ ⟨_, rfl⟩).sim
    refine ⟨true, hx _ hm, fun _ a ha => ⟨e, rfl, rfl, hm, ?_⟩, fun z => Bool.noConfusion z⟩
    refine hss a e hm _ _ _ H' _ A' R' (S'.set (.ref a)) (h' a (RelA.none R' ha)) ⟨fun σ2 H2 Γ2 A2 n2 R2 S2 h2 => k.nx _ H2 _ A2 (n'.trans n2) R2 S2.unset h2, (k.mono n').rt, fun σ2 H2 Γ2 A2 n2 R2 S2 h2 => k.bk _ H2 _ A2 (n'.trans n2) R2 S2.unset h2,
      fun σ2 H2 Γ2 A2 n2 R2 S2 h2 => k.ct _ H2 _ A2 (n'.trans n2) R2 S2.unset h2, fun _ _ _ _ _ _ _ _ z => z.elim⟩
end
/-! ### a def's body -/
section
variable {P : Program} {w : World} {K : Fg} {mg : Str → Option Value} {base : Heap}
def startA (N : List Str) (ds : List D) : Gt := ds.map some ++ List.replicate (N.length - ds.length) none
theorem start_ok {H : Hp} {N : List Str} {vs : List V} {ds : List D} (h : Vls K H vs ds) : Slots K H (L2.start N vs) (startA N ds) := by
  refine ⟨by simp [L2.start, startA, h.length], fun i d e => ?_⟩
  unfold startA at e
  by_cases hi : i < ds.length
  · rw [List.getElem?_append_left (by simpa using hi), List.getElem?_map] at e
    cases q : ds[i]? with
    | none => rw [q] at e; cases e
    | some d' =>
      rw [q] at e
      cases e
      obtain ⟨v, hv, r⟩ := h.get q
      refine ⟨v, ?_, r⟩
      unfold L2.start
      rw [List.getElem?_append_left (by simp [h.length]; exact hi), List.getElem?_map, hv]
      rfl
  · rw [List.getElem?_append_right (by simpa using hi), List.getElem?_replicate] at e
    split at e <;> cases e
abbrev endsA (q : D → Ah → Prop) (x : AX) : AEnds := { nx := fun _ A => q .non A, rt := q, bk := fun _ _ => False, ct := fun _ _ => False, ex := fun e _ A => x e A }
/-- THE RULE for a def: its body's term, its body's abstract reading -/
theorem fnA_of {x qual : Str} {params : Arguments} {body : List Stmt} {scope : Scope} {dvs : List V} {kws : List (Str × V)} {f : Addr} {fd : FuncData} {N ps : List Str} {k : Nat} {sp : ASp} {as : AS}
    (F : FunD K x qual params body scope dvs kws f fd) (S : FnScope N ps scope) (len : ∀ ds A q e, sp ds A q e → ds.length = ps.length)
    (hbody : ∀ (cdv : Value) (A : Around) (outer : List Env) (s : Shared) (H : Hp) (E : XK), Room k (A.deeper (envOfC qual scope s.heap.objs.size f cdv)) →
      L2N.Takes (cxOf (L2N.CX P w) P w K mg base N qual scope f cdv A outer s H E) (fun cls d _ H => E cls d H) →
      PassesOwn (model P w) (A.deeper (envOfC qual scope s.heap.objs.size f cdv)) (envOfC qual scope s.heap.objs.size f cdv) (cxOf (L2N.CX P w) P w K mg base N qual scope f cdv A outer s H E).xe →
      ∃ ts, PSsA (cxOf (L2N.CX P w) P w K mg base N qual scope f cdv A outer s H E) (fun cls d _ H => E cls d H) body ts as)
    (pure : ∀ ds A q x, sp ds A q x → as (endsA q x) (startA N ds) A) : FnA P w K mg base (k + 1) f fd ps sp := by
  refine F.ok S (fun vs H Q E h => ?_) (fun cdv A outer s H vs Q E hr h => ?_)
  · obtain ⟨A, ds, q, x, _, hv, hs, _⟩ := h
    rw [hv.length]
    exact len _ _ _ _ hs
  · obtain ⟨Ab, ds, q, x, R, hv, hs, hq, hx⟩ := h
    obtain ⟨ts, T⟩ := hbody cdv A outer s H E hr (L2N.takes_of rfl rfl rfl rfl) (passes_of rfl)
    refine ⟨ts, T.pe, ?_⟩
    refine T.sim _ _ _ H _ Ab R (start_ok hv) (pure ds Ab q x hs) ⟨fun σ' H' Γ' A' n R' _ h' => hq H' .non .non A' n R' .non h', fun v H' d A' n R' v' h' => hq H' v d A' n R' v' h', fun _ _ _ _ _ _ _ h => h.elim, fun _ _ _ _ _ _ _ h => h.elim, fun e σ' H' Γ' A' n R' _ h' => hx H' e A' n R' h'⟩
/-! ### hot defs: called within an except suite, the handled exception may be handed in -/
abbrev HSp := Addr → Exn → ASp
def liftH (K : Fg) (cl : List Str) (sp : HSp) : Addr × Obj → Sp := fun p vs H Q E => ∃ e, e.cls ∈ cl ∧ L2N.Zn (exC K e) (some e.d) p.2 ∧ (∃ vs, p.2.data = .fields vs) ∧ lift K (sp p.1 e) vs H Q E
theorem fnH_of {cl : List Str} {x qual : Str} {params : Arguments} {body : List Stmt} {scope : Scope} {dvs : List V} {kws : List (Str × V)} {f : Addr} {fd : FuncData} {N ps : List Str} {k : Nat} {sp : HSp} {as : Addr → Exn → AS}
    (F : FunD K x qual params body scope dvs kws f fd) (S : FnScope N ps scope) (len : ∀ a e ds A q x, sp a e ds A q x → ds.length = ps.length)
    (hbody : ∀ (cdv : Value) (A : Around) (outer : List Env) (s : Shared) (H : Hp) (E : XK) (p : Addr × Obj) (e : Exn), e.cls ∈ cl → L2H.Hot1 A p → L2N.Zn (exC K e) (some e.d) p.2 → (∃ vs, p.2.data = .fields vs) → L2H.RoomH k (A.deeper (envOfC qual scope s.heap.objs.size f cdv)) →
      L2N.Takes (L2H.cxH (L2N.CX P w) P w K mg base N qual scope f cdv A outer s H E p) (fun cls d _ H => E cls d H) →
      PassesOwn (model P w) (A.deeper (envOfC qual scope s.heap.objs.size f cdv)) (envOfC qual scope s.heap.objs.size f cdv) (L2H.cxH (L2N.CX P w) P w K mg base N qual scope f cdv A outer s H E p).xe →
      ∃ ts, PSsA (L2H.cxH (L2N.CX P w) P w K mg base N qual scope f cdv A outer s H E p) (fun cls d _ H => E cls d H) body ts (as p.1 e))
    (pure : ∀ a e ds A q x, sp a e ds A q x → as a e (endsA q x) (startA N ds) A) : FnE P w K mg base (L2N.CX P w) (k + 1) f fd ps (liftH K cl sp) := by
  refine fnE_of F S (fun p vs H Q E h => ?_) (fun cdv A outer s H vs Q E p hot hr h => ?_)
  · obtain ⟨_, _, _, _, A, ds, q, x, _, hv, hs, _⟩ := h
    rw [hv.length]
    exact len _ _ _ _ _ _ hs
  · obtain ⟨e, hcl, hz, hf, Ab, ds, q, x, R, hv, hs, hq, hx⟩ := h
    obtain ⟨ts, T⟩ := hbody cdv A outer s H E p e hcl hot hz hf hr (L2N.takes_of rfl rfl rfl rfl) (passes_of rfl)
    refine ⟨ts, T.pe, ?_⟩
    refine T.sim _ _ _ H _ Ab R (start_ok hv) (pure p.1 e ds Ab q x hs) ⟨fun σ' H' Γ' A' n R' _ h' => hq H' .non .non A' n R' .non h', fun v H' d A' n R' v' h' => hq H' v d A' n R' v' h', fun _ _ _ _ _ _ _ h => h.elim, fun _ _ _ _ _ _ _ h => h.elim, fun e σ' H' Γ' A' n R' _ h' => hx H' e A' n R' h'⟩
end
/-- what the text says of a hot def -/
structure FnH0 (P : Program) (w : World) (K : Fg) (mg : Str → Option Value) (base : Heap) (cl : List Str) (x : Str) (k : Nat) (sp : HSp) : Prop where
  ex : ∃ (f : Addr) (fd : FuncData) (ps : List Str), FnE P w K mg base (L2N.CX P w) k f fd ps (liftH K cl sp) ∧ mg x = some (.ref f) ∧ PySem.W.keepIn K (.ref f) = true ∧ Binds K fd ps []
abbrev FndH (X : Cx) (cl : List Str) (x : Str) (k : Nat) (sp : HSp) : Prop := FnH0 X.prog X.w X.K X.mg X.base cl x k sp
section
variable {X : Cx} {W : WX} {e : Expr} {es : List Expr} {t : TA} {at_ : AA} {pos p : Pos} {a : Addr} {oe : Obj} {ε : Exn}
theorem hot_suite (hz : L2N.Zn (exC X.K ε) (some ε.d) oe) (hf : ∃ vs, oe.data = .fields vs) {pn : List (Addr × Obj)} : L2H.Hot1 (X.suite a pn).A (a, oe) := by
  obtain ⟨vs, hd⟩ := hf
  exact ⟨rfl, vs, hd, hz.2.2 vs hd⟩
theorem PE.imp {e : Expr} {t t' : TE} (h : PE X e t) (i : ∀ σ H Q, t' σ H Q → t σ H Q) : PE X e t' := ⟨fun pins s σ H Q I q => h.run pins s σ H Q I (i σ H Q q)⟩
theorem gh_call {cl : List Str} {k j : Nat} {x : Str} {sp : HSp} (F : FndH X cl x k sp) (hcl : ε.cls ∈ cl) (hr : L2H.RoomH j X.A) (hj : k ≤ j) (hot : L2H.Hot1 X.A (a, oe)) (hp : (a, oe) ∈ X.pn) (hz : L2N.Zn (exC X.K ε) (some ε.d) oe) (hf : ∃ vs, oe.data = .fields vs) (tk : L2N.Takes X W)
    (ha : PAA X W (e :: es) t at_) (hg : Gl X x := by rfl) (hdb : (x == ("__debug__" : Str)) = false := by decide)
    (he : starEach (e :: es) X.env = (false, eval e X.env) :: starEach es X.env := by rfl) (hpl : (backTo pos (starEach es X.env)).any (·.1) = false := by rfl) :
    PEA X W (.Call (.Name x p) (e :: es) [] pos) (tCallS (lift X.K (sp a ε)) (WE W) t) (aCall (sp a ε) at_) := by
  obtain ⟨f, fd, ps, F, hmg, hk, hb⟩ := F.ex
  exact ⟨pe_callE F (hr.mono hj) hot hp (fun vs H Q E h => ⟨ε, hcl, hz, hf, h⟩) hg hmg hk hb (fun σ => L2N.passAt tk σ) ha.pe hdb he hpl, sim_call ha.sim⟩
/-- isinstance(e, ..) of the handled exception -/
def aIsE (K : Fg) (a : Addr) (ε : Exn) : A1c := fun ds A q => (∃ fs, A ε.d = some (.xd fs)) ∧ match ds with
  | [.ref a', .ref D] => a' = a ∧ ∃ b, PySem.W.kitOne K (exC K ε) (.ref D) = some b ∧ q (.bl b) A
  | [.ref a', .ty T] => a' = a ∧ ∃ b, PySem.W.kitOne K (exC K ε) (.type T) = some b ∧ q (.bl b) A
  | [.ref a', .tup ds] => a' = a ∧ ∃ (Ds : List Addr) (b : Bool), ds = Ds.map D.ref ∧ PySem.W.kitAny K (exC K ε) (Ds.map Value.ref) = some b ∧ q (.bl b) A
  | _ => False
theorem vls_refs {K : Fg} {H : Hp} : ∀ {Ds : List Addr} {vs : List V}, Vls K H vs (Ds.map D.ref) → vs = Ds.map V.ref
  | [], _, .nil => rfl
  | a :: r, _, .cons h t => by
    cases h
    rw [vls_refs t]
    rfl
theorem sim_isE {K : Fg} : SimC K (GV.rIsE K (He.ga K ε.cls) a ε.d) (aIsE K a ε) := by
  intro H A vs ds q Q R hv h k
  obtain ⟨⟨fs, e1⟩, h⟩ := h
  obtain ⟨o, e2, e3⟩ := R _ _ e1
  cases e3
  refine ⟨⟨_, e2⟩, ?_⟩
  split at h
  · obtain ⟨v, w, rfl, h1, h2⟩ := hv.two
    cases h1; cases h2
    obtain ⟨rfl, b, g1, g2⟩ := h
    exact .inl ⟨_, b, rfl, g1, k H _ _ A .rfl R (.bl _) g2⟩
  · obtain ⟨v, w, rfl, h1, h2⟩ := hv.two
    cases h1; cases h2
    obtain ⟨rfl, b, g1, g2⟩ := h
    exact .inr (.inl ⟨_, b, rfl, g1, k H _ _ A .rfl R (.bl _) g2⟩)
  · obtain ⟨v, w, rfl, h1, h2⟩ := hv.two
    cases h1
    obtain ⟨rfl, Ds, b, rfl, g1, g2⟩ := h
    obtain ⟨t, us, rfl, ht, hus⟩ := h2.inv_tup
    have := vls_refs hus
    subst this
    exact .inr (.inr ⟨t, Ds, b, rfl, ht, g1, k H _ _ A .rfl R (.bl _) g2⟩)
  · exact h.elim
theorem ba_isE (T : EC X.K (He.ga X.K ε.cls)) (hz : L2N.Zn (exC X.K ε) (some ε.d) oe) (hf : ∃ vs, oe.data = .fields vs) (hp : (a, oe) ∈ X.pn) : BltA X (.builtin "isinstance") (GV.rIsE X.K (He.ga X.K ε.cls) a ε.d) (aIsE X.K a ε) := ⟨call_isE T hz hf hp, sim_isE⟩
/-- e.n -/
def aXf (a : Addr) (ε : Exn) (n : Str) (o : AE) : AE := fun Γ A q x => o Γ A (fun d A1 => match d with
  | .ref a' => a' = a ∧ ∃ fs, A1 ε.d = some (.xd fs) ∧ ∃ f, fs.lookup n = some f ∧ q f A1
  | _ => False) x
theorem lookup_ok {K : Fg} {H : Hp} {n : Str} : ∀ {ws : List (Str × V)} {fs : List (Str × D)} {f : D}, Paired (fun (p : Str × V) (q : Str × D) => p.1 = q.1 ∧ Val K H p.2 q.2) ws fs → fs.lookup n = some f → ∃ v, ws.lookup n = some v ∧ Val K H v f
  | _, _, _, .nil, e => by cases e
  | (m, v) :: ws, (m', d) :: fs, f, .cons ⟨h1, h2⟩ t, e => by
    dsimp only at h1
    subst h1
    rw [List.lookup_cons] at e ⊢
    cases hm : n == m with
    | true => rw [hm] at e; cases e; exact ⟨v, rfl, h2⟩
    | false => rw [hm] at e; exact lookup_ok t e
theorem gh_fld {o : Expr} {to : TE} {ao : AE} {n : Str} (T : XfC X.K (He.ga X.K ε.cls)) (hno : PySem.W.findIn X.K (.ref (He.ga X.K ε.cls)) n = some none) (hz : L2N.Zn (exC X.K ε) (some ε.d) oe) (hf : ∃ vs, oe.data = .fields vs) (hp : (a, oe) ∈ X.pn)
    (ho : PEA X W o to ao) (hb : attributeBase o n X.env (eval o X.env) = eval o X.env := by rfl) : PEA X W (.Attribute o n pos) (tXf a (exC X.K ε) (some ε.d) (He.ga X.K ε.cls) n to) (aXf a ε n ao) where
  pe := pe_xfP T hno hz hf hp ho.pe hb
  sim := fun σ H Γ A q x Q R S hh k kx => ho.sim σ H Γ A _ x _ R S hh (fun H1 v d A1 n1 R1 v1 h1 => by
    split at h1
    · obtain ⟨rfl, fs, e1, f, hl, h1⟩ := h1
      obtain ⟨o, e2, e3⟩ := R1 _ _ e1
      cases e3 with
      | xd hp' =>
        obtain ⟨w, hw, vw⟩ := lookup_ok hp' hl
        cases v1
        exact ⟨rfl, rfl, ε.d, _, w, rfl, e2, hw, k H1 w f A1 n1 R1 vw h1⟩
    · exact h1.elim) kx
/-- for in range while an exception is handled -/
structure PIHA (X : Cx) (W : WX) (tg iter : Expr) (wi : TI) (ai : AI) : Prop where
  pe : L2H.PIH X tg iter wi
  sim : ∀ (σ : L2.St) (H : Hp) (Γ : Gt) (A : Ah) (q : ItA → Ah → Prop) (x : AX) (Q : It → Hp → Prop), RelA X.K H A → Slots X.K H σ Γ → ai Γ A q x →
    (∀ H' J it A', Nxt X.K H H' → RelA X.K H' A' → LoopOk X.K H' J it → it.still A' → q it A' → Q J H') →
    (∀ H' e A', Nxt X.K H H' → RelA X.K H' A' → x e A' → W (exC X.K e) (some e.d) σ H') → wi σ H Q
theorem gh_rng1 {tg : Expr} {ta : TA} {aa : AA} (h : PAA X W [e] ta aa) (hm : X.mg "range" = none) (hg : Gl X "range" := by rfl) (hs : starEach [e] X.env = [(false, eval e X.env)] := by rfl) :
    PIHA X W tg (.Call (.Name "range" p) [e] [] pos) (iRng1 ta) (aRng1 aa) := ⟨L2H.pi_range1H hg hm h.pe hs, sim_rng1 h.sim⟩
theorem gh_for {tg iter : Expr} {body : List Stmt} {wi : TI} {ai : AI} {g : TG} {ag : AG} {tb : TS} {ab : AS} (hp : PassesOwn (model X.prog X.w) X.A X.env X.xe) (hc : L2H.HotC X) (hi : PIHA X W tg iter wi ai) (hg : PGA X tg g ag) (hb : PSsA X W body tb ab)
    (hs : ∀ x, foldedSetIterable iter X.env x = pure x := by intro _; rfl) : PSA X W (.For tg iter body [] pos) (tFor wi g tb) (aFor ai ag ab) :=
  ⟨L2H.ps_forH hp hc hi.pe hg.pe hb.pe hs, sim_for0 hi.sim hg hb.sim⟩
end
end GA

namespace GA
open PySem PySem.Spec PyProof.Rows L2 GV TL
/-! ### the head's facts -/
inductive Fx where
  | glo (x : Str)
  | free (x : Str)
  | int (x : Str) (i : Int)
  | str (x z : Str)
  | tup (x : Str) (vs : List He.Dv)
  | exc (x : Str)
  | noat (x f : Str)
  | ini (x : Str)
  | exm (x y : Str)
  | kit (x y : Str) (b : Bool)
  | kitT (x : Str) (T : String) (b : Bool)
def oexB (K : Fg) (C : Addr) : Bool := match K.lookup C with
  | some ⟨.type "type", _, .cls cd, sl⟩ => (match cd.mro, sl.toList with
    | .ref C' :: bm, [_, _, _, _, some (.builtin n), _] => C' == C && n == "ValueError.__new__" && !cd.hasDel && cd.hasDict && PySem.HandSPX.refsVE bm
    | _, _ => false)
  | _ => false
def excB (K : Fg) (C : Addr) : Bool := oexB K C && decide (PySem.W.findIn K (.ref C) "__setattr__" = some (some (.builtin "object.__setattr__"))) && decide (PySem.W.subIn K (.ref C) (.type "BaseException") = some true) &&
  decide (PySem.W.typeIn K (.ref C) = some (.type "type")) && PySem.W.keepIn K (.ref C) && xfB K C && (PySem.W.clsIn K C).isSome && decide (PySem.W.findIn K (.ref C) "__class__" = some (some (.builtin "object.__class__"))) &&
  decide (PySem.W.specialIn K (.builtin "object.__class__") "__get__" = some (some (.builtin "getset_descriptor.__get__"))) && decide (PySem.W.takesIn K (.builtin "object.__class__") = some true) && decide (PySem.W.mroIn K C (.type "object") = some true)
def Fx.ok (K : Fg) : Fx → Bool
  | .glo x => (He.Fa.glo x).ok K
  | .free x => (He.Fa.free x).ok K
  | .int x i => (He.Fa.int x i).ok K
  | .str x z => (He.Fa.str x z).ok K
  | .tup x vs => He.tupB K x vs && (He.Fa.glo x).ok K
  | .exc x => excB K (He.ga K x) && (He.Fa.glo x).ok K
  | .noat x f => decide (PySem.W.findIn K (.ref (He.ga K x)) f = some none)
  | .ini x => decide (PySem.W.findIn K (.ref (He.ga K x)) "__init__" = some (some (.ref (He.fAd K (x, some "__init__"))))) && decide (PySem.W.typeIn K (.ref (He.fAd K (x, some "__init__"))) = some (.type "function"))
  | .exm x y => decide (PySem.W.exmOne K (.ref (He.ga K x)) (.ref (He.ga K y)) = some true)
  | .kit x y b => decide (PySem.W.kitOne K (.ref (He.ga K x)) (.ref (He.ga K y)) = some b)
  | .kitT x T b => decide (PySem.W.kitOne K (.ref (He.ga K x)) (.type T) = some b)
theorem oexB_ok {K : Fg} {C : Addr} (h : oexB K C = true) : ∃ nm q N bs bm sn sub ab col dd k0 k1 k2 k3 k5, K.lookup C = some (excClassObj nm q C N bs bm true sn sub ab col dd k0 k1 k2 k3 k5 "ValueError.__new__") ∧ PySem.HandSPX.refsVE bm = true := by
  unfold oexB at h
  split at h
  · rename_i dd cd sl ho
    split at h
    · rename_i C' bm k0 k1 k2 k3 n k5 hm hs
      simp only [Bool.and_eq_true, beq_iff_eq, Bool.not_eq_true'] at h
      obtain ⟨⟨⟨⟨rfl, rfl⟩, hdel⟩, hdct⟩, hr⟩ := h
      obtain ⟨nm, bs, mro, ns, qn, hd, sn, sub, ab, col, del⟩ := cd
      dsimp only at hm hdel hdct
      subst hm hdel hdct
      have hsl : sl = #[k0, k1, k2, k3, some (.builtin "ValueError.__new__"), k5] := by
        obtain ⟨l⟩ := sl
        simp only at hs
        rw [hs]
      subst hsl
      exact ⟨nm, qn, ns, bs, bm, sn, sub, ab, col, dd, k0, k1, k2, k3, k5, ho, hr⟩
    · cases h
  · cases h
structure ExcK (K : Fg) (C : Addr) : Prop where
  oc : OexC K C
  ec : EC K C
theorem excB_ok {K : Fg} {C : Addr} (h : excB K C = true) : ExcK K C := by
  unfold excB at h
  simp only [Bool.and_eq_true, decide_eq_true_eq] at h
  obtain ⟨⟨⟨⟨⟨⟨⟨⟨⟨⟨h1, h2⟩, h3⟩, h4⟩, h5⟩, h6⟩, h7⟩, h8⟩, h9⟩, h10⟩, h11⟩ := h
  exact ⟨⟨oexB_ok h1, h2, h3, h4, h5⟩, ⟨h7, xfB_ok h6, h8, h9, h10, h11⟩⟩
abbrev AlX : Type := Bool × List He.FnW
def obsX (fx : List Fx) (fn : List He.DefD) (K : Fg) : AlX := ((fx.all fun f => f.ok K) && fn.all fun d => d.ok K, fn.map fun d => He.fnW K d.at_)
def SaysX (fx : List Fx) (fn : List He.DefD) (K : Fg) : Prop := obsX fx fn K = (true, fn.map He.DefD.val)
def obsXG (n : Nat) (fx : List Fx) (fn : List He.DefD) (g : Addr → Option Obj) : AlX := obsX fx fn (He.frG g (He.asD g n))
def hookX (n : Nat) (fx : List Fx) (fn : List He.DefD) : PySem.W.Hook where
  α := AlX
  obs := fun s => obsXG n fx fn s.heap.get?
  val := fun _ => (true, fn.map He.DefD.val)
  says := fun _ h => ∃ K : Fg, K.In h ∧ SaysX fx fn K
  of := fun _ _ e => ⟨_, He.frG_in, e⟩
  keeps := fun _ _ _ ⟨K, hK, c⟩ k => ⟨K, PySem.W.Frag.In.keeps hK k, c⟩
theorem obsXG_eq {n : Nat} {fx : List Fx} {fn : List He.DefD} {g : Addr → Option Obj} {s : Shared} (h : ∀ a, g a = s.heap.get? a) : obsXG n fx fn g = (hookX n fx fn).obs s := by
  have e : g = s.heap.get? := funext h
  rw [e] <;> rfl
section
variable {fx : List Fx} {fn : List He.DefD} {K : Fg}
theorem SaysX.fact (c : SaysX fx fn K) (i : Nat) {f : Fx} (h : fx[i]? = some f := by rfl) : f.ok K = true := by
  have c0 : ((fx.all fun f => f.ok K) && fn.all fun d => d.ok K) = true := congrArg (fun z : AlX => z.1) c
  exact List.all_eq_true.mp (Bool.and_eq_true_iff.mp c0).1 f (List.mem_of_getElem? h)
theorem SaysX.def_ (c : SaysX fx fn K) (i : Nat) {d : He.DefD} (h : fn[i]? = some d := by rfl) : ∃ fd, FunD K d.name d.qual d.params d.body d.scope (d.dvs K) (d.kws K) (He.fAd K d.at_) fd := by
  have c0 : ((fx.all fun f => f.ok K) && fn.all fun d => d.ok K) = true := congrArg (fun z : AlX => z.1) c
  have e : fn.map (fun d => He.fnW K d.at_) = fn.map He.DefD.val := congrArg (fun z : AlX => z.2) c
  have e2 : (fn.map fun d => He.fnW K d.at_)[i]? = (fn.map He.DefD.val)[i]? := by rw [e]
  rw [List.getElem?_map, List.getElem?_map, h] at e2
  exact He.DefD.funD (Option.some.inj e2) (List.all_eq_true.mp (Bool.and_eq_true_iff.mp c0).2 d (List.mem_of_getElem? h))
end
/-! ### what is found in the facts -/
section
variable {K : Fg} {h : Heap} {mg : Str → Option Value}
theorem glo_mg (X : K.In h) (G : h.Ns mainGlobals mg) {x : Str} (c : (Fx.glo x).ok K = true) : mg x = some (.ref (He.ga K x)) := He.glo_ok X G c
theorem free_mg (X : K.In h) (G : h.Ns mainGlobals mg) {x : Str} (c : (Fx.free x).ok K = true) : mg x = none := He.free_ok X G c
theorem int_mg (X : K.In h) (G : h.Ns mainGlobals mg) {x : Str} {i : Int} (c : (Fx.int x i).ok K = true) : ∃ t, mg x = some (.int i t) := He.int_ok X G c
theorem str_mg (X : K.In h) (G : h.Ns mainGlobals mg) {x z : Str} (c : (Fx.str x z).ok K = true) : ∃ t, mg x = some (.str z t) := He.str_ok X G c
theorem tup_mg (X : K.In h) (G : h.Ns mainGlobals mg) {x : Str} {vs : List He.Dv} (c : (Fx.tup x vs).ok K = true) : mg x = some (.ref (He.ga K x)) ∧ ∀ H, SqT K H (He.ga K x) (vs.map (He.Dv.v K)) := by
  have c' : (He.tupB K x vs && (He.Fa.glo x).ok K) = true := c
  obtain ⟨h1, h2⟩ := Bool.and_eq_true_iff.mp c'
  exact ⟨He.glo_ok X G h2, fun H => He.tupB_ok h1 H⟩
theorem exc_mg (X : K.In h) (G : h.Ns mainGlobals mg) {x : Str} (c : (Fx.exc x).ok K = true) : mg x = some (.ref (He.ga K x)) ∧ ExcK K (He.ga K x) := by
  have c' : (excB K (He.ga K x) && (He.Fa.glo x).ok K) = true := c
  obtain ⟨h1, h2⟩ := Bool.and_eq_true_iff.mp c'
  exact ⟨He.glo_ok X G h2, excB_ok h1⟩
theorem noat_ok {x f : Str} (c : (Fx.noat x f).ok K = true) : PySem.W.findIn K (.ref (He.ga K x)) f = some none := of_decide_eq_true c
theorem ini_ok {x : Str} (c : (Fx.ini x).ok K = true) : PySem.W.findIn K (.ref (He.ga K x)) "__init__" = some (some (.ref (He.fAd K (x, some "__init__")))) ∧ PySem.W.typeIn K (.ref (He.fAd K (x, some "__init__"))) = some (.type "function") := by
  have c' : (decide (PySem.W.findIn K (.ref (He.ga K x)) "__init__" = some (some (.ref (He.fAd K (x, some "__init__"))))) && decide (PySem.W.typeIn K (.ref (He.fAd K (x, some "__init__"))) = some (.type "function"))) = true := c
  obtain ⟨h1, h2⟩ := Bool.and_eq_true_iff.mp c'
  exact ⟨of_decide_eq_true h1, of_decide_eq_true h2⟩
theorem exm_ok {x y : Str} (c : (Fx.exm x y).ok K = true) : PySem.W.exmOne K (.ref (He.ga K x)) (.ref (He.ga K y)) = some true := of_decide_eq_true c
theorem kit_ok {x y : Str} {b : Bool} (c : (Fx.kit x y b).ok K = true) : PySem.W.kitOne K (.ref (He.ga K x)) (.ref (He.ga K y)) = some b := of_decide_eq_true c
theorem kitT_ok {x : Str} {T : String} {b : Bool} (c : (Fx.kitT x T b).ok K = true) : PySem.W.kitOne K (.ref (He.ga K x)) (.type T) = some b := of_decide_eq_true c
end
end GA

namespace GA
open PySem PySem.Spec PyProof.Rows L2 GV TL
/-! ### the module's constants -/
section
variable {X : Cx} {W : WX} {pos : Pos}
theorem ga_globS {x z : Str} (hm : ∃ t, X.mg x = some (.str z t)) (hg : Gl X x := by rfl) (hd : (x == ("__debug__" : Str)) = false := by decide) : PEA X W (.Name x pos) (tC (.str z)) (aC (.str (tl z))) := by
  obtain ⟨t, hm⟩ := hm
  exact ga_glob hm ⟨t, rfl⟩ (fun _ => .str z) hg hd
theorem ga_globI {x : Str} {i : Int} (hm : ∃ t, X.mg x = some (.int i t)) (hg : Gl X x := by rfl) (hd : (x == ("__debug__" : Str)) = false := by decide) : PEA X W (.Name x pos) (tC (.int i)) (aC (.int i)) := by
  obtain ⟨t, hm⟩ := hm
  exact ga_glob hm ⟨t, rfl⟩ (fun _ => .int i) hg hd
theorem ga_globC {x : Str} {a : Addr} (hm : X.mg x = some (.ref a)) (hg : Gl X x := by rfl) (hd : (x == ("__debug__" : Str)) = false := by decide) : PEA X W (.Name x pos) (tC (.ref a)) (aC (.ref a)) :=
  ga_glob hm rfl (fun _ => .ref a) hg hd
structure GlobT (K : Fg) (mg : Str → Option Value) (x : Str) (vs : List V) (ds : List D) : Prop where
  mg : mg x = some (.ref (He.ga K x))
  at_ : ∀ H, SqT K H (He.ga K x) vs
  rel : ∀ H, Vls K H vs ds
theorem ga_globT {x : Str} {vs : List V} {ds : List D} (h : GlobT X.K X.mg x vs ds) (hg : Gl X x := by rfl) (hd : (x == ("__debug__" : Str)) = false := by decide) : PEA X W (.Name x pos) (tC (.ref (He.ga X.K x))) (aC (.tup ds)) :=
  ga_glob h.mg rfl (fun H => .tup (h.at_ H) (h.rel H)) hg hd
end
/-! ### the end -/
abbrev CXA (P : Program) : CXT := fun o H s E u s' => ∃ w : World, L2N.CX P w o H s E u s'
theorem fnOk_any {P : Program} {w : World} {K : Fg} {mg : Str → Option Value} {base : Heap} {k : Nat} {f : Addr} {fd : FuncData} {ps : List Str} {sp : Sp} (F : FnOk P w K mg base (L2N.CX P w) k f fd ps sp) : FnOk P w K mg base (CXA P) k f fd ps sp :=
  ⟨F.len, fun A outer s H args us vs Q E a b c d e => codeAny_mono (F.run A outer s H args us vs Q E a b c d e) fun r s' h => by
    cases r with
    | ok y => cases y <;> exact h
    | error e => exact ⟨w, h⟩⟩
theorem cxa_no {P : Program} (H : Hp) (s : Shared) (e : Value) (s' : Shared) (h : CXA P [] H s (fun _ _ _ => False) e s') : False := by
  obtain ⟨w, a, B, H', cls, d, _, _, _, _, _, _, _, h⟩ := h
  exact h
theorem lift_law {K : Fg} {H : Hp} {a : Addr} {ns : List Int} {sp : ASp} {Q : VK} {E : XK} (o : Only H) (h : SqL K H a (ns.map V.int)) (hs : ∀ A, sp [.lof (ns.map D.int)] A (fun d _ => d = .bl true) fun _ _ => False) (hq : ∀ H', Q (.bl true) H') : lift K sp [.ref a] H Q E := by
  have hv : Vls K H (ns.map V.int) (ns.map D.int) := by
    clear h hs
    induction ns with
    | nil => exact .nil
    | cons i r ih => exact .cons (.int i) ih
  refine ⟨fun _ => none, [.lof (ns.map D.int)], _, _, fun a c e => (by cases e), .cons (.lof (SqF.of o h) hv) .nil, hs _, fun H' v d A' _ _ hv hd => ?_, fun _ _ _ _ _ z => z.elim⟩
  subst hd
  cases hv
  exact hq H'
end GA

namespace GA
open PySem PySem.Spec PyProof.Rows L2 GV TL
/-! ### list comprehensions -/
def wipeG (Γ : Gt) : List Nat → Gt
  | [] => Γ
  | v :: vs => (wipeG Γ vs).set v none
theorem Slots.wipe {K : Fg} {H : Hp} {σ : L2.St} {Γ : Gt} (s : Slots K H σ Γ) : ∀ vs : List Nat, Slots K H (L2.wipe σ vs) (wipeG Γ vs)
  | [] => s
  | _ :: vs => (Slots.wipe s vs).unset
theorem wipe_set {σ : L2.St} {i : Nat} {x : Option V} : ∀ {vs : List Nat}, (i ∈ vs → L2.wipe (σ.set i x) vs = L2.wipe σ vs) ∧ (i ∉ vs → L2.wipe (σ.set i x) vs = (L2.wipe σ vs).set i x)
  | [] => ⟨nofun, fun _ => rfl⟩
  | v :: vs => by
    obtain ⟨h1, h2⟩ := wipe_set (σ := σ) (i := i) (x := x) (vs := vs)
    constructor
    · intro h
      show (L2.wipe (σ.set i x) vs).set v none = (L2.wipe σ vs).set v none
      by_cases hi : i ∈ vs
      · rw [h1 hi]
      · rw [h2 hi]
        rcases List.mem_cons.mp h with rfl | h
        · rw [List.set_set]
        · exact (hi h).elim
    · intro h
      show (L2.wipe (σ.set i x) vs).set v none = ((L2.wipe σ vs).set v none).set i x
      rw [h2 fun z => h (List.mem_cons_of_mem _ z)]
      exact List.set_comm _ _ fun e => h (e ▸ List.mem_cons_self)
/-- a target that writes to the block's own slots alone -/
def TgW (vs : List Nat) (g : TG) : Prop := ∀ v σ H Q, g v σ H Q → g v σ H fun σ2 H2 => L2.wipe σ2 vs = L2.wipe σ vs ∧ Q σ2 H2
def TgWs (vs : List Nat) (g : TGs) : Prop := ∀ v σ H Q, g v σ H Q → g v σ H fun σ2 H2 => L2.wipe σ2 vs = L2.wipe σ vs ∧ Q σ2 H2
theorem tw_name {vs : List Nat} {i : Nat} (h : i ∈ vs) : TgW vs (gName i) := fun _ _ _ _ q => ⟨wipe_set.1 h, q⟩
theorem tw_nil {vs : List Nat} : TgWs vs gNil := fun _ _ _ _ ⟨e, q⟩ => ⟨e, rfl, q⟩
theorem tw_cons {vs : List Nat} {t : TG} {u : TGs} (mono : ∀ v σ H (Q Q' : L2.St → Hp → Prop), t v σ H Q → (∀ σ' H', Q σ' H' → Q' σ' H') → t v σ H Q') (h : TgW vs t) (hu : TgWs vs u) : TgWs vs (gCons t u) := fun _ σ H Q ⟨v, r, e, q⟩ => by
  refine ⟨v, r, e, ?_⟩
  refine mono _ _ _ _ _ (h v σ H _ q) fun σ' H' ⟨e1, q1⟩ => ?_
  have := hu r σ' H' Q q1
  rw [e1] at this
  exact this
theorem tw_consN {vs : List Nat} {i : Nat} {u : TGs} (h : i ∈ vs) (hu : TgWs vs u) : TgWs vs (gCons (gName i) u) := tw_cons (fun _ _ _ _ _ q k => k _ _ q) (tw_name h) hu
theorem tw_tup {vs : List Nat} {K : Fg} {n : Nat} {t : TGs} (h : TgWs vs t) : TgW vs (gTup K n t) := fun _ σ H Q ⟨a, xs, e, hq, hl, q⟩ => ⟨a, xs, e, hq, hl, h xs σ H Q q⟩
section
variable {X : Cx} {W : WX} {elt tg iter : Expr} {ifs : List Expr} {scope : Scope} {own : List (Str × Nat)} {pos p : Pos} {wi : TI} {ai : AI} {ag : AG} {at_ : AT} {ae : AE}
structure PTsA (X : Cx) (W : WX) (ifs : List Expr) (tt : TT) (at_ : AT) : Prop where
  pe : PTs X ifs tt
  sim : SimT X.K W tt at_
def aYes : AT := fun _ A q _ => q true A
theorem gts_nil : PTsA X W [] tYes aYes := ⟨pts_nil, fun σ H Γ A q x Q R S h k _ => k H true A .rfl R h⟩
theorem gts_one {c : Expr} {t : TT} (h : PTA X W c t at_) : PTsA X W [c] t at_ := ⟨pts_one h.pe, h.sim⟩
/-- how a comprehension's walk is read -/
@[irreducible] def lcR (it : ItA) (A1 : Ah) (g : AG) (c : AT) (e : AE) (vs : List Nat) (Γ : Gt) (q : D → Ah → Prop) : Prop := ∀ p, A1 p = none → ∃ Inv : Nat → List D → Ah → Prop, Inv 0 [] (updA A1 p (.lst [])) ∧
  (∀ i acc A', i ≤ it.n → Inv i acc A' → it.still A' ∧ A' p = some (.lst acc)) ∧
  (∀ i acc A', i < it.n → Inv i acc A' → g (it.item i) (wipeG Γ vs) A' fun Γ2 A2 => c Γ2 A2 (fun b A3 => bsel b (e Γ2 A3 (fun y A4 => ∃ ac, A4 p = some (.lst ac) ∧ ac.length < big ∧ Inv (i + 1) (ac ++ [y]) (updA A4 p (.lst (ac ++ [y])))) fun _ _ => False) (∃ ac, A3 p = some (.lst ac) ∧ Inv (i + 1) ac A3)) fun _ _ => False) ∧
  ∀ acc A', Inv it.n acc A' → q (.ref p) A'
def aLc (wi : AI) (g : AG) (c : AT) (e : AE) (vs : List Nat) : AE := fun Γ A q x => wi Γ A (fun it A1 => lcR it A1 g c e vs Γ q) x
theorem sim_lc {K : Fg} {g : TG} {tt : TT} {te : TE} {vs : List Nat} (hi : ∀ (σ : L2.St) (H : Hp) (Γ : Gt) (A : Ah) (q : ItA → Ah → Prop) (x : AX) (Q : It → Hp → Prop), RelA K H A → Slots K H σ Γ → ai Γ A q x →
    (∀ H' J it A', Nxt K H H' → RelA K H' A' → LoopOk K H' J it → it.still A' → q it A' → Q J H') → (∀ H' e A', Nxt K H H' → RelA K H' A' → x e A' → W (exC K e) (some e.d) σ H') → wi σ H Q)
    (hg : ∀ (v : V) (d : D) (σ : L2.St) (H : Hp) (Γ : Gt) (A : Ah) (q : Gt → Ah → Prop) (Q : L2.St → Hp → Prop), RelA K H A → Slots K H σ Γ → Val K H v d → ag d Γ A q → (∀ σ' H' Γ' A', Nxt K H H' → RelA K H' A' → Slots K H' σ' Γ' → q Γ' A' → Q σ' H') → g v σ H Q)
    (tw : TgW vs g) (ht : SimT K WF tt at_) (he : SimE K WF te ae) : SimE K W (tLc wi g tt te vs) (aLc ai ag at_ ae vs) := fun σ H Γ A q x Q R S hh k kx =>
  hi σ H Γ A _ x _ R S hh (fun H1 J it A1 n1 R1 L st h1 => by
    intro D hD
    unfold lcR at h1
    obtain ⟨Iv, h0, hs, hturn, hd⟩ := h1 D (R1.none hD)
    have n2 : Nxt K H1 (upd H1 D (.lst [])) := .new hD
    refine ⟨fun i m H' => m = it.n - i ∧ i ≤ it.n ∧ ∃ acc A', Nxt K H1 H' ∧ RelA K H' A' ∧ Iv i acc A', ⟨it.n, by omega, Nat.zero_le _, [], _, n2, R1.new hD (.lst .nil), h0⟩, ?_⟩
    rintro i m H' ⟨rfl, hle, acc, A', n', R', hI⟩
    obtain ⟨st', hacc⟩ := hs i acc A' hle hI
    by_cases hlt : i < it.n
    · refine .inr ⟨L.go i H' A' n' R' st' hlt, fun H2 => ∃ acc2 A2, Nxt K H1 H2 ∧ RelA K H2 A2 ∧ Iv (i + 1) acc2 A2, fun H2 ⟨acc2, A2, q⟩ => ⟨it.n - (i + 1), by omega, rfl, hlt, acc2, A2, q⟩, fun y H2 hy => ?_⟩
      obtain ⟨n3, R3, V3⟩ := L.yld i H' A' y H2 n' R' st' hlt hy
      have hw : L2.wipe (L2.wipe σ vs) vs = L2.wipe σ vs := by
        apply List.ext_getElem?
        intro j
        by_cases hj : j ∈ vs
        · have a1 : ∀ τ : L2.St, (L2.wipe τ vs)[j]? = if j < τ.length then some none else none := by
            intro τ
            cases e : (L2.wipe τ vs)[j]? with
            | none => rw [if_neg]; rw [List.getElem?_eq_none_iff, L2.wipe_length] at e; omega
            | some o =>
              cases o with
              | none =>
                rw [if_pos]
                have := (List.getElem?_eq_some_iff.mp e).1
                rw [L2.wipe_length] at this
                exact this
              | some v => exact ((L2.wipe_some e).2 hj).elim
          rw [a1, a1, L2.wipe_length]
        · rw [L2.wipe_out hj]
      have hg1 := hg y (it.item i) (L2.wipe σ vs) H2 (wipeG Γ vs) A' _ (fun σ2 H3 => tt σ2 H3 fun b H4 => if b = true then te σ2 H4 fun y H5 => ∃ acc, H5 D = some (.lst acc) ∧ acc.length < sizeLine ∧ (fun H2 => ∃ acc2 A2, Nxt K H1 H2 ∧ RelA K H2 A2 ∧ Iv (i + 1) acc2 A2) (upd H5 D (.lst (acc ++ [y]))) else (fun H2 => ∃ acc2 A2, Nxt K H1 H2 ∧ RelA K H2 A2 ∧ Iv (i + 1) acc2 A2) H4) R3 ((S.wipe vs).mono ((n1.trans n').trans n3)) V3 (hturn i acc A' hlt hI) (fun σ2 H3 Γ2 A2 n4 R4 S4 h4 => by
        refine ht σ2 H3 Γ2 A2 _ _ _ R4 S4 h4 (fun H4 b A3 n5 R5 h5 => ?_) (fun _ _ _ _ _ z => z.elim)
        have n05 := ((n'.trans n3).trans n4).trans n5
        cases b with
        | false =>
          obtain ⟨ac, e, h5⟩ := h5.2 rfl
          exact ⟨ac, A3, n05, R5, h5⟩
        | true =>
          refine he σ2 H4 Γ2 A3 _ _ _ R5 (S4.mono n5) (h5.1 rfl) (fun H5 z f A4 n6 R6 V6 h6 => ?_) (fun _ _ _ _ _ z => z.elim)
          obtain ⟨ac, e, hb, h6⟩ := h6
          obtain ⟨ws, e2, r2⟩ := R6.lst e
          have n7 : Nxt K H5 (upd H5 D (.lst (ws ++ [z]))) := .set e2 noTup_lst
          refine ⟨ws, e2, by rw [r2.length]; exact hb, ac ++ [f], _, (n05.trans n6).trans n7, R6.set e2 noTup_lst (.lst (r2.append (.cons V6 .nil))), h6⟩)
      have := tw y (L2.wipe σ vs) H2 _ hg1
      rw [hw] at this
      exact this
    · have he : i = it.n := by omega
      subst he
      exact .inl ⟨L.stop _ H' A' n' R' st' (Nat.le_refl _), k H' _ _ A' (n1.trans n') R' (.ref D) (hd acc A' hI)⟩) kx
theorem ga_lc {g : Shared → Hp → Addr → List (Str × Addr) → List Addr → TG} {tt : Shared → Hp → Addr → List (Str × Addr) → List Addr → TT} {te : Shared → Hp → Addr → List (Str × Addr) → List Addr → TE} (hc : X.calm = true) (hN : X.N.Nodup) (hi : PIA X W tg iter wi ai) (ok : BlkOk X.N X.env.scope scope own)
    (hg : ∀ (s : Shared) (H : Hp) (C : Addr) (cl : List (Str × Addr)) (fp : List Addr), PGA (X.blk s H scope (compEnvC scope cl C X.env) fp) tg (g s H C cl fp) ag)
    (ht : ∀ (s : Shared) (H : Hp) (C : Addr) (cl : List (Str × Addr)) (fp : List Addr), PTsA (X.blk s H scope (compEnvC scope cl C X.env) fp) WF ifs (tt s H C cl fp) at_)
    (he : ∀ (s : Shared) (H : Hp) (C : Addr) (cl : List (Str × Addr)) (fp : List Addr), PEA (X.blk s H scope (compEnvC scope cl C X.env) fp) WF elt (te s H C cl fp) ae)
    (tw : TgW (own.map (·.2)) (g X.s_0 X.H_0 0 [] []))
    (eg : ∀ (s : Shared) (H : Hp) (C : Addr) (cl : List (Str × Addr)) (fp : List Addr), g s H C cl fp = g X.s_0 X.H_0 0 [] [] := by intros; rfl)
    (et : ∀ (s : Shared) (H : Hp) (C : Addr) (cl : List (Str × Addr)) (fp : List Addr), tt s H C cl fp = tt X.s_0 X.H_0 0 [] [] := by intros; rfl)
    (ee : ∀ (s : Shared) (H : Hp) (C : Addr) (cl : List (Str × Addr)) (fp : List Addr), te s H C cl fp = te X.s_0 X.H_0 0 [] [] := by intros; rfl) (hs : ∀ x, foldedSetIterable iter X.env x = pure x := by intro _; rfl) :
    PEA X W (.ListComp elt [⟨tg, iter, ifs, 0⟩] scope pos) (tLc wi (g X.s_0 X.H_0 0 [] []) (tt X.s_0 X.H_0 0 [] []) (te X.s_0 X.H_0 0 [] []) (own.map (·.2))) (aLc ai ag at_ ae (own.map (·.2))) where
  pe := pe_lc hc hN hi.pe ok (fun s H C cl fp => eg s H C cl fp ▸ (hg s H C cl fp).pe) (fun s H C cl fp => et s H C cl fp ▸ (ht s H C cl fp).pe) (fun s H C cl fp => ee s H C cl fp ▸ (he s H C cl fp).pe) hs
  sim := sim_lc hi.sim (hg X.s_0 X.H_0 0 [] []).sim tw (ht X.s_0 X.H_0 0 [] []).sim (he X.s_0 X.H_0 0 [] []).sim
theorem gs_setLc {i : Nat} {y : Str} {py spos : Pos} {g : Shared → Hp → Addr → List (Str × Addr) → List Addr → TG} {tt : Shared → Hp → Addr → List (Str × Addr) → List Addr → TT} {te : Shared → Hp → Addr → List (Str × Addr) → List Addr → TE} (hc : X.calm = true) (hN : X.N.Nodup) (hi : PIA X W tg iter wi ai) (ok : BlkOk X.N X.env.scope scope own)
    (hg : ∀ (s : Shared) (H : Hp) (C : Addr) (cl : List (Str × Addr)) (fp : List Addr), PGA (X.blk s H scope (compEnvC scope cl C X.env) fp) tg (g s H C cl fp) ag)
    (ht : ∀ (s : Shared) (H : Hp) (C : Addr) (cl : List (Str × Addr)) (fp : List Addr), PTsA (X.blk s H scope (compEnvC scope cl C X.env) fp) WF ifs (tt s H C cl fp) at_)
    (he : ∀ (s : Shared) (H : Hp) (C : Addr) (cl : List (Str × Addr)) (fp : List Addr), PEA (X.blk s H scope (compEnvC scope cl C X.env) fp) WF elt (te s H C cl fp) ae)
    (tw : TgW (own.map (·.2)) (g X.s_0 X.H_0 0 [] [])) (hy : X.N[i]? = some y := by rfl) (hyl : X.env.scope.names.lookup y = some .local := by rfl)
    (eg : ∀ (s : Shared) (H : Hp) (C : Addr) (cl : List (Str × Addr)) (fp : List Addr), g s H C cl fp = g X.s_0 X.H_0 0 [] [] := by intros; rfl)
    (et : ∀ (s : Shared) (H : Hp) (C : Addr) (cl : List (Str × Addr)) (fp : List Addr), tt s H C cl fp = tt X.s_0 X.H_0 0 [] [] := by intros; rfl)
    (ee : ∀ (s : Shared) (H : Hp) (C : Addr) (cl : List (Str × Addr)) (fp : List Addr), te s H C cl fp = te X.s_0 X.H_0 0 [] [] := by intros; rfl) (hs : ∀ x, foldedSetIterable iter X.env x = pure x := by intro _; rfl)
    (hsw : swapsWith (.ListComp elt [⟨tg, iter, ifs, 0⟩] scope pos) (some (.Name y py)) spos.line X.env = pure true := by rfl) :
    PSA X W (.Assign [.Name y py] (.ListComp elt [⟨tg, iter, ifs, 0⟩] scope pos) spos) (tAsg (tLc wi (g X.s_0 X.H_0 0 [] []) (tt X.s_0 X.H_0 0 [] []) (te X.s_0 X.H_0 0 [] []) (own.map (·.2))) (gName i)) (aAsg (aLc ai ag at_ ae (own.map (·.2))) (agName i)) where
  pe := ps_setLc hc hN hy hyl hsw hi.pe ok (fun s H C cl fp => eg s H C cl fp ▸ (hg s H C cl fp).pe) (fun s H C cl fp => et s H C cl fp ▸ (ht s H C cl fp).pe) (fun s H C cl fp => ee s H C cl fp ▸ (he s H C cl fp).pe) hs
  sim := sim_asg (sim_lc hi.sim (hg X.s_0 X.H_0 0 [] []).sim tw (ht X.s_0 X.H_0 0 [] []).sim (he X.s_0 X.H_0 0 [] []).sim) (gg_name (pos := py) hN hy (.inl hyl) (.inr hyl))
end
end GA

namespace GA
open PySem PySem.Spec PyProof.Rows L2 GV TL
section
variable {X : Cx} {W : WX} {a b c e o : Expr} {es : List Expr} {ta tb tc te to : TE} {aa ab ac ae ao : AE} {t : TA} {at_ : AA} {pos apos cpos p p2 tpos : Pos} {elts : List Expr} {kk : Nat} {tg : Expr}
/-! ### enumerate of a list -/
theorem loop_enum {K : Fg} {a : Addr} {ds : List D} {H0 : Hp} : LoopOk K H0 (Ite K a) ⟨some (a, ds), ds.length, fun i => .tup [.int (i : Nat), ds.getD i .non]⟩ where
  go := fun i H A n R st hi => by
    have st : A a = some (.lst ds) := st
    have hi : i < ds.length := hi
    obtain ⟨ws, e1, r1⟩ := R.lst st
    obtain ⟨v, e, _⟩ := r1.get (i := i) (List.getElem?_eq_getElem hi)
    exact ⟨ws, v, SqL.of e1, e⟩
  yld := fun i H A x H' n R st hi hy => by
    have st : A a = some (.lst ds) := st
    have hi : i < ds.length := hi
    obtain ⟨ws, e1, r1⟩ := R.lst st
    obtain ⟨v, e, rv⟩ := r1.get (i := i) (List.getElem?_eq_getElem hi)
    obtain ⟨T, y, rfl, hT, rfl, hx⟩ := hy
    have := hx ws (SqL.of e1)
    rw [e] at this
    cases this
    have n2 : Nxt K H (upd H T (.tup [.int (i : Nat), v])) := .new hT
    refine ⟨n2, R.ext hT, ?_⟩
    show Val K _ _ (D.tup [.int (i : Nat), ds.getD i .non])
    rw [getD_at hi]
    exact .tup (.inl (.inl (upd_same ..))) (.cons (.int _) (.cons (rv.mono n2) .nil))
  stop := fun i H A n R st hi => by
    have st : A a = some (.lst ds) := st
    obtain ⟨ws, e1, r1⟩ := R.lst st
    exact ⟨ws, SqL.of e1, by rw [r1.length]; exact hi⟩
def aEnum (as : AA) : AI := fun Γ A q x => as Γ A (fun ds A1 => match ds with
  | [.ref a] => onL A1 a fun ds => q ⟨some (a, ds), ds.length, fun i => .tup [.int (i : Nat), ds.getD i .non]⟩ A1
  | _ => False) x
theorem gi_enum (h : PAA X W [e] t at_) (hm : X.mg "enumerate" = none) (hg : Gl X "enumerate" := by rfl) (hs : starEach [e] X.env = [(false, eval e X.env)] := by rfl) :
    PIA X W (.Tuple elts kk tpos) (.Call (.Name "enumerate" p) [e] [] pos) (iEnum X.K t) (aEnum at_) where
  pe := pi_enum hg hm h.pe hs
  sim := fun σ H Γ A q x Q R S hh k kx => h.sim σ H Γ A _ x _ R S hh (fun H1 vs ds A1 n1 R1 v1 h1 => by
    split at h1
    · obtain ⟨v, rfl, hv⟩ := v1.one
      cases hv
      obtain ⟨xs, ha, h1⟩ := onL_of h1
      obtain ⟨ws, e1, r1⟩ := R1.lst ha
      exact ⟨_, ws, rfl, SqL.of e1, k H1 _ _ A1 n1 R1 loop_enum ha h1⟩
    · exact h1.elim) kx
/-! ### lstrip of signs -/
theorem drop_while (p : Nat → Bool) : ∀ l : List Nat, l.drop (l.takeWhile p).length = l.dropWhile p
  | [] => rfl
  | c :: l => by
    cases h : p c with
    | true => simp only [List.takeWhile_cons, List.dropWhile_cons, h, if_true, List.length_cons, List.drop_succ_cons]; exact drop_while p l
    | false => simp [List.takeWhile_cons, List.dropWhile_cons, h]
theorem tl_lstrip (x y : Str) : tl (Txt.lstripChars x y) = (tl x).dropWhile fun c => decide (c ∈ tl y) := by
  unfold Txt.lstripChars
  rw [stripBy_eq]
  unfold stripHi stripLo
  rw [if_pos rfl, if_neg (by decide), tl_strSub_end]
  have : y.cps.contains = fun c => decide (c ∈ tl y) := by
    funext c
    rw [Bool.eq_iff_iff]
    simp [tl]
  rw [this]
  exact drop_while _ _
def aLstrip (o s : AE) : AE := fun Γ A q x => o Γ A (fun d A1 => match d with
  | .str cs => s Γ A1 (fun e A2 => match e with
    | .str ch => cs.length ≤ big ∧ q (.str (cs.dropWhile fun c => decide (c ∈ ch))) A2
    | _ => False) x
  | _ => False) x
theorem ga_lstrip (ho : PEA X W o to ao) (he : PEA X W e te ae) (hs : starEach [e] X.env = [(false, eval e X.env)] := by rfl) (hb : attributeBase o "lstrip" X.env (eval o X.env) = eval o X.env := by rfl) (hl : (apos.endLine == pos.line) = true := by rfl) :
    PEA X W (.Call (.Attribute o "lstrip" apos) [e] [] pos) (tM1 (fun x xs H Q => ∃ a b, x = .str a ∧ xs = [.str b] ∧ a.length ≤ sizeLine ∧ Q (.str (Txt.lstripChars a b)) H) to te) (aLstrip ao ae) where
  pe := pe_m1 PySem.F.slot_str_lstrip PySem.F.type_str_lstrip mt_lstripChars ho.pe he.pe hs hb hl
  sim := fun σ H Γ A q x Q R S h k kx => ho.sim σ H Γ A _ x _ R S h (fun H1 v d A1 n1 R1 v1 h1 => by
    cases d with
    | str cs =>
      obtain ⟨z, rfl, rfl⟩ := v1.inv_str
      refine ⟨⟨z, rfl⟩, he.sim σ H1 Γ A1 _ x _ R1 (S.mono n1) h1 (fun H2 w f A2 n2 R2 v2 h2 => ?_) fun H2 e A2 n2 R2 h2 => kx H2 e A2 (n1.trans n2) R2 h2⟩
      cases f with
      | str sep =>
        obtain ⟨y, rfl, rfl⟩ := v2.inv_str
        refine ⟨z, y, rfl, rfl, by have := h2.1; rw [big_eq, len_tl]; exact this, ?_⟩
        exact k _ _ _ A2 (n1.trans n2) R2 (.strOf (tl_lstrip z y)) h2.2
      | _ => exact h2.elim
    | _ => exact h1.elim) kx
end
end GA

namespace GA
open PySem PySem.Spec PyProof.Rows L2 GV TL
/-! ### dicts with numbers and texts for keys -/
section
variable {κ : Type} [DecidableEq κ]
def getD' (kvs : List (κ × D)) (k : κ) : Option D := (kvs.find? fun kv => decide (kv.1 = k)).map (·.2)
def putD (kvs : List (κ × D)) (k : κ) (v : D) : List (κ × D) :=
  if (kvs.any fun kv => decide (kv.1 = k)) = true then kvs.map (fun kv => if kv.1 = k then (kv.1, v) else kv) else kvs ++ [(k, v)]
abbrev RelKV (K : Fg) (H : Hp) (ws : List (κ × V)) (kvs : List (κ × D)) : Prop := Paired (fun (p : κ × V) (q : κ × D) => p.1 = q.1 ∧ Val K H p.2 q.2) ws kvs
theorem relkv_get {K : Fg} {H : Hp} {k : κ} : ∀ {ws : List (κ × V)} {kvs : List (κ × D)}, RelKV K H ws kvs → (∀ d, getD' kvs k = some d → ∃ v, valV ws k = some v ∧ Val K H v d) ∧ (getD' kvs k = none → valV ws k = none) ∧ (ws.any fun kv => decide (kv.1 = k)) = kvs.any fun kv => decide (kv.1 = k)
  | _, _, .nil => ⟨fun _ e => (by cases e), fun _ => rfl, rfl⟩
  | (a, v) :: ws, (b, d) :: kvs, .cons ⟨h1, h2⟩ t => by
    dsimp only at h1
    subst h1
    obtain ⟨g1, g2, g3⟩ := relkv_get (k := k) t
    by_cases hk : a = k
    · refine ⟨fun d' e => ?_, fun e => ?_, ?_⟩
      · simp only [getD', List.find?_cons, hk, decide_true, Option.map_some, Option.some.injEq] at e
        subst e
        exact ⟨v, valV_pos hk, h2⟩
      · simp [getD', List.find?_cons, hk] at e
      · simp [hk]
    · refine ⟨fun d' e => ?_, fun e => ?_, ?_⟩
      · rw [valV_neg hk]
        refine g1 d' ?_
        simpa [getD', List.find?_cons, hk] using e
      · rw [valV_neg hk]
        refine g2 ?_
        simpa [getD', List.find?_cons, hk] using e
      · simp only [List.any_cons, hk, decide_false, Bool.false_or]
        exact g3
theorem relkv_map {K : Fg} {H : Hp} {k : κ} {v : V} {d : D} (hv : Val K H v d) : ∀ {ws : List (κ × V)} {kvs : List (κ × D)}, RelKV K H ws kvs → RelKV K H (ws.map fun kv => if kv.1 = k then (kv.1, v) else kv) (kvs.map fun kv => if kv.1 = k then (kv.1, d) else kv)
  | _, _, .nil => .nil
  | (a, v') :: ws, (b, d') :: kvs, .cons ⟨h1, h2⟩ t => by
    dsimp only at h1
    subst h1
    rw [List.map_cons, List.map_cons]
    refine .cons ?_ (relkv_map hv t)
    by_cases e : a = k
    · rw [if_pos e, if_pos e]; exact ⟨rfl, hv⟩
    · rw [if_neg e, if_neg e]; exact ⟨rfl, h2⟩
theorem relkv_put {K : Fg} {H : Hp} {k : κ} {v : V} {d : D} {ws : List (κ × V)} {kvs : List (κ × D)} (h : RelKV K H ws kvs) (hv : Val K H v d) : RelKV K H (putK ws k v) (putD kvs k d) := by
  unfold putK putD
  rw [(relkv_get (k := k) h).2.2]
  split
  · exact relkv_map hv h
  · exact paired_app h (.cons ⟨rfl, hv⟩ .nil)
theorem relkv_len {K : Fg} {H : Hp} {ws : List (κ × V)} {kvs : List (κ × D)} (h : RelKV K H ws kvs) : ws.length = kvs.length := Paired.length h
end
/-- a key of a number or a text -/
def keyOf : D → Option Key
  | .int i => some (.inl i)
  | .str cs => some (.inr ⟨cs.toArray⟩)
  | _ => none
theorem keyOf_ok {K : Fg} {H : Hp} {v : V} {d : D} {k : Key} (hv : Val K H v d) (h : keyOf d = some k) : v = kV k := by
  cases d with
  | int i => cases h; cases hv; rfl
  | str cs =>
    obtain ⟨x, rfl, rfl⟩ := hv.inv_str
    cases h
    rfl
  | _ => cases h
theorem RelA.dic {K : Fg} {H : Hp} {A : Ah} {a : Addr} {kvs : List (Key × D)} (R : RelA K H A) (h : A a = some (.dic kvs)) : ∃ ws, H a = some (.dK ws) ∧ RelKV K H ws kvs := by
  obtain ⟨o, h1, h2⟩ := R a _ h
  cases h2 with
  | dic hv => exact ⟨_, h1, hv⟩
def onD (A : Ah) (a : Addr) (k : List (Key × D) → Prop) : Prop := ∃ kvs, A a = some (.dic kvs) ∧ k kvs
section
variable {X : Cx} {W : WX} {o i e value : Expr} {pos pos' : Pos} {td ty tv : TE} {ao ai av : AE}
def aDNew : AE := fun _ A q _ => ∀ p, A p = none → q (.ref p) (updA A p (.dic []))
theorem ga_dnew : PEA X W (.Dict [] [] pos) tDNewK aDNew := ⟨pe_dnewK, fun σ H Γ A q x Q R S h k _ p hp => k _ _ _ _ (.new hp) (R.new hp (.dic .nil)) (.ref p) (h p (R.none hp))⟩
def aDGet (o i : AE) : AE := fun Γ A q x => o Γ A (fun d A1 => i Γ A1 (fun k A2 => match d with
  | .ref a => onD A2 a fun kvs => ∃ ky v, keyOf k = some ky ∧ getD' kvs ky = some v ∧ q v A2
  | _ => False) x) x
theorem ga_dget (hu : X.A.units + 64 < cLine) (ho : PEA X W o td ao) (hi : PEA X W i ty ai) (hs : NoSl i := by exact fun _ _ => rfl) : PEA X W (.Subscript o i pos) (tDGet td ty) (aDGet ao ai) where
  pe := pe_dget (by omega) ho.pe hi.pe hs
  sim := fun σ H Γ A q x Q R S h k kx => ho.sim σ H Γ A _ x _ R S h (fun H1 v d A1 n1 R1 v1 h1 => hi.sim σ H1 Γ A1 _ x _ R1 (S.mono n1) h1 (fun H2 w f A2 n2 R2 v2 h2 => by
    cases d with
    | ref a =>
      obtain ⟨kvs, e, ky, u, hk, hg, h2⟩ := h2
      obtain ⟨ws, e1, r1⟩ := R2.dic e
      cases v1
      obtain ⟨z, hz, rz⟩ := (relkv_get (k := ky) r1).1 u hg
      have := keyOf_ok v2 hk
      subst this
      exact ⟨a, z, rfl, hz ▸ DGet.k e1, k H2 z u A2 (n1.trans n2) R2 rz h2⟩
    | _ => exact h2.elim) fun H2 e A2 n2 R2 h2 => kx H2 e A2 (n1.trans n2) R2 h2) kx
def aDIn (i o : AE) : AE := fun Γ A q x => i Γ A (fun k A1 => o Γ A1 (fun d A2 => match d with
  | .ref a => onD A2 a fun kvs => ∃ ky, keyOf k = some ky ∧ q (.bl (getD' kvs ky).isSome) A2
  | _ => False) x) x
def aDNi (i o : AE) : AE := fun Γ A q x => i Γ A (fun k A1 => o Γ A1 (fun d A2 => match d with
  | .ref a => onD A2 a fun kvs => ∃ ky, keyOf k = some ky ∧ q (.bl (!(getD' kvs ky).isSome)) A2
  | _ => False) x) x
theorem dget_any {K : Fg} {H : Hp} {a : Addr} {ws : List (Key × V)} {kvs : List (Key × D)} {ky : Key} (e1 : H a = some (.dK ws)) (r1 : RelKV K H ws kvs) : ∃ o : Option V, DGet H a (kV ky) o ∧ o.isSome = (getD' kvs ky).isSome := by
  obtain ⟨g1, g2, _⟩ := relkv_get (k := ky) r1
  refine ⟨valV ws ky, .k e1, ?_⟩
  cases h : getD' kvs ky with
  | none => rw [g2 h]; rfl
  | some d => obtain ⟨v, e, _⟩ := g1 d h; rw [e]; rfl
theorem sim_din {K : Fg} (hi : SimE K W ty ai) (ho : SimE K W td ao) : SimE K W (tDIn ty td) (aDIn ai ao) := fun σ H Γ A q x Q R S h k kx =>
  hi σ H Γ A _ x _ R S h (fun H1 v d A1 n1 R1 v1 h1 => ho σ H1 Γ A1 _ x _ R1 (S.mono n1) h1 (fun H2 w f A2 n2 R2 v2 h2 => by
    cases f with
    | ref a =>
      obtain ⟨kvs, e, ky, hk, h2⟩ := h2
      obtain ⟨ws, e1, r1⟩ := R2.dic e
      cases v2
      have := keyOf_ok v1 hk
      subst this
      obtain ⟨ov, g, ei⟩ := dget_any (ky := ky) e1 r1
      exact ⟨a, ov, rfl, g, by rw [ei]; exact k H2 _ _ A2 (n1.trans n2) R2 (.bl _) h2⟩
    | _ => exact h2.elim) fun H2 e A2 n2 R2 h2 => kx H2 e A2 (n1.trans n2) R2 h2) kx
theorem sim_dni {K : Fg} (hi : SimE K W ty ai) (ho : SimE K W td ao) : SimE K W (tDNotIn ty td) (aDNi ai ao) := fun σ H Γ A q x Q R S h k kx =>
  hi σ H Γ A _ x _ R S h (fun H1 v d A1 n1 R1 v1 h1 => ho σ H1 Γ A1 _ x _ R1 (S.mono n1) h1 (fun H2 w f A2 n2 R2 v2 h2 => by
    cases f with
    | ref a =>
      obtain ⟨kvs, e, ky, hk, h2⟩ := h2
      obtain ⟨ws, e1, r1⟩ := R2.dic e
      cases v2
      have := keyOf_ok v1 hk
      subst this
      obtain ⟨ov, g, ei⟩ := dget_any (ky := ky) e1 r1
      exact ⟨a, ov, rfl, g, by rw [ei]; exact k H2 _ _ A2 (n1.trans n2) R2 (.bl _) h2⟩
    | _ => exact h2.elim) fun H2 e A2 n2 R2 h2 => kx H2 e A2 (n1.trans n2) R2 h2) kx
theorem ga_din (hu : X.A.units + 64 < cLine) (hi : PEA X W i ty ai) (ho : PEA X W o td ao) (h1 : behindInMarks .In o = false := by rfl) : PEA X W (.Compare i [.In] [o] pos) (tDIn ty td) (aDIn ai ao) := ⟨pe_cmp (pc_din (by omega) hi.pe ho.pe) h1, sim_din hi.sim ho.sim⟩
theorem ga_dni (hu : X.A.units + 64 < cLine) (hi : PEA X W i ty ai) (ho : PEA X W o td ao) (h1 : behindInMarks .NotIn o = false := by rfl) : PEA X W (.Compare i [.NotIn] [o] pos) (tDNotIn ty td) (aDNi ai ao) := ⟨pe_cmp (pc_dnotin (by omega) hi.pe ho.pe) h1, sim_dni hi.sim ho.sim⟩
theorem gt_din (hu : X.A.units + 64 < cLine) (hi : PEA X W i ty ai) (ho : PEA X W o td ao) (h1 : behindInMarks .In o = false := by rfl) : PTA X W (.Compare i [.In] [o] pos) (tB (tDIn ty td)) (aTest (aDIn ai ao)) := ⟨pt_cmp (pc_din (by omega) hi.pe ho.pe) h1, sim_test (sim_din hi.sim ho.sim)⟩
theorem gt_dni (hu : X.A.units + 64 < cLine) (hi : PEA X W i ty ai) (ho : PEA X W o td ao) (h1 : behindInMarks .NotIn o = false := by rfl) : PTA X W (.Compare i [.NotIn] [o] pos) (tB (tDNotIn ty td)) (aTest (aDNi ai ao)) := ⟨pt_cmp (pc_dnotin (by omega) hi.pe ho.pe) h1, sim_test (sim_dni hi.sim ho.sim)⟩
def aDPut (o i v : AE) : AS := fun D Γ A => v Γ A (fun d A1 => o Γ A1 (fun l A2 => i Γ A2 (fun k A3 => match l with
  | .ref a => onD A3 a fun kvs => ∃ ky, keyOf k = some ky ∧ kvs.length < big ∧ D.nx Γ (updA A3 a (.dic (putD kvs ky d)))
  | _ => False) fun e A' => D.ex e Γ A') fun e A' => D.ex e Γ A') fun e A' => D.ex e Γ A'
theorem gs_dput (hu : X.A.units + 64 < cLine) (ho : PEA X W o td ao) (hi : PEA X W i ty ai) (hv : PEA X W value tv av) (hs : swapsWith value (some (.Subscript o i pos')) pos.line X.env = pure false := by rfl) :
    PSA X W (.Assign [.Subscript o i pos'] value pos) (sDPut td ty tv) (aDPut ao ai av) where
  pe := ps_dput (by omega) ho.pe hi.pe hv.pe hs
  sim := fun D AD σ H Γ A R S hh k => hv.sim σ H Γ A _ _ _ R S hh (fun H1 v d A1 n1 R1 v1 h1 => ho.sim σ H1 Γ A1 _ _ _ R1 (S.mono n1) h1 (fun H2 w f A2 n2 R2 v2 h2 => hi.sim σ H2 Γ A2 _ _ _ R2 (S.mono (n1.trans n2)) h2 (fun H3 z g A3 n3 R3 v3 h3 => by
    cases f with
    | ref a =>
      obtain ⟨kvs, e, ky, hk, hb, h3⟩ := h3
      obtain ⟨ws, e1, r1⟩ := R3.dic e
      cases v2
      have := keyOf_ok v3 hk
      subst this
      have n4 : Nxt X.K H3 (upd H3 a (.dK (putK ws ky v))) := .set e1 noTup_dK
      have n13 := n1.trans (n2.trans n3)
      exact ⟨a, _, rfl, .k e1 (by rw [relkv_len r1]; exact hb), k.nx σ _ Γ _ (n13.trans n4) (R3.set e1 noTup_dK (.dic (relkv_put r1 (v1.mono (n2.trans n3))))) (S.mono (n13.trans n4)) h3⟩
    | _ => exact h3.elim) fun H' e A' n R' h' => k.ex e σ H' Γ A' ((n1.trans n2).trans n) R' (S.mono ((n1.trans n2).trans n)) h') fun H' e A' n R' h' => k.ex e σ H' Γ A' (n1.trans n) R' (S.mono (n1.trans n)) h') fun H' e A' n R' h' => k.ex e σ H' Γ A' n R' (S.mono n) h'
end
end GA

namespace GA
open PySem PySem.Spec PyProof.Rows L2 GV TL
/-! ### own defs with keyword-only parameters -/
structure FnK0 (P : Program) (w : World) (K : Fg) (mg : Str → Option Value) (base : Heap) (x : Str) (k : Nat) (sp : ASp) (n : Nat) (ks : List Str) (dvs : List V) (dds : List D) : Prop where
  ex : ∃ (f : Addr) (fd : FuncData) (ps : List Str), FnA P w K mg base k f fd ps sp ∧ mg x = some (.ref f) ∧ PySem.W.keepIn K (.ref f) = true ∧ (∃ ds, Vals dvs ds ∧ Binds K fd ps ds) ∧ KBn K fd ps n ks (fun us ws => us ++ ws) (fun vs zs => vs ++ zs)
  dd : ∀ H, Vls K H dvs dds
abbrev FndK (X : Cx) (x : Str) (k : Nat) (sp : ASp) (n : Nat) (ks : List Str) (dvs : List V) (dds : List D) : Prop := FnK0 X.prog X.w X.K X.mg X.base x k sp n ks dvs dds
section
variable {X : Cx} {W : WX} {k n : Nat} {x : Str} {sp : ASp} {ks : List Str} {dvs : List V} {dds : List D} {e : Expr} {es : List Expr} {kws : List Keyword} {p pos kpos : Pos} {t tk' : TA} {at_ ak : AA} {te : TE} {ae : AE} {nm : Option Str}
/-- the keywords lack: the defaults -/
def aCallD (sp : ASp) (dds : List D) (as : AA) : AE := fun Γ A q x => as Γ A (fun ds A1 => sp (ds ++ dds) A1 q x) x
theorem ga_callD (F : FndK X x k sp n ks dvs dds) (hr : Room k X.A) (tk : L2N.Takes X W) (h : PAA X W (e :: es) t at_) (hg : Gl X x := by rfl) (hdb : (x == ("__debug__" : Str)) = false := by decide)
    (he : starEach (e :: es) X.env = (false, eval e X.env) :: starEach es X.env := by rfl) (hpl : (backTo pos (starEach es X.env)).any (·.1) = false := by rfl) :
    PEA X W (.Call (.Name x p) (e :: es) [] pos) (tCallSD (lift X.K sp) dvs (WE W) t) (aCallD sp dds at_) := by
  obtain ⟨⟨f, fd, ps, G, hm, hk, ⟨ds, hd, hb⟩, _⟩, dd⟩ := F
  exact ⟨pe_callSD G hr hg hm hk hb hd (fun σ => L2N.passAt tk σ) h.pe hdb he hpl, fun σ H Γ A q x Q R S hh k kx => h.sim σ H Γ A _ x _ R S hh (fun H1 vs ds A1 n1 R1 v1 h1 =>
    ⟨A1, ds ++ dds, q, x, R1, v1.append (dd H1), h1, fun H2 v d A2 n2 R2 v2 h2 => k H2 v d A2 (n1.trans n2) R2 v2 h2, fun H2 e A2 n2 R2 h2 => kx H2 e A2 (n1.trans n2) R2 h2⟩) kx⟩
/-! the call with all keywords -/
structure PKA (X : Cx) (W : WX) (kws : List Keyword) (ta : TA) (aa : AA) : Prop where
  pe : PK X kws ta
  sim : SimA X.K W ta aa
theorem gk_nil : PKA X W [] tNil aNil := ⟨pk_nil, gs_nil.sim⟩
theorem gk_cons (ha : PEA X W e te ae) (hr : PKA X W kws t at_) : PKA X W (⟨nm, e, kpos⟩ :: kws) (tCons te t) (aCons ae at_) :=
  ⟨pk_cons ha.pe hr.pe, fun σ H Γ A q x Q R S h k kx => ha.sim σ H Γ A _ x _ R S h (fun H1 v d A1 n1 R1 v1 h1 => hr.sim σ H1 Γ A1 _ x _ R1 (S.mono n1) h1
    (fun H2 vs ds A2 n2 R2 v2 h2 => k H2 _ _ A2 (n1.trans n2) R2 (.cons (v1.mono n2) v2) h2) fun H2 e A2 n2 R2 h2 => kx H2 e A2 (n1.trans n2) R2 h2) kx⟩
def tCallK (sp : Sp) (n m : Nat) (E : L2.St → XK) (t tk' : TA) : TE := fun σ H Q => t σ H fun vs H1 => tk' σ H1 fun zs H2 => vs.length = n ∧ zs.length = m ∧ sp (vs ++ zs) H2 Q (E σ)
def aCallK (sp : ASp) (n m : Nat) (as ak : AA) : AE := fun Γ A q x => as Γ A (fun ds A1 => ak Γ A1 (fun es A2 => ds.length = n ∧ es.length = m ∧ sp (ds ++ es) A2 q x) x) x
theorem ga_callK (F : FndK X x k sp n ks dvs dds) (hr : Room k X.A) (tk : L2N.Takes X W) (h : PAA X W (e :: es) t at_) (hkw : PKA X W kws tk' ak) (hg : Gl X x := by rfl)
    (hall : (backToKw pos (keywordEach kws X.env)).all (·.1.isSome) = true := by rfl) (hks : (backToKw pos (keywordEach kws X.env)).filterMap (·.1) = ks := by rfl)
    (hdb : (x == ("__debug__" : Str)) = false := by decide) (he : starEach (e :: es) X.env = (false, eval e X.env) :: starEach es X.env := by rfl)
    (hpl : ((backTo pos (starEach (e :: es) X.env)).any (·.1) || (backToKw pos (keywordEach kws X.env)).any (·.1.isNone)) = false := by rfl) :
    PEA X W (.Call (.Name x p) (e :: es) kws pos) (tCallK (lift X.K sp) n ks.length (WE W) t tk') (aCallK sp n ks.length at_ ak) := by
  obtain ⟨⟨f, fd, ps, G, hm, hk, _, hb⟩, _⟩ := F
  refine ⟨⟨fun pins s σ H Q I hq => ?_⟩, fun σ H Γ A q x Q R S hh k kx => h.sim σ H Γ A _ x _ R S hh (fun H1 vs ds A1 n1 R1 v1 h1 => hkw.sim σ H1 Γ A1 _ x _ R1 (S.mono n1) h1 (fun H2 zs es A2 n2 R2 v2 h2 =>
    ⟨by rw [v1.length]; exact h2.1, by rw [v2.length]; exact h2.2.1, A2, ds ++ es, q, x, R2, (v1.mono n2).append v2, h2.2.2, fun H3 v d A3 n3 R3 v3 h3 => k H3 v d A3 ((n1.trans n2).trans n3) R3 v3 h3, fun H3 e A3 n3 R3 h3 => kx H3 e A3 ((n1.trans n2).trans n3) R3 h3⟩)
    fun H2 e A2 n2 R2 h2 => kx H2 e A2 (n1.trans n2) R2 h2) kx⟩
  refine wpAny_Call_Name_kw (ld_glob I hg hm ?_ hdb)
  refine PySem.W.callWith_KW (h₀ := X.base) I.ok.mod.kin hk hall (thn (h.pe.run pos pins s σ H _ I hq) fun us s1 ⟨vs, H1, I1, r, q⟩ => ?_) hpl he
  refine thn (hkw.pe.run pos pins s1 σ H1 _ I1 q) fun ws s2 ⟨zs, H2, I2, rz, l1, l2, q2⟩ => ⟨I2.kIn, ?_⟩
  rw [hks]
  have r2 := hb.rel r rz
  have hx := L2N.passAt tk σ
  refine wpAny_call (codeAny_mono (G.run X.A X.stack s2 H2 ⟨us, ks.zip ws⟩ (us ++ ws) (vs ++ zs) Q (WE W σ) hr I2.env0 (hb.to s2 us ws I2.kIn (r.length.symm.trans l1) (rz.length.symm.trans l2)) r2 q2) fun r s' hq => ?_)
  cases r with
  | error e => exact hx pins H2 s2 e s' I2 hq
  | ok fl =>
    cases fl with
    | ret u => exact I2.after hq
    | next => exact False.elim hq
    | brk => exact False.elim hq
    | cont => exact False.elim hq
end
end GA

namespace GA
open PySem PySem.Spec PyProof.Rows L2 GV TL
/-! ### sorted of a list: numbers, or less than 64 texts -/
theorem ltCps_lex : ∀ a b : List Nat, ltCps a b = lexL a b
  | _, [] => by cases ‹List Nat› <;> rfl
  | [], _ :: _ => rfl
  | a :: x, b :: y => by
    have := ltCps_lex x y
    unfold ltCps lexL
    rw [this]
    rfl
def srtL : List (List Nat) → Bool
  | x :: y :: r => !lexL y x && srtL (y :: r)
  | _ => true
theorem srt_ok : ∀ ys : List Str, sortedS ys = true → srtL (ys.map tl) = true
  | [], _ => rfl
  | [_], _ => rfl
  | x :: y :: r, h => by
    have h : risingS x (y :: r) = true := h
    unfold risingS at h
    obtain ⟨h1, h2⟩ := Bool.and_eq_true_iff.mp h
    have ih := srt_ok (y :: r) h2
    show (!lexL (tl y) (tl x) && srtL ((y :: r).map tl)) = true
    rw [ih, Bool.and_true, ← ltCps_lex]
    exact h1
theorem intsV {K : Fg} {H : Hp} : ∀ {ns : List Int} {vs : List V}, Vls K H vs (ns.map D.int) → vs = ns.map V.int
  | [], _, .nil => rfl
  | _ :: _, _, .cons h t => by cases h; rw [intsV t]; rfl
theorem intsD {K : Fg} {H : Hp} : ∀ ns : List Int, Vls K H (ns.map V.int) (ns.map D.int)
  | [] => .nil
  | i :: r => .cons (.int i) (intsD r)
theorem strsV {K : Fg} {H : Hp} : ∀ {ss : List (List Nat)} {vs : List V}, Vls K H vs (ss.map D.str) → ∃ ys : List Str, vs = ys.map V.str ∧ ys.map tl = ss
  | [], _, .nil => ⟨[], rfl, rfl⟩
  | _ :: _, _, .cons h t => by
    obtain ⟨x, rfl, e⟩ := h.inv_str
    obtain ⟨ys, rfl, e2⟩ := strsV t
    exact ⟨x :: ys, rfl, by rw [List.map_cons, e, e2]⟩
def aSorted : A1c := fun ds A q => match ds with
  | [.ref a] => onL A a fun xs => (∃ ns : List Int, xs = ns.map D.int ∧ ∀ ns' : List Int, ns'.Perm ns → ns'.Pairwise (· ≤ ·) → newL A (ns'.map D.int) q) ∨
    ∃ ss : List (List Nat), xs = ss.map D.str ∧ ss.length < 64 ∧ ∀ ys : List (List Nat), ys.Perm ss → srtL ys = true → newL A (ys.map D.str) q
  | _ => False
def rSrtU (K : Fg) : List V → Hp → VK → Prop := fun vs H Q => rSortedI K vs H Q ∨ rSortedS K vs H Q
theorem sim_sorted {K : Fg} : SimC K (rSrtU K) aSorted := by
  intro H A vs ds q Q R hv h k
  unfold aSorted at h
  split at h
  · obtain ⟨v, rfl, h1⟩ := hv.one
    cases h1
    obtain ⟨xs, ha, h⟩ := onL_of h
    obtain ⟨ws, e1, r1⟩ := R.lst ha
    rcases h with ⟨ns, rfl, h⟩ | ⟨ss, rfl, h64, h⟩
    · have := intsV r1
      subst this
      exact .inl ⟨_, ns, rfl, SqL.of e1, fun ns' p hp ho hn => k _ _ _ _ (.new hn) (R.new hn (.lst (intsD ns'))) (.ref p) (h ns' hp ho p (R.none hn))⟩
    · obtain ⟨ys, rfl, rfl⟩ := strsV r1
      refine .inr ⟨_, ys, rfl, SqL.of e1, by rw [List.length_map] at h64; exact h64, fun zs p hp ho hn => ?_⟩
      exact k _ _ _ _ (.new hn) (R.new hn (.lst (Vls.strs rfl))) (.ref p) (h (zs.map tl) (hp.map tl) (srt_ok zs ho) p (R.none hn))
  · exact h.elim
section
variable {X : Cx}
theorem cr_srtU : CallR X (.builtin "sorted") (rSrtU X.K) := by
  intro pins s σ H xs us Q I r h
  rcases h with h | h
  · exact cr_sortedI pins s σ H xs us Q I r h
  · exact cr_sortedS pins s σ H xs us Q I r h
theorem ba_sorted : BltA X (.builtin "sorted") (rSrtU X.K) aSorted := ⟨cr_srtU, sim_sorted⟩
end
end GA

namespace GA
open PySem PySem.Spec PyProof.Rows L2 GV TL
/-! ### len and list of a dict -/
def keyD' : Key → D
  | .inl i => .int i
  | .inr x => .str (tl x)
theorem keyD_val {K : Fg} {H : Hp} (k : Key) : Val K H (kV k) (keyD' k) := by
  cases k with
  | inl i => exact .int i
  | inr x => exact .str x
theorem keys_rel {K : Fg} {H : Hp} : ∀ {ws : List (Key × V)} {kvs : List (Key × D)}, RelKV K H ws kvs → Vls K H (ws.map fun kv => kV kv.1) (kvs.map fun kv => keyD' kv.1)
  | _, _, .nil => .nil
  | (a, v) :: ws, (b, d) :: kvs, .cons ⟨h1, _⟩ t => by
    dsimp only at h1
    subst h1
    exact .cons (keyD_val a) (keys_rel t)
def aLenD : A1c := fun ds A q => match ds with
  | [.ref a] => onD A a fun kvs => q (.int kvs.length) A
  | _ => False
def aListD : A1c := fun ds A q => match ds with
  | [.ref a] => onD A a fun kvs => newL A (kvs.map fun kv => keyD' kv.1) q
  | _ => False
theorem sim_lenD {K : Fg} : SimC K (fun xs H Q => ∃ a kvs, xs = [V.ref a] ∧ H a = some (.dK kvs) ∧ Q (.int kvs.length) H) aLenD := by
  intro H A vs ds q Q R hv h k
  unfold aLenD at h
  split at h
  · obtain ⟨v, rfl, h1⟩ := hv.one
    cases h1
    obtain ⟨kvs, e, h⟩ := h
    obtain ⟨ws, e1, r1⟩ := R.dic e
    exact ⟨_, ws, rfl, e1, by rw [relkv_len r1]; exact k H _ _ A .rfl R (.int _) h⟩
  · exact h.elim
theorem sim_listD {K : Fg} : SimC K (fun xs H Q => ∃ (a : Addr) (kvs : List (Key × V)), xs = [V.ref a] ∧ Rd H a (.dK kvs) ∧ ∀ p, H p = none → Q (.ref p) (upd H p (.lst (kvs.map fun kv => kV kv.1)))) aListD := by
  intro H A vs ds q Q R hv h k
  unfold aListD at h
  split at h
  · obtain ⟨v, rfl, h1⟩ := hv.one
    cases h1
    obtain ⟨kvs, e, h⟩ := h
    obtain ⟨ws, e1, r1⟩ := R.dic e
    exact ⟨_, ws, rfl, .inl e1, fun p hp => k _ _ _ _ (.new hp) (R.new hp (.lst (keys_rel r1))) (.ref p) (h p (R.none hp))⟩
  · exact h.elim
section
variable {X : Cx}
theorem ba_lenD : BltA X (.builtin "len") (fun xs H Q => ∃ a kvs, xs = [V.ref a] ∧ H a = some (.dK kvs) ∧ Q (.int kvs.length) H) aLenD := ⟨call_lenD, sim_lenD⟩
theorem ba_listD (hc : X.calm = true) : BltA X (.type "list") (fun xs H Q => ∃ (a : Addr) (kvs : List (Key × V)), xs = [V.ref a] ∧ Rd H a (.dK kvs) ∧ ∀ p, H p = none → Q (.ref p) (upd H p (.lst (kvs.map fun kv => kV kv.1)))) aListD := ⟨call_listD hc, sim_listD⟩
end
end GA

namespace GA
open PySem PySem.Spec PyProof.Rows L2 GV TL
/-! ### the plain side: heaps -/
def Ext (A A' : Ah) : Prop := ∀ b c, A b = some c → A' b = some c
/-- all but l is kept -/
def Kp (l : Addr) (A A' : Ah) : Prop := ∀ b c, b ≠ l → A b = some c → A' b = some c
theorem Ext.rfl {A : Ah} : Ext A A := fun _ _ h => h
theorem Ext.trans {A B C : Ah} (h : Ext A B) (g : Ext B C) : Ext A C := fun b c e => g b c (h b c e)
theorem Ext.new {A : Ah} {p : Addr} {c : Cell} (h : A p = none) : Ext A (updA A p c) := fun b d e => by
  rw [updA_ne (fun z => by rw [z, h] at e; cases e)]; exact e
theorem Ext.newer {A B : Ah} {p : Addr} {c : Cell} (g : Ext A B) (h : B p = none) : Ext A (updA B p c) := g.trans (.new h)
/-- a cell that was not there when the watch began may change -/
theorem Ext.upd {A B : Ah} {p : Addr} {c : Cell} (g : Ext A B) (h : A p = none) : Ext A (updA B p c) := fun b d e => by
  rw [updA_ne (fun z => by rw [z, h] at e; cases e)]; exact g b d e
theorem Ext.kp {A B : Ah} (h : Ext A B) {l : Addr} : Kp l A B := fun b c _ e => h b c e
theorem Kp.rfl {l : Addr} {A : Ah} : Kp l A A := fun _ _ _ h => h
theorem Kp.trans {l : Addr} {A B C : Ah} (h : Kp l A B) (g : Kp l B C) : Kp l A C := fun b c n e => g b c n (h b c n e)
theorem Kp.set {l : Addr} {A : Ah} {c : Cell} : Kp l A (updA A l c) := fun b d n e => by rw [updA_ne n]; exact e
theorem Kp.new {l p : Addr} {A B : Ah} {c : Cell} (g : Kp l A B) (h : B p = none) : Kp l A (updA B p c) := g.trans (Ext.new h).kp
theorem Kp.upd {l : Addr} {A B : Ah} {p : Addr} {c : Cell} (g : Kp l A B) (h : A p = none) : Kp l A (updA B p c) := fun b d n e => by
  rw [updA_ne (fun z => by rw [z, h] at e; cases e)]; exact g b d n e
/-- what was new since A stays apart -/
theorem Kp.at {l b : Addr} {A B : Ah} {c : Cell} (g : Kp l A B) (h : A b = some c) (n : b ≠ l) : B b = some c := g b c n h
/-! ### numbers -/
@[irreducible] def Wd : Int := 10 ^ 256
theorem Wd_lim : Wd.natAbs < lim := by decide +kernel
theorem Wd_big : (10 : Int) ^ 100 ≤ Wd := by decide +kernel

theorem smallW {i : Int} (h : 0 ≤ i) (g : i ≤ Wd) : SmallI i := Nat.lt_of_le_of_lt (by have := Wd_lim; omega) Wd_lim
theorem lim64 : 340282366920938463463374607431768211456 < lim := by decide +kernel
theorem small128 {i : Int} (h : -340282366920938463463374607431768211456 ≤ i) (g : i ≤ 340282366920938463463374607431768211456) : SmallI i := Nat.lt_of_le_of_lt (by omega) lim64
theorem lim60 : 1000000000000000000000000000000000000000000000000000000000000 < lim := by decide +kernel
theorem small60 {i : Int} (h : -1000000000000000000000000000000000000000000000000000000000000 ≤ i) (g : i ≤ 1000000000000000000000000000000000000000000000000000000000000) : SmallI i := Nat.lt_of_le_of_lt (by omega) lim60
theorem small_mod {a : Int} : SmallI (a % 18446744073709551557) := small128 (by omega) (by omega)
theorem small_mdiv {a : Int} : SmallI (a % 18446744073709551557 / 4294967296) := small128 (by omega) (by omega)
theorem small_mdiv2 {a : Int} : SmallI (a % 18446744073709551557 / 65536) := small128 (by omega) (by omega)
theorem mod_lo {a : Int} : 0 ≤ a % 18446744073709551557 := by omega
theorem mod_hi {a : Int} : a % 18446744073709551557 < 18446744073709551557 := by omega
/-! ### the store of a law -/
def stL (c0 c1 c2 c3 c4 c5 : Int) (r : List Int) : List D := .int c0 :: .int c1 :: .int c2 :: .int c3 :: .int c4 :: .int c5 :: r.map D.int
theorem stL_len {c0 c1 c2 c3 c4 c5 : Int} {r : List Int} : (stL c0 c1 c2 c3 c4 c5 r).length = r.length + 6 := by simp [stL]
theorem ixN_st {c0 c1 c2 c3 c4 c5 : Int} {r : List Int} {k : Nat} (h : k < 6) : L2.ixN (stL c0 c1 c2 c3 c4 c5 r).length (k : Int) = some k := by
  rw [stL_len]
  unfold L2.ixN
  rw [if_pos (by omega), if_pos (by omega)]
  rfl
theorem atI_st {c0 c1 c2 c3 c4 c5 : Int} {r : List Int} {k : Nat} {d : D} (h : k < 6) (e : (stL c0 c1 c2 c3 c4 c5 r)[k]? = some d) : L2.atI (stL c0 c1 c2 c3 c4 c5 r) (k : Int) = some d := by
  unfold L2.atI
  rw [ixN_st h]
  exact e
theorem atI_c0 {c0 c1 c2 c3 c4 c5 : Int} {r : List Int} : L2.atI (stL c0 c1 c2 c3 c4 c5 r) 0 = some (.int c0) := atI_st (k := 0) (by decide) rfl
theorem ixN_c0 {c0 c1 c2 c3 c4 c5 : Int} {r : List Int} : L2.ixN (stL c0 c1 c2 c3 c4 c5 r).length 0 = some 0 := ixN_st (k := 0) (by decide)
theorem atI_c1 {c0 c1 c2 c3 c4 c5 : Int} {r : List Int} : L2.atI (stL c0 c1 c2 c3 c4 c5 r) 1 = some (.int c1) := atI_st (k := 1) (by decide) rfl
theorem ixN_c1 {c0 c1 c2 c3 c4 c5 : Int} {r : List Int} : L2.ixN (stL c0 c1 c2 c3 c4 c5 r).length 1 = some 1 := ixN_st (k := 1) (by decide)
theorem atI_c2 {c0 c1 c2 c3 c4 c5 : Int} {r : List Int} : L2.atI (stL c0 c1 c2 c3 c4 c5 r) 2 = some (.int c2) := atI_st (k := 2) (by decide) rfl
theorem ixN_c2 {c0 c1 c2 c3 c4 c5 : Int} {r : List Int} : L2.ixN (stL c0 c1 c2 c3 c4 c5 r).length 2 = some 2 := ixN_st (k := 2) (by decide)
theorem atI_c3 {c0 c1 c2 c3 c4 c5 : Int} {r : List Int} : L2.atI (stL c0 c1 c2 c3 c4 c5 r) 3 = some (.int c3) := atI_st (k := 3) (by decide) rfl
theorem ixN_c3 {c0 c1 c2 c3 c4 c5 : Int} {r : List Int} : L2.ixN (stL c0 c1 c2 c3 c4 c5 r).length 3 = some 3 := ixN_st (k := 3) (by decide)
theorem atI_c4 {c0 c1 c2 c3 c4 c5 : Int} {r : List Int} : L2.atI (stL c0 c1 c2 c3 c4 c5 r) 4 = some (.int c4) := atI_st (k := 4) (by decide) rfl
theorem ixN_c4 {c0 c1 c2 c3 c4 c5 : Int} {r : List Int} : L2.ixN (stL c0 c1 c2 c3 c4 c5 r).length 4 = some 4 := ixN_st (k := 4) (by decide)
theorem atI_c5 {c0 c1 c2 c3 c4 c5 : Int} {r : List Int} : L2.atI (stL c0 c1 c2 c3 c4 c5 r) 5 = some (.int c5) := atI_st (k := 5) (by decide) rfl
theorem ixN_c5 {c0 c1 c2 c3 c4 c5 : Int} {r : List Int} : L2.ixN (stL c0 c1 c2 c3 c4 c5 r).length 5 = some 5 := ixN_st (k := 5) (by decide)
theorem atI_cr {c0 c1 c2 c3 c4 c5 : Int} {r : List Int} (h : 6 ≤ c0) (g : c0 < ((stL c0 c1 c2 c3 c4 c5 r).length : Int)) : ∃ z, z ∈ r ∧ L2.atI (stL c0 c1 c2 c3 c4 c5 r) c0 = some (.int z) := by
  have hl : c0.toNat - 6 < r.length := by
    rw [stL_len] at g
    omega
  refine ⟨r[c0.toNat - 6]'hl, List.getElem_mem _, ?_⟩
  unfold L2.atI L2.ixN
  rw [if_pos (by omega), if_pos g]
  show (stL c0 c1 c2 c3 c4 c5 r)[c0.toNat]? = _
  have hk : ∀ m, m < r.length → (stL c0 c1 c2 c3 c4 c5 r)[m + 6]? = (r[m]?).map D.int := fun m _ => by simp [stL]
  have h6 : (c0.toNat - 6) + 6 = c0.toNat := by omega
  have h7 := hk _ hl
  rw [h6, List.getElem?_eq_getElem hl] at h7
  exact h7
structure StI (c0 c1 c2 c3 c4 c5 : Int) (r : List Int) (n : Nat) : Prop where
  len : r.length ≤ 64
  h0 : 6 ≤ c0
  h1 : 0 ≤ c1 ∧ c1 ≤ Wd
  h2 : 0 ≤ c2 ∧ c2 ≤ 60
  h3 : 0 ≤ c3 ∧ c3 ≤ 1
  h4 : 0 ≤ c4 ∧ c4 ≤ n
  h5 : 0 ≤ c5 ∧ c5 ≤ Wd
  hr : ∀ i ∈ r, 0 ≤ i ∧ i ≤ Wd
def St (A : Ah) (l : Addr) (n : Nat) : Prop := ∃ c0 c1 c2 c3 c4 c5 r, A l = some (.lst (stL c0 c1 c2 c3 c4 c5 r)) ∧ StI c0 c1 c2 c3 c4 c5 r n
theorem St.mono {A : Ah} {l : Addr} {n m : Nat} (h : St A l n) (g : n ≤ m) : St A l m := by
  obtain ⟨c0, c1, c2, c3, c4, c5, r, e, i⟩ := h
  exact ⟨c0, c1, c2, c3, c4, c5, r, e, ⟨i.len, i.h0, i.h1, i.h2, i.h3, by have := i.h4; omega, i.h5, i.hr⟩⟩
theorem St.ext {A B : Ah} {l : Addr} {n : Nat} (h : St A l n) (g : Ext A B) : St B l n := by
  obtain ⟨c0, c1, c2, c3, c4, c5, r, e, i⟩ := h
  exact ⟨c0, c1, c2, c3, c4, c5, r, g _ _ e, i⟩
theorem St.some {A : Ah} {l : Addr} {n : Nat} (h : St A l n) : ∃ xs, A l = some (.lst xs) := let ⟨_, _, _, _, _, _, _, e, _⟩ := h; ⟨_, e⟩
theorem St.ne {A : Ah} {l p : Addr} {n : Nat} (h : St A l n) (g : A p = none) : p ≠ l := by
  obtain ⟨xs, e⟩ := h.some
  intro z; rw [z, e] at g; cases g
theorem Kp.none {l p : Addr} {A B : Ah} (K : Kp l A B) (h : B p = Option.none) (n : p ≠ l) : A p = Option.none := by
  cases e : A p with
  | none => rfl
  | some c => rw [K _ _ n e] at h; cases h
theorem Ext.none {p : Addr} {A B : Ah} (K : Ext A B) (h : B p = Option.none) : A p = Option.none := by
  cases e : A p with
  | none => rfl
  | some c => rw [K _ _ e] at h; cases h
theorem St.upd {A : Ah} {l p : Addr} {n : Nat} {c : Cell} (h : St A l n) (g : p ≠ l) : St (updA A p c) l n := by
  obtain ⟨c0, c1, c2, c3, c4, c5, r, e, i⟩ := h
  exact ⟨c0, c1, c2, c3, c4, c5, r, by rw [updA_ne (Ne.symm g)]; exact e, i⟩
/-- what can be picked from -/
def Items (A : Ah) (d : D) (xs : List D) : Prop := (∃ cs, d = .str cs ∧ xs = cs.map fun c => .str [c]) ∨ (∃ p, d = .ref p ∧ A p = some (.lst xs)) ∨ d = .tup xs
/-- a comprehension whose body takes every item and leaves the heap as it is -/
theorem lc_of {it : ItA} {A1 : Ah} {g : AG} {c : AT} {e : AE} {vs : List Nat} {Γ : Gt} {q : D → Ah → Prop} (f : Nat → D) (hsrc : it.src = none) (hn : it.n ≤ big)
    (body : ∀ (i : Nat) (A' : Ah) (k : D → Ah → Prop) (sk : Ah → Prop), i < it.n → Ext A1 A' → k (f i) A' → g (it.item i) (wipeG Γ vs) A' fun Γ2 A2 => c Γ2 A2 (fun b A3 => bsel b (e Γ2 A3 k fun _ _ => False) (sk A3)) fun _ _ => False)
    (done : ∀ p, A1 p = none → q (.ref p) (updA A1 p (.lst ((List.range it.n).map f)))) :
    lcR it A1 g c e vs Γ q := by
  unfold lcR
  intro p hp
  refine ⟨fun i acc A' => acc = (List.range i).map f ∧ A' = updA A1 p (.lst acc), ⟨rfl, rfl⟩, ?_, ?_, ?_⟩
  · rintro i acc A' _ ⟨rfl, rfl⟩
    refine ⟨?_, updA_same⟩
    unfold ItA.still
    rw [hsrc]
    trivial
  · rintro i acc A' hi ⟨rfl, rfl⟩
    refine body i _ _ (fun A3 => ∃ ac, A3 p = some (.lst ac) ∧ ac = (List.range (i + 1)).map f ∧ A3 = updA A1 p (.lst ac)) hi (fun b d h => ?_) ⟨_, updA_same, by rw [List.length_map, List.length_range]; omega, ?_, updA_updA⟩
    · rw [updA_ne (fun z => by rw [z, hp] at h; cases h)]; exact h
    · rw [List.range_succ, List.map_append]; rfl
  · rintro acc A' ⟨rfl, rfl⟩
    exact done p hp
end GA

namespace GA
open PySem PySem.Spec PyProof.Rows L2 GV TL
theorem atI_zero' {α : Type} {c : α} {r : List α} : L2.atI (c :: r) 0 = some c := by
  unfold L2.atI L2.ixN
  rw [if_pos (by omega), if_pos (by rw [List.length_cons]; omega)]
  rfl
theorem atI_one' {α : Type} {c d : α} {r : List α} : L2.atI (c :: d :: r) 1 = some d := by
  unfold L2.atI L2.ixN
  rw [if_pos (by omega), if_pos (by rw [List.length_cons, List.length_cons]; omega)]
  rfl
/-- the same for one without a heap hypothesis -/
theorem map_range_getD {α : Type} {L : List α} {d : D} (f : α → D) (g : D → D) : (List.range (L.map f).length).map (fun i => g ((L.map f).getD i d)) = L.map fun a => g (f a) := by
  apply List.ext_getElem
  · simp
  · intro i h1 h2
    simp only [List.length_map, List.length_range] at h1
    simp [List.getD_eq_getElem?_getD, List.getElem?_eq_getElem h1]
theorem map_getD {α : Type} {L : List α} {d : D} (f : α → D) {i : Nat} (h : i < L.length) : (L.map f).getD i d = f L[i] := by
  rw [List.getD_eq_getElem?_getD, List.getElem?_map, List.getElem?_eq_getElem h]; rfl
theorem atI_map {α : Type} {L : List α} (f : α → D) {i : Nat} (h : i < L.length) : L2.atI (L.map f) (i : Int) = some (f L[i]) := by
  unfold L2.atI L2.ixN
  rw [if_pos (by omega), if_pos (by rw [List.length_map]; omega)]
  show (L.map f)[((i : Int)).toNat]? = _
  rw [Int.toNat_natCast, List.getElem?_map, List.getElem?_eq_getElem h]; rfl
/-- a comprehension with a condition -/
theorem lc_fil {it : ItA} {A1 : Ah} {g : AG} {c : AT} {e : AE} {vs : List Nat} {Γ : Gt} {q : D → Ah → Prop} (f : Nat → D) (pr : Nat → Bool) (hsrc : it.src = none) (hn : it.n ≤ big)
    (body : ∀ (i : Nat) (A' : Ah) (k : D → Ah → Prop) (sk : Ah → Prop), i < it.n → Ext A1 A' → (pr i = true → k (f i) A') → (pr i = false → sk A') → g (it.item i) (wipeG Γ vs) A' fun Γ2 A2 => c Γ2 A2 (fun b A3 => bsel b (e Γ2 A3 k fun _ _ => False) (sk A3)) fun _ _ => False)
    (done : ∀ p, A1 p = none → q (.ref p) (updA A1 p (.lst (((List.range it.n).filter pr).map f)))) :
    lcR it A1 g c e vs Γ q := by
  unfold lcR
  intro p hp
  refine ⟨fun i acc A' => acc = ((List.range i).filter pr).map f ∧ A' = updA A1 p (.lst acc), ⟨rfl, rfl⟩, ?_, ?_, ?_⟩
  · rintro i acc A' _ ⟨rfl, rfl⟩
    refine ⟨?_, updA_same⟩
    unfold ItA.still
    rw [hsrc]
    trivial
  · rintro i acc A' hi ⟨rfl, rfl⟩
    have hr : (List.range (i + 1)).filter pr = (List.range i).filter pr ++ if pr i = true then [i] else [] := by
      rw [List.range_succ, List.filter_append]
      congr 1
      cases h : pr i <;> simp [h]
    refine body i _ _ (fun A3 => ∃ ac, A3 p = some (.lst ac) ∧ ac = ((List.range (i + 1)).filter pr).map f ∧ A3 = updA A1 p (.lst ac)) hi (fun b d h => ?_) (fun hpr => ⟨_, updA_same, ?_, ?_, updA_updA⟩) (fun hpr => ⟨_, updA_same, ?_, rfl⟩)
    · rw [updA_ne (fun z => by rw [z, hp] at h; cases h)]; exact h
    · have := List.length_filter_le pr (List.range i)
      rw [List.length_range] at this
      rw [List.length_map]; omega
    · rw [hr, if_pos hpr, List.map_append]; rfl
    · rw [hr, if_neg (by rw [hpr]; decide), List.append_nil]
  · rintro acc A' ⟨rfl, rfl⟩
    exact done p hp
def optP {α : Type} (p : α → Bool) : Option α → Bool
  | some b => p b
  | none => false
theorem flt_len {α : Type} (p : α → Bool) : ∀ L : List α, ((List.range L.length).filter fun i => optP p L[i]?).length = L.countP p
  | [] => rfl
  | a :: r => by
    have ih := flt_len p r
    rw [List.length_cons, List.range_succ_eq_map, List.filter_cons, List.filter_map, List.countP_cons]
    have e : ((fun i => optP p (a :: r)[i]?) ∘ Nat.succ) = fun i => optP p r[i]? := rfl
    rw [e]
    have h0 : optP p (a :: r)[0]? = p a := rfl
    rw [h0]
    cases h : p a with
    | true => simp only [if_true, List.length_cons, List.length_map]; rw [ih]
    | false => simp only [Bool.false_eq_true, if_false, List.length_map]; rw [ih]; rfl
/-! ### cuts -/
theorem cut_to {α : Type} {xs : List α} {k : Nat} : cutD xs none (some (k : Int)) = xs.take k := by
  unfold cutD
  rw [HT.sIx_nat, HT.sIx_none, List.drop_zero, Nat.sub_zero, ← List.take_take, List.take_length]
theorem cut_from {α : Type} {xs : List α} {k : Nat} : cutD xs (some (k : Int)) none = xs.drop k := by
  unfold cutD
  rw [HT.sIx_nat, HT.sIx_none, List.take_of_length_le (by rw [List.length_drop]; omega)]
  by_cases h : k ≤ xs.length
  · rw [Nat.min_eq_left h]
  · rw [Nat.min_eq_right (by omega), List.drop_length, List.drop_eq_nil_of_le (by omega)]
theorem cut_mid {α : Type} {xs : List α} {k m : Nat} : cutD xs (some (k : Int)) (some (m : Int)) = (xs.drop k).take (m - k) := by
  unfold cutD
  rw [HT.sIx_nat, HT.sIx_nat]
  by_cases h : k ≤ xs.length
  · rw [Nat.min_eq_left h]
    by_cases g : m ≤ xs.length
    · rw [Nat.min_eq_left g]
    · rw [Nat.min_eq_right (by omega), List.take_of_length_le (by rw [List.length_drop]; omega), List.take_of_length_le (by rw [List.length_drop]; omega)]
  · rw [Nat.min_eq_right (a := k) (by omega), List.drop_length, List.take_nil, List.drop_eq_nil_of_le (by omega), List.take_nil]
theorem cut_map {α β : Type} {xs : List α} {f : α → β} {lo hi : Option Int} : cutD (xs.map f) lo hi = (cutD xs lo hi).map f := by
  unfold cutD
  rw [List.length_map, List.map_take, List.map_drop]
theorem toN {i : Int} (h : 0 ≤ i) : ∃ k : Nat, i = k := Int.eq_ofNat_of_zero_le h
/-! ### lists without doubles -/
theorem nodup_len {α : Type} [DecidableEq α] : ∀ {l m : List α}, l.Nodup → (∀ a ∈ l, a ∈ m) → l.length ≤ m.length
  | [], _, _, _ => Nat.zero_le _
  | a :: r, m, h, s => by
    have hm : a ∈ m := s a List.mem_cons_self
    obtain ⟨h1, h2⟩ := List.nodup_cons.mp h
    have := nodup_len (m := m.erase a) h2 fun b hb => (List.mem_erase_of_ne (fun z => h1 (by rw [← z]; exact hb))).mpr (s b (List.mem_cons_of_mem _ hb))
    rw [List.length_erase_of_mem hm] at this
    have := List.length_pos_of_mem hm
    rw [List.length_cons]
    omega
/-! ### dicts of texts to numbers -/
abbrev kS (c : List Nat) : Key := .inr ⟨c.toArray⟩
theorem kS_inj {c d : List Nat} (h : kS c = kS d) : c = d := by
  have h : (⟨c.toArray⟩ : Str) = ⟨d.toArray⟩ := Sum.inr.inj h
  have h : c.toArray = d.toArray := congrArg (fun s : Str => s.cps) h
  simpa using h
structure Mp (kvs : List (Key × D)) (f : List Nat → Option Int) : Prop where
  nd : (kvs.map (·.1)).Nodup
  ks : ∀ k ∈ kvs.map (·.1), ∃ c, k = kS c
  get : ∀ c, getD' kvs (kS c) = (f c).map D.int
theorem getD'_none {kvs : List (Key × D)} {k : Key} : getD' kvs k = none ↔ k ∉ kvs.map (·.1) := by
  unfold getD'
  rw [Option.map_eq_none_iff, List.find?_eq_none]
  constructor
  · intro h m
    obtain ⟨p, hp, e⟩ := List.mem_map.mp m
    exact h p hp (by simpa using e)
  · intro h p hp z
    exact h (List.mem_map.mpr ⟨p, hp, by simpa using z⟩)
theorem any_key {kvs : List (Key × D)} {k : Key} : (kvs.any fun kv => decide (kv.1 = k)) = true ↔ k ∈ kvs.map (·.1) := by
  rw [List.any_eq_true, List.mem_map]
  constructor
  · rintro ⟨p, h, e⟩; exact ⟨p, h, by simpa using e⟩
  · rintro ⟨p, h, e⟩; exact ⟨p, h, by simpa using e⟩
theorem putD_keys {kvs : List (Key × D)} {k : Key} {v : D} : (k ∈ kvs.map (·.1) ∧ (putD kvs k v).map (·.1) = kvs.map (·.1)) ∨ (k ∉ kvs.map (·.1) ∧ (putD kvs k v).map (·.1) = kvs.map (·.1) ++ [k]) := by
  unfold putD
  by_cases h : k ∈ kvs.map (·.1)
  · refine .inl ⟨h, ?_⟩
    rw [if_pos (any_key.mpr h), List.map_map]
    apply List.map_congr_left
    intro p _
    show (if p.1 = k then (p.1, v) else p).1 = p.1
    split <;> rfl
  · refine .inr ⟨h, ?_⟩
    rw [if_neg (fun z => h (any_key.mp z)), List.map_append]; rfl
theorem putD_get {kvs : List (Key × D)} {k k' : Key} {v : D} : getD' (putD kvs k v) k' = if k' = k then some v else getD' kvs k' := by
  unfold putD
  by_cases h : k ∈ kvs.map (·.1)
  · rw [if_pos (any_key.mpr h)]
    induction kvs with
    | nil => cases h
    | cons p r ih =>
      unfold getD' at ih ⊢
      rw [List.map_cons, List.find?_cons, List.find?_cons]
      by_cases e : p.1 = k
      · by_cases e' : k' = k
        · simp [e, e']
        · have : ¬ p.1 = k' := fun z => e' (by rw [← z, e])
          have h2 : ¬ k = k' := fun z => e' z.symm
          simp only [e, if_true, h2, e', if_false, decide_false]
          by_cases hr : k ∈ r.map (·.1)
          · have := ih hr
            rw [if_neg e'] at this
            exact this
          · have : r.map (fun kv => if kv.1 = k then (kv.1, v) else kv) = r := by
              rw [List.map_congr_left (g := id) (fun q hq => if_neg fun (z : q.1 = k) => hr (z ▸ List.mem_map_of_mem hq)), List.map_id]
            rw [this]
      · have hr : k ∈ r.map (·.1) := by
          rcases List.mem_cons.mp h with z | z
          · exact (e z.symm).elim
          · exact z
        simp only [e, if_false]
        by_cases e2 : p.1 = k'
        · have : ¬ k' = k := fun z => e (e2.trans z)
          simp [e2, this]
        · simp only [e2, decide_false]
          exact ih hr
  · rw [if_neg (fun z => h (any_key.mp z))]
    unfold getD'
    rw [List.find?_append]
    by_cases e : k' = k
    · subst e
      have : getD' kvs k' = none := getD'_none.mpr h
      unfold getD' at this
      rw [Option.map_eq_none_iff] at this
      simp [this]
    · have : ¬ k = k' := fun z => e z.symm
      simp [e, this]
theorem putD_len {kvs : List (Key × D)} {k : Key} {v : D} : (putD kvs k v).length ≤ kvs.length + 1 := by
  unfold putD
  split <;> simp
theorem putD_len' {kvs : List (Key × D)} {k : Key} {v : D} (h : getD' kvs k ≠ none) : (putD kvs k v).length = kvs.length := by
  have hm : k ∈ kvs.map (·.1) := by
    by_cases m : k ∈ kvs.map (·.1)
    · exact m
    · exact (h (getD'_none.mpr m)).elim
  unfold putD
  rw [if_pos (any_key.mpr hm), List.length_map]
theorem Mp.nil : Mp [] fun _ => none := ⟨List.nodup_nil, nofun, fun _ => rfl⟩
theorem Mp.put {kvs : List (Key × D)} {f : List Nat → Option Int} (h : Mp kvs f) (c : List Nat) (i : Int) : Mp (putD kvs (kS c) (.int i)) fun d => if d = c then some i else f d where
  nd := by
    rcases putD_keys (kvs := kvs) (k := kS c) (v := .int i) with ⟨hm, e⟩ | ⟨hm, e⟩
    · rw [e]; exact h.nd
    · rw [e]; exact List.nodup_append.mpr ⟨h.nd, by simp, fun a ha b hb => by rw [List.mem_singleton.mp hb]; exact fun z => hm (by rw [← z]; exact ha)⟩
  ks := fun k hk => by
    rcases putD_keys (kvs := kvs) (k := kS c) (v := .int i) with ⟨hm, e⟩ | ⟨hm, e⟩
    · rw [e] at hk; exact h.ks k hk
    · rw [e] at hk
      rcases List.mem_append.mp hk with m | m
      · exact h.ks k m
      · exact ⟨c, List.mem_singleton.mp m⟩
  get := fun d => by
    rw [putD_get]
    by_cases e : d = c
    · subst e; rw [if_pos rfl, if_pos rfl]; rfl
    · rw [if_neg (fun z => e (kS_inj z)), if_neg e]; exact h.get d
theorem Mp.mem {kvs : List (Key × D)} {f : List Nat → Option Int} (h : Mp kvs f) {c : List Nat} : kS c ∈ kvs.map (·.1) ↔ f c ≠ none := by
  have := getD'_none (kvs := kvs) (k := kS c)
  rw [h.get, Option.map_eq_none_iff] at this
  constructor
  · intro m e; exact this.mp e m
  · intro e
    by_cases m : kS c ∈ kvs.map (·.1)
    · exact m
    · exact (e (this.mpr m)).elim
theorem Mp.le {kvs es : List (Key × D)} {f : List Nat → Option Int} (h : Mp kvs f) (g : Mp es f) : kvs.length ≤ es.length := by
  have := nodup_len (l := kvs.map (·.1)) (m := es.map (·.1)) h.nd fun k hk => by
    obtain ⟨c, rfl⟩ := h.ks k hk
    exact g.mem.mpr (h.mem.mp hk)
  simpa using this
theorem Mp.len {kvs es : List (Key × D)} {f : List Nat → Option Int} (h : Mp kvs f) (g : Mp es f) : kvs.length = es.length := Nat.le_antisymm (h.le g) (g.le h)
theorem Mp.congr {kvs : List (Key × D)} {f g : List Nat → Option Int} (h : Mp kvs f) (e : ∀ c, f c = g c) : Mp kvs g := ⟨h.nd, h.ks, fun c => by rw [← e]; exact h.get c⟩
theorem keyOf_str {c : List Nat} : keyOf (.str c) = some (kS c) := rfl
end GA

namespace GA
open PySem PySem.Spec PyProof.Rows L2 GV TL
/-! ### how many truth values of a list are this one -/
def cntR (K : Fg) : V → List V → Hp → VK → Prop := fun x xs H Q => ∃ (a : Addr) (bs : List Bool) (k : Bool), x = .ref a ∧ xs = [.bl k] ∧ SqL K H a (bs.map V.bl) ∧ Q (.int (bs.count k : Nat)) H
theorem blsV : ∀ {bs : List Bool} {us : List Value}, Vals (bs.map V.bl) us → us = bs.map Value.bool
  | [], _, h => by cases h; rfl
  | b :: r, _, h => by
    cases h with
    | cons h1 h2 =>
      cases h1
      rw [blsV h2]
      rfl
theorem blsCount (k : Bool) : ∀ bs : List Bool, (bs.map Value.bool).countP (PyProof.Rows.isBoolOf k) = bs.count k
  | [] => rfl
  | b :: r => by
    have e : PyProof.Rows.isBoolOf k (.bool b) = (b == k) := rfl
    rw [List.map_cons, List.countP_cons, List.count_cons, blsCount k r, e]
section
variable {X : Cx}
theorem mt_cntB : MtR X "list.count" (cntR X.K) := by
  intro pins s σ H x xs v us Q I hx hxs h
  obtain ⟨a, bs, k, rfl, rfl, hs, hq⟩ := h
  cases hx
  obtain ⟨u, rfl, hu⟩ := hxs.one
  cases hu
  obtain ⟨its, hv, hp, hn⟩ := I.list hs
  have hb := blsV hv
  subst hb
  obtain ⟨⟨cl, dd, dt, sl⟩, n, g1, g2, g3, g4⟩ := hp
  dsimp only at g2 g4
  subst g2
  subst g4
  refine call_meets PySem.F.slot_list_count ⟨_, g1, rfl⟩ PySem.F.entry_list_count (PySem.F.args_list_count_2 _ _) (PySem.SeqAt.list_countAt a (bs.map Value.bool).toArray n dd sl (.bool k) (PyProof.Rows.isBoolOf k)) ⟨g1, fun y hy => ?_, ?_⟩
  · have hy : y ∈ bs.map Value.bool := by simpa using hy
    obtain ⟨b, _, rfl⟩ := List.mem_map.mp hy
    exact PySem.SeqAt.EqAt.bool_bool b k
  · refine ⟨.int (bs.count k : Nat), H, I.tok _, ⟨s.toks, ?_⟩, hq⟩
    show Value.int (((bs.map Value.bool).countP (PyProof.Rows.isBoolOf k) : Nat) : Int) s.toks = _
    rw [blsCount]
end
def aCount : A1m := fun d ds A q => match d, ds with
  | .ref a, [.bl k] => onL A a fun xs => ∃ bs : List Bool, xs = bs.map D.bl ∧ q (.int (bs.count k : Nat)) A
  | _, _ => False
theorem blsD {K : Fg} {H : Hp} : ∀ {bs : List Bool} {vs : List V}, Vls K H vs (bs.map D.bl) → vs = bs.map V.bl
  | [], _, .nil => rfl
  | _ :: _, _, .cons h t => by cases h; rw [blsD t]; rfl
theorem sim_count {K : Fg} : SimM K "list" (cntR K) aCount := by
  intro H A v d vs ds q Q R hv hvs h k
  unfold aCount at h
  split at h
  · obtain ⟨w, rfl, hw⟩ := hvs.one
    obtain ⟨xs, ha, bs, rfl, h⟩ := h
    obtain ⟨ws, e1, r1⟩ := R.lst ha
    have := blsD r1
    subst this
    cases hv
    cases hw
    exact ⟨_, bs, _, rfl, rfl, SqL.of e1, k _ _ _ A .rfl R (.int _) h⟩
  · exact h.elim
/-! ### sum of a list of numbers -/
def aSum : A1c := fun ds A q => match ds with
  | [.ref a] => onL A a fun xs => ∃ ns : List Int, xs = ns.map D.int ∧ q (.int ns.sum) A
  | _ => False
theorem sim_sum {K : Fg} : SimC K (rSum K) aSum := by
  intro H A vs ds q Q R hv h k
  unfold aSum at h
  split at h
  · obtain ⟨v, rfl, h1⟩ := hv.one
    obtain ⟨xs, ha, ns, rfl, h⟩ := h
    obtain ⟨ws, e1, r1⟩ := R.lst ha
    have := intsV r1
    subst this
    cases h1
    exact ⟨_, ns, rfl, SqL.of e1, k _ _ _ A .rfl R (.int _) h⟩
  · exact h.elim
section
variable {X : Cx} {W : WX}
theorem ba_sum (hc : X.calm = true) : BltA X (.builtin "sum") (rSum X.K) aSum := ⟨cr_sum hc, sim_sum⟩
theorem ml_count : MthL X "count" "list.count" (cntR X.K) aCount := ⟨PySem.F.slot_list_count, PySem.F.type_list_count, mt_cntB, sim_count⟩
end
/-! ### list(range(i, j)) -/
theorem rgD {K : Fg} {H : Hp} (i j : Int) : Vls K H (rgV i j) ((List.range (j - i).toNat).map fun k => D.int (i + (k : Nat))) := by
  unfold rgV
  generalize List.range (j - i).toNat = l
  induction l with
  | nil => exact .nil
  | cons k r ih => exact .cons (.int _) ih
def aLRng2 (a b : AE) : AE := fun Γ A q x => a Γ A (fun d A1 => b Γ A1 (fun e A2 => match d, e with
  | .int i, .int j => (0 ≤ i ∧ i ≤ 16777216 ∧ 0 ≤ j ∧ j ≤ 16777216) ∧ newL A2 ((List.range (j - i).toNat).map fun k => D.int (i + (k : Nat))) q
  | _, _ => False) x) x
section
variable {X : Cx} {W : WX} {a b : Expr} {ta tb : TE} {aa ab : AE} {p p2 pos pos2 : Pos}
theorem ga_lrng2 (hc : X.calm = true) (ha : PEA X W a ta aa) (hb : PEA X W b tb ab) (hm : X.mg "range" = none) (hm2 : X.mg "list" = none) (hg : Gl X "range" := by rfl) (hg2 : Gl X "list" := by rfl)
    (na : starEach [a, b] X.env = (false, eval a X.env) :: starEach [b] X.env := by rfl) (nb : starEach [b] X.env = (false, eval b X.env) :: starEach [] X.env := by rfl) (hpl : (backTo pos (starEach [b] X.env)).any (·.1) = false := by rfl)
    (ne : starEach [(.Call (.Name "range" p) [a, b] [] pos : Expr)] X.env = (false, eval (.Call (.Name "range" p) [a, b] [] pos) X.env) :: starEach [] X.env := by rfl) :
    PEA X W (.Call (.Name "list" p2) [.Call (.Name "range" p) [a, b] [] pos] [] pos2) (tLstRg (tRg2 ta tb)) (aLRng2 aa ab) where
  pe := pe_listRg hc hg2 hm2 (prg_2 hg hm ha.pe hb.pe na nb hpl) ne
  sim := fun σ H Γ A q x Q R S h k kx => ha.sim σ H Γ A _ x _ R S h (fun H1 v d A1 n1 R1 v1 h1 => hb.sim σ H1 Γ A1 _ x _ R1 (S.mono n1) h1 (fun H2 w e A2 n2 R2 v2 h2 => by
    split at h2
    · rename_i i j
      cases v1
      cases v2
      obtain ⟨⟨b1, b2, b3, b4⟩, h2⟩ := h2
      exact ⟨_, _, rfl, rfl, RgOk.of_le b1 b4 b2 b3, fun r hr => k _ _ _ _ ((n1.trans n2).trans (.new hr)) (R2.new hr (.lst (rgD i j))) (.ref r) (h2 r (R2.none hr))⟩
    · exact h2.elim) fun H2 e A2 n2 R2 h2 => kx H2 e A2 (n1.trans n2) R2 h2) kx
end
/-! ### {"k": v, ..} -/
def dispK (ks : List (List Nat)) (ds : List D) : List (Key × D) := (ks.zip ds).foldl (fun acc kv => putD acc (kS kv.1) kv.2) []
def aDisp (ks : List (List Nat)) (as : AA) : AE := fun Γ A q x => ∀ p, A p = none → as Γ (updA A p (.dic [])) (fun ds A2 => A2 p = some (.dic []) ∧ q (.ref p) (updA A2 p (.dic (dispK ks ds)))) x
structure PDA (X : Cx) (W : WX) (pos : Pos) (keys : List (Option Expr)) (values : List Expr) (trs : List (TE × TE)) (ks : List (List Nat)) (aa : AA) : Prop where
  pps : PPs X pos keys values trs
  sim : ∀ (σ : L2.St) (H : Hp) (Γ : Gt) (A : Ah) (q : List D → Ah → Prop) (x : AX) (Q : List (V × V) → Hp → Prop), RelA X.K H A → Slots X.K H σ Γ → aa Γ A q x →
    (∀ H' (us : List Str) vs ds A', Nxt X.K H H' → RelA X.K H' A' → us.map tl = ks → us.length = vs.length → Vls X.K H' vs ds → q ds A' → Q ((us.zip vs).map fun kv => (V.str kv.1, kv.2)) H') → (∀ H' e A', Nxt X.K H H' → RelA X.K H' A' → x e A' → W (exC X.K e) (some e.d) σ H') → tPairs trs σ H Q
section
variable {X : Cx} {W : WX} {pos : Pos} {keys : List (Option Expr)} {values : List Expr} {trs : List (TE × TE)} {ks : List (List Nat)} {aa : AA} {v : Expr} {tv : TE} {av : AE}
theorem gd_nil : PDA X W pos [] [] [] [] aNil := ⟨pps_nil, fun σ H Γ A q x Q R S h k _ => k H [] [] [] A .rfl R rfl rfl .nil h⟩
theorem gd_cons {key : Str} {j : Nat} {kp : Pos} (hv : PEA X W v tv av) (h : PDA X W pos keys values trs ks aa) : PDA X W pos (some (.Constant (.str key) j kp) :: keys) (v :: values) ((tC (.str key), tv) :: trs) (tl key :: ks) (aCons av aa) where
  pps := pps_cons pe_str hv.pe h.pps
  sim := fun σ H Γ A q x Q R S hh k kx => hv.sim σ H Γ A _ x _ R S hh (fun H1 w d A1 n1 R1 v1 h1 => h.sim σ H1 Γ A1 _ x _ R1 (S.mono n1) h1 (fun H2 us vs ds A2 n2 R2 eu el v2 h2 => k H2 (key :: us) (w :: vs) (d :: ds) A2 (n1.trans n2) R2 (by rw [List.map_cons, eu]) (by rw [List.length_cons, List.length_cons, el]) (.cons (v1.mono n2) v2) h2) fun H2 e A2 n2 R2 h2 => kx H2 e A2 (n1.trans n2) R2 h2) kx
theorem kS_tl (u : Str) : kS (tl u) = (Sum.inr u : Key) := by
  show (Sum.inr (⟨(tl u).toArray⟩ : Str) : Key) = _
  rw [mk_tl]
theorem disp_rel {K : Fg} {H : Hp} : ∀ (us : List Str) {vs : List V} {ds : List D} {ws : List (Key × V)} {kvs : List (Key × D)}, Vls K H vs ds → us.length = vs.length → RelKV K H ws kvs →
    RelKV K H (((us.zip vs).map fun kv => ((Sum.inr kv.1 : Key), kv.2)).foldl (fun acc kv => putK acc kv.1 kv.2) ws) (((us.map tl).zip ds).foldl (fun acc kv => putD acc (kS kv.1) kv.2) kvs)
  | [], _, _, _, _, _, _, h => h
  | u :: us, _, _, _, _, .nil, e, _ => by cases e
  | u :: us, _, _, _, _, .cons h1 h2, e, h => by
    rw [List.map_cons, List.zip_cons_cons, List.zip_cons_cons, List.map_cons, List.foldl_cons, List.foldl_cons, kS_tl]
    exact disp_rel us h2 (by simpa using e) (relkv_put h h1)
theorem ga_disp (h : PDA X W pos keys values trs ks aa) (hall : keys.all (·.isSome) = true := by rfl) (hl : keys.length = values.length := by rfl) (h0 : keys ≠ [] := by nofun) (h15 : keys.length ≤ 15 := by decide) (hk : ks.length = keys.length := by rfl) :
    PEA X W (.Dict keys values pos) (tDisp trs) (aDisp ks aa) where
  pe := pe_disp h.pps hall hl h0 h15
  sim := fun σ H Γ A q x Q R S hh k kx p hp => by
    have n0 : Nxt X.K H (upd H p (.dK [])) := .new hp
    refine h.sim σ _ Γ _ _ x _ (R.new hp (.dic .nil)) (S.mono n0) (hh p (R.none hp)) (fun H2 us vs ds A2 n2 R2 eu el v2 h2 => ?_) fun H2 e A2 n2 R2 h2 => kx H2 e A2 (n0.trans n2) R2 h2
    obtain ⟨e2, h2⟩ := h2
    obtain ⟨ws, e3, r3⟩ := R2.dic e2
    cases r3
    have ul : us.length = ks.length := by rw [← eu, List.length_map]
    refine ⟨e3, (us.zip vs).map fun kv => ((Sum.inr kv.1 : Key), kv.2), ?_, ?_, ?_⟩
    · rw [List.map_map]; rfl
    · rw [List.length_map, List.length_zip]; omega
    · have n4 : Nxt X.K H2 (upd H2 p (.dK (mergeK [] ((us.zip vs).map fun kv => ((Sum.inr kv.1 : Key), kv.2))))) := .set e3 noTup_dK
      refine k _ _ _ _ ((n0.trans n2).trans n4) (R2.set e3 noTup_dK (.dic ?_)) (.ref p) h2
      have := disp_rel us v2 el (ws := []) (kvs := []) .nil
      rw [eu] at this
      exact this
end
/-! ### x *= e; a, b, c = x, y, z -/
def aAugM (i : Nat) (a : AE) : AS := fun D Γ A => match Γ[i]? with
  | some (some (.int m)) => a Γ A (fun d A1 => match d with
    | .int n => (-18446744073709551616 < n ∧ n < 18446744073709551616) ∧ D.nx (Γ.set i (some (.int (m * n)))) A1
    | _ => False) fun e A' => D.ex e Γ A'
  | _ => False
theorem ip_mulI {X : Cx} : PIp X .Mult (rI CMul fun i j => .int (i * j)) := fun pins s σ H x y v u Q I r1 r2 h => iop_mul pins s σ H x y v u Q I r1 r2 h
section
variable {X : Cx} {W : WX} {e : Expr} {te : TE} {ae : AE} {pos pos' : Pos}
theorem gs_augM {i : Nat} {x : Str} (hN : X.N.Nodup) (h : PEA X W e te ae) (hi : X.N[i]? = some x := by rfl) (hl : L2.Loc X.env.scope x := by first | exact Or.inl rfl | exact Or.inr rfl)
    (hf : X.fn x = true ∨ List.lookup x X.env.scope.names = some NameKind.local := by first | exact Or.inl rfl | exact Or.inr rfl) : PSA X W (.AugAssign (.Name x pos') .Mult e pos) (tAug i te (rI CMul fun i j => .int (i * j))) (aAugM i ae) :=
  ⟨ps_aug hN hi hl h.pe ip_mulI hf, fun D AD σ H Γ A R S hh k => by
    unfold aAugM at hh
    split at hh
    · rename_i m e1
      obtain ⟨v, e2, hv⟩ := S.get i _ e1
      cases hv
      refine ⟨_, e2, h.sim σ H Γ A _ _ _ R S hh (fun H1 w d A1 n1 R1 v1 h1 => ?_) fun H' e A' n R' h' => k.ex e σ H' Γ A' n R' (S.mono n) h'⟩
      cases d with
      | int n =>
        cases v1
        obtain ⟨⟨b1, b2⟩, h1⟩ := h1
        exact ⟨m, n, rfl, rfl, .inr ⟨by omega, by omega⟩, k.nx _ H1 _ A1 n1 R1 ((S.mono n1).set (.int _)) h1⟩
      | _ => exact h1.elim
    · exact hh.elim⟩
def aPar3 (i j l : Nat) (aa : AA) : AS := fun D Γ A => aa Γ A (fun ds A1 => match ds with
  | [d, e, f] => D.nx (((Γ.set i (some d)).set j (some e)).set l (some f)) A1
  | _ => False) fun e A' => D.ex e Γ A'
def aPar2 (i j : Nat) (aa : AA) : AS := fun D Γ A => aa Γ A (fun ds A1 => match ds with
  | [d, e] => D.nx ((Γ.set i (some d)).set j (some e)) A1
  | _ => False) fun e A' => D.ex e Γ A'
theorem gs_par2 {i j : Nat} {x y : Str} {a b : Expr} {ta : TA} {aa : AA} {px py pt pos : Pos} {kt k2 pt2} (hc : X.calm = true) (hN : X.N.Nodup) (ha : PAA X W [a, b] ta aa) (hi : X.N[i]? = some x := by rfl) (hj : X.N[j]? = some y := by rfl) (hij : i ≠ j := by decide)
    (hx : X.env.scope.names.lookup x = some .local := by rfl) (hy : X.env.scope.names.lookup y = some .local := by rfl)
    (hw : swappedStores [.Tuple [.Name x px, .Name y py] kt pt] (.Tuple [a, b] k2 pt2) X.env = pure (some [x, y]) := by rfl)
    (hs : swapsWithSole [.Tuple [.Name x px, .Name y py] kt pt] (.Tuple [a, b] k2 pt2) pos.line X.env = pure false := by rfl) :
    PSA X W (.Assign [.Tuple [.Name x px, .Name y py] kt pt] (.Tuple [a, b] k2 pt2) pos) (tPar i j ta) (aPar2 i j aa) :=
  ⟨ps_par hc hN hi hj hij hx hy ha.pe hw hs, fun D AD σ H Γ A R S hh k => ha.sim σ H Γ A _ _ _ R S hh (fun H1 vs ds A1 n1 R1 v1 h1 => by
    split at h1
    · rename_i d e
      obtain ⟨v, w, rfl, r1, r2⟩ := v1.two
      exact ⟨v, w, rfl, k.nx _ H1 _ A1 n1 R1 (((S.mono n1).set r1).set r2) h1⟩
    · exact h1.elim) fun H' e A' n R' h' => k.ex e σ H' Γ A' n R' (S.mono n) h'⟩
theorem gs_par3 {i j l : Nat} {x y z : Str} {a b c : Expr} {ta : TA} {aa : AA} {px py pz pt pos : Pos} {kt k2 pt2} (hc : X.calm = true) (hN : X.N.Nodup) (ha : PAA X W [a, b, c] ta aa) (hi : X.N[i]? = some x := by rfl) (hj : X.N[j]? = some y := by rfl) (hl : X.N[l]? = some z := by rfl) (hij : i ≠ j := by decide) (hil : i ≠ l := by decide) (hjl : j ≠ l := by decide)
    (hx : X.env.scope.names.lookup x = some .local := by rfl) (hy : X.env.scope.names.lookup y = some .local := by rfl) (hz : X.env.scope.names.lookup z = some .local := by rfl)
    (hw : swappedStores [.Tuple [.Name x px, .Name y py, .Name z pz] kt pt] (.Tuple [a, b, c] k2 pt2) X.env = pure (some [x, y, z]) := by rfl)
    (hs : swapsWithSole [.Tuple [.Name x px, .Name y py, .Name z pz] kt pt] (.Tuple [a, b, c] k2 pt2) pos.line X.env = pure false := by rfl) :
    PSA X W (.Assign [.Tuple [.Name x px, .Name y py, .Name z pz] kt pt] (.Tuple [a, b, c] k2 pt2) pos) (tPar3 i j l ta) (aPar3 i j l aa) :=
  ⟨ps_par3 hc hN hi hj hl hij hil hjl hx hy hz ha.pe hw hs, fun D AD σ H Γ A R S hh k => ha.sim σ H Γ A _ _ _ R S hh (fun H1 vs ds A1 n1 R1 v1 h1 => by
    split at h1
    · rename_i d e f
      cases v1 with
      | cons r1 v2 =>
        obtain ⟨v, w, rfl, r2, r3⟩ := v2.two
        exact ⟨_, v, w, rfl, k.nx _ H1 _ A1 n1 R1 ((((S.mono n1).set r1).set r2).set r3) h1⟩
    · exact h1.elim) fun H' e A' n R' h' => k.ex e σ H' Γ A' n R' (S.mono n) h'⟩
end
end GA

namespace GA
open PySem PySem.Spec PyProof.Rows L2 GV TL
/-! ### comprehensions with two clauses -/
@[irreducible] def lcR2 (it : ItA) (A1 : Ah) (g : AG) (c : AT) (wi1 : AI) (g1 : AG) (c1 : AT) (e : AE) (vs vs1 : List Nat) (Γ : Gt) (q : D → Ah → Prop) : Prop := ∀ p, A1 p = none → ∃ Inv : Nat → List D → Ah → Prop, Inv 0 [] (updA A1 p (.lst [])) ∧
  (∀ i acc A', i ≤ it.n → Inv i acc A' → it.still A' ∧ A' p = some (.lst acc)) ∧
  (∀ i acc A', i < it.n → Inv i acc A' → g (it.item i) (wipeG Γ vs) A' fun Γ2 A2 => c Γ2 A2 (fun b A3 => bsel b
    (wi1 Γ2 A3 (fun it1 A4 => ∃ Inv1 : Nat → List D → Ah → Prop, (∃ ac, Inv1 0 ac A4) ∧ (∀ j acc A', j ≤ it1.n → Inv1 j acc A' → it1.still A' ∧ A' p = some (.lst acc)) ∧
      (∀ j acc A', j < it1.n → Inv1 j acc A' → g1 (it1.item j) (wipeG Γ2 vs1) A' fun Γ3 A5 => c1 Γ3 A5 (fun b A6 => bsel b (e Γ3 A6 (fun y A7 => ∃ ac, A7 p = some (.lst ac) ∧ ac.length < big ∧ Inv1 (j + 1) (ac ++ [y]) (updA A7 p (.lst (ac ++ [y])))) fun _ _ => False) (∃ ac, A6 p = some (.lst ac) ∧ Inv1 (j + 1) ac A6)) fun _ _ => False) ∧
      ∀ acc A', Inv1 it1.n acc A' → Inv (i + 1) acc A') fun _ _ => False)
    (∃ ac, A3 p = some (.lst ac) ∧ Inv (i + 1) ac A3)) fun _ _ => False) ∧
  ∀ acc A', Inv it.n acc A' → q (.ref p) A'
def aLc2 (wi : AI) (g : AG) (c : AT) (wi1 : AI) (g1 : AG) (c1 : AT) (e : AE) (vs vs1 : List Nat) : AE := fun Γ A q x => wi Γ A (fun it A1 => lcR2 it A1 g c wi1 g1 c1 e vs vs1 Γ q) x
theorem wipe_twice (σ : L2.St) (vs : List Nat) : L2.wipe (L2.wipe σ vs) vs = L2.wipe σ vs := by
  apply List.ext_getElem?
  intro j
  by_cases hj : j ∈ vs
  · have a1 : ∀ τ : L2.St, (L2.wipe τ vs)[j]? = if j < τ.length then some none else none := by
      intro τ
      cases e : (L2.wipe τ vs)[j]? with
      | none => rw [if_neg]; rw [List.getElem?_eq_none_iff, L2.wipe_length] at e; omega
      | some o =>
        cases o with
        | none =>
          rw [if_pos]
          have := (List.getElem?_eq_some_iff.mp e).1
          rw [L2.wipe_length] at this
          exact this
        | some v => exact ((L2.wipe_some e).2 hj).elim
    rw [a1, a1, L2.wipe_length]
  · rw [L2.wipe_out hj]
section
variable {ai ai1 : AI} {wi wi1 : TI} {te : TE} {ae : AE} {at_ at1 : AT}
abbrev SimI (K : Fg) (W : WX) (wi : TI) (ai : AI) : Prop := ∀ (σ : L2.St) (H : Hp) (Γ : Gt) (A : Ah) (q : ItA → Ah → Prop) (x : AX) (Q : It → Hp → Prop), RelA K H A → Slots K H σ Γ → ai Γ A q x →
    (∀ H' J it A', Nxt K H H' → RelA K H' A' → LoopOk K H' J it → it.still A' → q it A' → Q J H') → (∀ H' e A', Nxt K H H' → RelA K H' A' → x e A' → W (exC K e) (some e.d) σ H') → wi σ H Q
abbrev SimG (K : Fg) (g : TG) (ag : AG) : Prop := ∀ (v : V) (d : D) (σ : L2.St) (H : Hp) (Γ : Gt) (A : Ah) (q : Gt → Ah → Prop) (Q : L2.St → Hp → Prop), RelA K H A → Slots K H σ Γ → Val K H v d → ag d Γ A q → (∀ σ' H' Γ' A', Nxt K H H' → RelA K H' A' → Slots K H' σ' Γ' → q Γ' A' → Q σ' H') → g v σ H Q
theorem sim_lc2 {K : Fg} {W : WX} {g g1 : TG} {ag ag1 : AG} {tt tt1 : TT} {vs vs1 : List Nat} (hi : SimI K W wi ai) (hg : SimG K g ag) (tw : TgW vs g) (ht : SimT K WF tt at_) (hi1 : SimI K WF wi1 ai1) (hg1 : SimG K g1 ag1) (tw1 : TgW vs1 g1) (ht1 : SimT K WF tt1 at1) (he : SimE K WF te ae) :
    SimE K W (tLc2 wi g tt wi1 g1 tt1 te vs vs1) (aLc2 ai ag at_ ai1 ag1 at1 ae vs vs1) := fun σ H Γ A q x Q R S hh k kx =>
  hi σ H Γ A _ x _ R S hh (fun H1 J it A1 n1 R1 L st h1 => by
    intro D hD
    unfold lcR2 at h1
    obtain ⟨Iv, h0, hs, hturn, hd⟩ := h1 D (R1.none hD)
    have n2 : Nxt K H1 (upd H1 D (.lst [])) := .new hD
    refine ⟨fun i m H' => m = it.n - i ∧ i ≤ it.n ∧ ∃ acc A', Nxt K H1 H' ∧ RelA K H' A' ∧ Iv i acc A', ⟨it.n, by omega, Nat.zero_le _, [], _, n2, R1.new hD (.lst .nil), h0⟩, ?_⟩
    rintro i m H' ⟨rfl, hle, acc, A', n', R', hI⟩
    obtain ⟨st', hacc⟩ := hs i acc A' hle hI
    by_cases hlt : i < it.n
    · refine .inr ⟨L.go i H' A' n' R' st' hlt, fun H2 => ∃ acc2 A2, Nxt K H1 H2 ∧ RelA K H2 A2 ∧ Iv (i + 1) acc2 A2, fun H2 ⟨acc2, A2, q⟩ => ⟨it.n - (i + 1), by omega, rfl, hlt, acc2, A2, q⟩, fun y H2 hy => ?_⟩
      obtain ⟨n3, R3, V3⟩ := L.yld i H' A' y H2 n' R' st' hlt hy
      have hg0 := hg y (it.item i) (L2.wipe σ vs) H2 (wipeG Γ vs) A' _ (fun σ2 H3 => tt σ2 H3 fun b H4 => if b = true then wi1 σ2 H4 fun J1 H5 => ∃ W1 : Nat → Nat → Hp → Prop, (∃ m, W1 0 m H5) ∧ ∀ j k H, W1 j k H →
          (J1.stop j H ∧ (fun H2 => ∃ acc2 A2, Nxt K H1 H2 ∧ RelA K H2 A2 ∧ Iv (i + 1) acc2 A2) H) ∨ (J1.go j H ∧ ∃ Nx1 : Hp → Prop, (∀ H', Nx1 H' → ∃ k', k' < k ∧ W1 (j + 1) k' H') ∧ ∀ x H', J1.yld j H x H' → g1 x (L2.wipe σ2 vs1) H' fun σ3 H5 => L2.wipe σ3 vs1 = L2.wipe σ2 vs1 ∧ tt1 σ3 H5 fun b H6 =>
            if b = true then te σ3 H6 fun y H7 => ∃ acc, H7 D = some (.lst acc) ∧ acc.length < sizeLine ∧ Nx1 (upd H7 D (.lst (acc ++ [y]))) else Nx1 H6)
          else (fun H2 => ∃ acc2 A2, Nxt K H1 H2 ∧ RelA K H2 A2 ∧ Iv (i + 1) acc2 A2) H4) R3 ((S.wipe vs).mono ((n1.trans n').trans n3)) V3 (hturn i acc A' hlt hI) (fun σ2 H3 Γ2 A2 n4 R4 S4 h4 => by
        refine ht σ2 H3 Γ2 A2 _ _ _ R4 S4 h4 (fun H4 b A3 n5 R5 h5 => ?_) (fun _ _ _ _ _ z => z.elim)
        have n05 := ((n'.trans n3).trans n4).trans n5
        cases b with
        | false =>
          obtain ⟨ac, e, h5⟩ := h5.2 rfl
          exact ⟨ac, A3, n05, R5, h5⟩
        | true =>
          refine hi1 σ2 H4 Γ2 A3 _ _ _ R5 (S4.mono n5) (h5.1 rfl) (fun H5 J1 it1 A4 n6 R6 L1 st1 h6 => ?_) (fun _ _ _ _ _ z => z.elim)
          obtain ⟨Iv1, ⟨ac0, h10⟩, hs1, hturn1, hd1⟩ := h6
          have S6 := S4.mono (n5.trans n6)
          refine ⟨fun j m H' => m = it1.n - j ∧ j ≤ it1.n ∧ ∃ acc A', Nxt K H5 H' ∧ RelA K H' A' ∧ Iv1 j acc A', ⟨it1.n, by omega, Nat.zero_le _, ac0, A4, .rfl, R6, h10⟩, ?_⟩
          rintro j m H'' ⟨rfl, hle1, acc1, A5, n7, R7, hI1⟩
          obtain ⟨st1', hacc1⟩ := hs1 j acc1 A5 hle1 hI1
          by_cases hlt1 : j < it1.n
          · refine .inr ⟨L1.go j H'' A5 n7 R7 st1' hlt1, fun H2 => ∃ acc2 A2, Nxt K H5 H2 ∧ RelA K H2 A2 ∧ Iv1 (j + 1) acc2 A2, fun H2 ⟨acc2, A2, q⟩ => ⟨it1.n - (j + 1), by omega, rfl, hlt1, acc2, A2, q⟩, fun z H8 hz => ?_⟩
            obtain ⟨n8, R8, V8⟩ := L1.yld j H'' A5 z H8 n7 R7 st1' hlt1 hz
            have hg2 := hg1 z (it1.item j) (L2.wipe σ2 vs1) H8 (wipeG Γ2 vs1) A5 _ (fun σ3 H9 => tt1 σ3 H9 fun b H6 => if b = true then te σ3 H6 fun y H7 => ∃ acc, H7 D = some (.lst acc) ∧ acc.length < sizeLine ∧ (fun H2 => ∃ acc2 A2, Nxt K H5 H2 ∧ RelA K H2 A2 ∧ Iv1 (j + 1) acc2 A2) (upd H7 D (.lst (acc ++ [y]))) else (fun H2 => ∃ acc2 A2, Nxt K H5 H2 ∧ RelA K H2 A2 ∧ Iv1 (j + 1) acc2 A2) H6) R8 ((S6.wipe vs1).mono (n7.trans n8)) V8 (hturn1 j acc1 A5 hlt1 hI1) (fun σ3 H9 Γ3 A6 n9 R9 S9 h9 => by
              refine ht1 σ3 H9 Γ3 A6 _ _ _ R9 S9 h9 (fun H10 b A7 n10 R10 h11 => ?_) (fun _ _ _ _ _ z => z.elim)
              have n11 := ((n7.trans n8).trans n9).trans n10
              cases b with
              | false =>
                obtain ⟨ac, e, h11⟩ := h11.2 rfl
                exact ⟨ac, A7, n11, R10, h11⟩
              | true =>
                refine he σ3 H10 Γ3 A7 _ _ _ R10 (S9.mono n10) (h11.1 rfl) (fun H12 u f A8 n12 R12 V12 h12 => ?_) (fun _ _ _ _ _ z => z.elim)
                obtain ⟨ac, e, hb, h12⟩ := h12
                obtain ⟨ws, e2, r2⟩ := R12.lst e
                have n13 : Nxt K H12 (upd H12 D (.lst (ws ++ [u]))) := .set e2 noTup_lst
                exact ⟨ws, e2, by rw [r2.length]; exact hb, ac ++ [f], _, (n11.trans n12).trans n13, R12.set e2 noTup_lst (.lst (r2.append (.cons V12 .nil))), h12⟩)
            have := tw1 z (L2.wipe σ2 vs1) H8 _ hg2
            rw [wipe_twice] at this
            exact this
          · have he1 : j = it1.n := by omega
            subst he1
            exact .inl ⟨L1.stop _ H'' A5 n7 R7 st1' (Nat.le_refl _), acc1, A5, (n05.trans n6).trans n7, R7, hd1 acc1 A5 hI1⟩)
      have := tw y (L2.wipe σ vs) H2 _ hg0
      rw [wipe_twice] at this
      exact this
    · have he2 : i = it.n := by omega
      subst he2
      exact .inl ⟨L.stop _ H' A' n' R' st' (Nat.le_refl _), k H' _ _ A' (n1.trans n') R' (.ref D) (hd acc A' hI)⟩) kx
end
section
variable {X : Cx} {W : WX} {elt tg iter tg1 iter1 : Expr} {ifs ifs1 : List Expr} {scope : Scope} {own : List (Str × Nat)} {vs1 : List Nat} {pos : Pos} {wi : TI} {ai ai1 : AI} {ag ag1 : AG} {at_ at1 : AT} {ae : AE}
theorem ga_lc2 {wi1 : Shared → Hp → Addr → List (Str × Addr) → List Addr → TI} {g g1 : Shared → Hp → Addr → List (Str × Addr) → List Addr → TG} {tt tt1 : Shared → Hp → Addr → List (Str × Addr) → List Addr → TT} {te : Shared → Hp → Addr → List (Str × Addr) → List Addr → TE} (hc : X.calm = true) (hN : X.N.Nodup) (hi : PIA X W tg iter wi ai) (ok : BlkOk X.N X.env.scope scope own) (hv : ∀ i ∈ vs1, i ∈ own.map (·.2))
    (hg : ∀ (s : Shared) (H : Hp) (C : Addr) (cl : List (Str × Addr)) (fp : List Addr), PGA (X.blk s H scope (compEnvC scope cl C X.env) fp) tg (g s H C cl fp) ag)
    (ht : ∀ (s : Shared) (H : Hp) (C : Addr) (cl : List (Str × Addr)) (fp : List Addr), PTsA (X.blk s H scope (compEnvC scope cl C X.env) fp) WF ifs (tt s H C cl fp) at_)
    (hi1 : ∀ (s : Shared) (H : Hp) (C : Addr) (cl : List (Str × Addr)) (fp : List Addr), PIA (X.blk s H scope (compEnvC scope cl C X.env) fp) WF tg1 iter1 (wi1 s H C cl fp) ai1)
    (hg1 : ∀ (s : Shared) (H : Hp) (C : Addr) (cl : List (Str × Addr)) (fp : List Addr), PGA (X.blk s H scope (compEnvC scope cl C X.env) fp) tg1 (g1 s H C cl fp) ag1)
    (ht1 : ∀ (s : Shared) (H : Hp) (C : Addr) (cl : List (Str × Addr)) (fp : List Addr), PTsA (X.blk s H scope (compEnvC scope cl C X.env) fp) WF ifs1 (tt1 s H C cl fp) at1)
    (he : ∀ (s : Shared) (H : Hp) (C : Addr) (cl : List (Str × Addr)) (fp : List Addr), PEA (X.blk s H scope (compEnvC scope cl C X.env) fp) WF elt (te s H C cl fp) ae)
    (tw : TgW (own.map (·.2)) (g X.s_0 X.H_0 0 [] [])) (tw1 : TgW vs1 (g1 X.s_0 X.H_0 0 [] []))
    (ei : ∀ (s : Shared) (H : Hp) (C : Addr) (cl : List (Str × Addr)) (fp : List Addr), wi1 s H C cl fp = wi1 X.s_0 X.H_0 0 [] [] := by intros; rfl)
    (eg : ∀ (s : Shared) (H : Hp) (C : Addr) (cl : List (Str × Addr)) (fp : List Addr), g s H C cl fp = g X.s_0 X.H_0 0 [] [] := by intros; rfl)
    (et : ∀ (s : Shared) (H : Hp) (C : Addr) (cl : List (Str × Addr)) (fp : List Addr), tt s H C cl fp = tt X.s_0 X.H_0 0 [] [] := by intros; rfl)
    (eg1 : ∀ (s : Shared) (H : Hp) (C : Addr) (cl : List (Str × Addr)) (fp : List Addr), g1 s H C cl fp = g1 X.s_0 X.H_0 0 [] [] := by intros; rfl)
    (et1 : ∀ (s : Shared) (H : Hp) (C : Addr) (cl : List (Str × Addr)) (fp : List Addr), tt1 s H C cl fp = tt1 X.s_0 X.H_0 0 [] [] := by intros; rfl)
    (ee : ∀ (s : Shared) (H : Hp) (C : Addr) (cl : List (Str × Addr)) (fp : List Addr), te s H C cl fp = te X.s_0 X.H_0 0 [] [] := by intros; rfl) (hs : ∀ x, foldedSetIterable iter X.env x = pure x := by intro _; rfl) (hs1 : ∀ env x, foldedSetIterable iter1 env x = pure x := by intro _ _; rfl) :
    PEA X W (.ListComp elt [⟨tg, iter, ifs, 0⟩, ⟨tg1, iter1, ifs1, 0⟩] scope pos) (tLc2 wi (g X.s_0 X.H_0 0 [] []) (tt X.s_0 X.H_0 0 [] []) (wi1 X.s_0 X.H_0 0 [] []) (g1 X.s_0 X.H_0 0 [] []) (tt1 X.s_0 X.H_0 0 [] []) (te X.s_0 X.H_0 0 [] []) (own.map (·.2)) vs1) (aLc2 ai ag at_ ai1 ag1 at1 ae (own.map (·.2)) vs1) where
  pe := pe_lc2 hc hN hi.pe ok hv (fun s H C cl fp => eg s H C cl fp ▸ (hg s H C cl fp).pe) (fun s H C cl fp => et s H C cl fp ▸ (ht s H C cl fp).pe) (fun s H C cl fp => ei s H C cl fp ▸ (hi1 s H C cl fp).pe) (fun s H C cl fp => eg1 s H C cl fp ▸ (hg1 s H C cl fp).pe) (fun s H C cl fp => et1 s H C cl fp ▸ (ht1 s H C cl fp).pe) (fun s H C cl fp => ee s H C cl fp ▸ (he s H C cl fp).pe) hs hs1
  sim := sim_lc2 hi.sim (hg X.s_0 X.H_0 0 [] []).sim tw (ht X.s_0 X.H_0 0 [] []).sim (hi1 X.s_0 X.H_0 0 [] []).sim (hg1 X.s_0 X.H_0 0 [] []).sim tw1 (ht1 X.s_0 X.H_0 0 [] []).sim (he X.s_0 X.H_0 0 [] []).sim
theorem gs_setLc2 {i : Nat} {y : Str} {py spos : Pos} {wi1 : Shared → Hp → Addr → List (Str × Addr) → List Addr → TI} {g g1 : Shared → Hp → Addr → List (Str × Addr) → List Addr → TG} {tt tt1 : Shared → Hp → Addr → List (Str × Addr) → List Addr → TT} {te : Shared → Hp → Addr → List (Str × Addr) → List Addr → TE} (hc : X.calm = true) (hN : X.N.Nodup) (hi : PIA X W tg iter wi ai) (ok : BlkOk X.N X.env.scope scope own) (hv : ∀ i ∈ vs1, i ∈ own.map (·.2))
    (hg : ∀ (s : Shared) (H : Hp) (C : Addr) (cl : List (Str × Addr)) (fp : List Addr), PGA (X.blk s H scope (compEnvC scope cl C X.env) fp) tg (g s H C cl fp) ag)
    (ht : ∀ (s : Shared) (H : Hp) (C : Addr) (cl : List (Str × Addr)) (fp : List Addr), PTsA (X.blk s H scope (compEnvC scope cl C X.env) fp) WF ifs (tt s H C cl fp) at_)
    (hi1 : ∀ (s : Shared) (H : Hp) (C : Addr) (cl : List (Str × Addr)) (fp : List Addr), PIA (X.blk s H scope (compEnvC scope cl C X.env) fp) WF tg1 iter1 (wi1 s H C cl fp) ai1)
    (hg1 : ∀ (s : Shared) (H : Hp) (C : Addr) (cl : List (Str × Addr)) (fp : List Addr), PGA (X.blk s H scope (compEnvC scope cl C X.env) fp) tg1 (g1 s H C cl fp) ag1)
    (ht1 : ∀ (s : Shared) (H : Hp) (C : Addr) (cl : List (Str × Addr)) (fp : List Addr), PTsA (X.blk s H scope (compEnvC scope cl C X.env) fp) WF ifs1 (tt1 s H C cl fp) at1)
    (he : ∀ (s : Shared) (H : Hp) (C : Addr) (cl : List (Str × Addr)) (fp : List Addr), PEA (X.blk s H scope (compEnvC scope cl C X.env) fp) WF elt (te s H C cl fp) ae)
    (tw : TgW (own.map (·.2)) (g X.s_0 X.H_0 0 [] [])) (tw1 : TgW vs1 (g1 X.s_0 X.H_0 0 [] [])) (hy : X.N[i]? = some y := by rfl) (hyl : X.env.scope.names.lookup y = some .local := by rfl)
    (ei : ∀ (s : Shared) (H : Hp) (C : Addr) (cl : List (Str × Addr)) (fp : List Addr), wi1 s H C cl fp = wi1 X.s_0 X.H_0 0 [] [] := by intros; rfl)
    (eg : ∀ (s : Shared) (H : Hp) (C : Addr) (cl : List (Str × Addr)) (fp : List Addr), g s H C cl fp = g X.s_0 X.H_0 0 [] [] := by intros; rfl)
    (et : ∀ (s : Shared) (H : Hp) (C : Addr) (cl : List (Str × Addr)) (fp : List Addr), tt s H C cl fp = tt X.s_0 X.H_0 0 [] [] := by intros; rfl)
    (eg1 : ∀ (s : Shared) (H : Hp) (C : Addr) (cl : List (Str × Addr)) (fp : List Addr), g1 s H C cl fp = g1 X.s_0 X.H_0 0 [] [] := by intros; rfl)
    (et1 : ∀ (s : Shared) (H : Hp) (C : Addr) (cl : List (Str × Addr)) (fp : List Addr), tt1 s H C cl fp = tt1 X.s_0 X.H_0 0 [] [] := by intros; rfl)
    (ee : ∀ (s : Shared) (H : Hp) (C : Addr) (cl : List (Str × Addr)) (fp : List Addr), te s H C cl fp = te X.s_0 X.H_0 0 [] [] := by intros; rfl) (hs : ∀ x, foldedSetIterable iter X.env x = pure x := by intro _; rfl) (hs1 : ∀ env x, foldedSetIterable iter1 env x = pure x := by intro _ _; rfl)
    (hsw : swapsWith (.ListComp elt [⟨tg, iter, ifs, 0⟩, ⟨tg1, iter1, ifs1, 0⟩] scope pos) (some (.Name y py)) spos.line X.env = pure true := by rfl) :
    PSA X W (.Assign [.Name y py] (.ListComp elt [⟨tg, iter, ifs, 0⟩, ⟨tg1, iter1, ifs1, 0⟩] scope pos) spos) (tAsg (tLc2 wi (g X.s_0 X.H_0 0 [] []) (tt X.s_0 X.H_0 0 [] []) (wi1 X.s_0 X.H_0 0 [] []) (g1 X.s_0 X.H_0 0 [] []) (tt1 X.s_0 X.H_0 0 [] []) (te X.s_0 X.H_0 0 [] []) (own.map (·.2)) vs1) (gName i)) (aAsg (aLc2 ai ag at_ ai1 ag1 at1 ae (own.map (·.2)) vs1) (agName i)) where
  pe := ps_setLc2 hc hN hy hyl hsw hi.pe ok hv (fun s H C cl fp => eg s H C cl fp ▸ (hg s H C cl fp).pe) (fun s H C cl fp => et s H C cl fp ▸ (ht s H C cl fp).pe) (fun s H C cl fp => ei s H C cl fp ▸ (hi1 s H C cl fp).pe) (fun s H C cl fp => eg1 s H C cl fp ▸ (hg1 s H C cl fp).pe) (fun s H C cl fp => et1 s H C cl fp ▸ (ht1 s H C cl fp).pe) (fun s H C cl fp => ee s H C cl fp ▸ (he s H C cl fp).pe) hs hs1
  sim := sim_asg (sim_lc2 hi.sim (hg X.s_0 X.H_0 0 [] []).sim tw (ht X.s_0 X.H_0 0 [] []).sim (hi1 X.s_0 X.H_0 0 [] []).sim (hg1 X.s_0 X.H_0 0 [] []).sim tw1 (ht1 X.s_0 X.H_0 0 [] []).sim (he X.s_0 X.H_0 0 [] []).sim) (gg_name (pos := py) hN hy (.inl hyl) (.inr hyl))
end
end GA

namespace GA
open PySem PySem.Spec PyProof.Rows L2 GV TL
/-! ### sorted of any plain data, any number -/
abbrev keyP (b : V × D) : PyData := b.2.py
def srtR (K : Fg) : List V → Hp → VK → Prop := fun vs H Q => ∃ (a : Addr) (bs : List (V × D)), vs = [V.ref a] ∧ SqL K H a (bs.map (·.1)) ∧ DpAll K H (bs.map (·.1)) (bs.map keyP) ∧ PySem.W.AllAlike (bs.map keyP) ∧ PySem.W.Sortable (bs.map keyP) ∧ (∀ b ∈ bs, (keyP b).depth ≤ 60) ∧
  ∀ p, H p = none → Q (.ref p) (upd H p (.lst ((bs.mergeSort (PySem.W.dataLe false keyP)).map (·.1))))
theorem each_of_vals : ∀ {bs : List (V × D)} {us : List Value}, Vals (bs.map (·.1)) us → PySem.W.EachIs (fun u (b : V × D) => RelV b.1 u) us bs
  | [], _, h => by cases h; exact .nil
  | b :: r, _, h => by
    cases h with
    | cons h1 h2 => exact .cons h1 (each_of_vals h2)
theorem each_of_reads {h : Heap} : ∀ {bs : List (V × D)} {us : List Value} {as : List Addr}, ReadsAll h us (bs.map keyP) as → PySem.W.EachIs (fun u (b : V × D) => ∃ as, Reads h u (keyP b) as) us bs
  | [], _, _, r => by
    obtain ⟨rfl, _⟩ := readsAll_nil_inv r
    exact .nil
  | b :: t, _, _, r => by
    obtain ⟨v, vs', as₁, as₂, rfl, _, r1, r2⟩ := readsAll_cons_inv r
    exact .cons ⟨_, r1⟩ (each_of_reads r2)
theorem vals_of_each : ∀ {bs : List (V × D)} {us : List Value}, PySem.W.EachIs (fun u (b : V × D) => RelV b.1 u) us bs → Vals (bs.map (·.1)) us
  | _, _, .nil => .nil
  | _, _, .cons h t => .cons h (vals_of_each t)
section
variable {X : Cx}
theorem cr_sortD (hu : X.A.units + 64 < cLine) : CallR X (.builtin "sorted") (srtR X.K) := by
  intro pins s σ H vs us Q I r h
  obtain ⟨a, bs, rfl, hs, hd, h1, h2, h3, hq⟩ := h
  obtain ⟨its, rv, hl, hz⟩ := I.list hs
  rw [Vals.ref1 r]
  obtain ⟨as, hr⟩ := Dp.readsAll I _ _ _ hd rv
  rw [List.length_map] at hz
  refine PySem.W.sorted_data (enc := keyP) (R := fun u (b : V × D) => RelV b.1 u) hl.isList (each_of_vals rv) (each_of_reads hr) h1 h2 hz (fun b hb => by have := h3 b hb; omega) fun out ho he => ?_
  obtain ⟨n, hn⟩ := PyProof.Rows.sortedAll_at s.heap its out.toArray
  have hlen : ((bs.mergeSort (PySem.W.dataLe false keyP)).map (·.1)).length ≤ sizeLine := by
    rw [List.length_map, (List.mergeSort_perm bs _).length_eq]; exact hz
  exact ⟨.ref _, upd H (s.heap.objs.size + 1) (.lst ((bs.mergeSort (PySem.W.dataLe false keyP)).map (·.1))), I.laid (t' := s.toks) (fun _ _ => PyProof.Rows.sortedAll_old) (Nat.le_succ _) ⟨hlen, out, n, vals_of_each he, hn⟩, rfl, hq _ (I.hok.fresh (Nat.le_succ _))⟩
end
theorem zip_fst {vs : List V} {ds : List D} (h : vs.length = ds.length) : (vs.zip ds).map (·.1) = vs := by
  rw [List.map_fst_zip]; omega
theorem zip_snd {vs : List V} {ds : List D} (h : vs.length = ds.length) : (vs.zip ds).map (·.2) = ds := by
  rw [List.map_snd_zip]; omega
theorem zip_key {vs : List V} {ds : List D} (h : vs.length = ds.length) : (vs.zip ds).map keyP = ds.map D.py := by
  rw [show keyP = D.py ∘ (fun b : V × D => b.2) from rfl, ← List.map_map, zip_snd h]
theorem pys_map : ∀ ds : List D, D.pys ds = ds.map D.py
  | [] => rfl
  | d :: ds => by rw [D.pys, pys_map ds]; rfl
theorem vls_of_pairs {K : Fg} {H : Hp} : ∀ {bs : List (V × D)}, (∀ b ∈ bs, Val K H b.1 b.2) → Vls K H (bs.map (·.1)) (bs.map (·.2))
  | [], _ => .nil
  | b :: r, h => .cons (h b List.mem_cons_self) (vls_of_pairs fun c m => h c (List.mem_cons_of_mem _ m))
theorem pairs_of_vls {K : Fg} {H : Hp} : ∀ {vs : List V} {ds : List D}, Vls K H vs ds → ∀ b ∈ vs.zip ds, Val K H b.1 b.2
  | _, _, .nil, b, m => nomatch m
  | _, _, .cons h t, b, m => by
    rcases List.mem_cons.mp m with rfl | m
    · exact h
    · exact pairs_of_vls t b m
def aSortD : A1c := fun ds A q => match ds with
  | [.ref a] => onL A a fun xs => D.flats 60 xs = true ∧ PySem.W.AllAlike (xs.map D.py) ∧ PySem.W.Sortable (xs.map D.py) ∧ newL A (xs.mergeSort (PySem.W.dataLe false D.py)) q
  | _ => False
theorem flats_mem {n : Nat} : ∀ {xs : List D}, D.flats n xs = true → ∀ d ∈ xs, d.flat n = true
  | [], _, _, m => nomatch m
  | x :: r, h, d, m => by
    have h1 : x.flat n = true ∧ D.flats n r = true := by simpa [D.flats] using h
    rcases List.mem_cons.mp m with rfl | m
    · exact h1.1
    · exact flats_mem h1.2 d m
theorem sim_sortD {K : Fg} : SimC K (srtR K) aSortD := by
  intro H A vs ds q Q R hv h k
  unfold aSortD at h
  split at h
  · obtain ⟨v, rfl, h1⟩ := hv.one
    cases h1
    obtain ⟨xs, ha, hf, h2, h3, h⟩ := h
    obtain ⟨ws, e1, r1⟩ := R.lst ha
    have hl := r1.length
    refine ⟨_, ws.zip xs, rfl, ?_, ?_, ?_, ?_, fun b hb => ?_, fun p hp => ?_⟩
    · rw [zip_fst hl]; exact SqL.of e1
    · rw [zip_fst hl, zip_key hl, ← pys_map]
      exact Vls.dp 60 hf r1
    · rw [zip_key hl]; exact h2
    · rw [zip_key hl]; exact h3
    · exact (flat_depth 60 b.2 (flats_mem hf b.2 (List.of_mem_zip hb).2)).1
    · have hm : ((ws.zip xs).mergeSort (PySem.W.dataLe false keyP)).map (·.2) = xs.mergeSort (PySem.W.dataLe false D.py) := by
        have := PySem.W.sort_maps (r := PySem.W.dataLe false keyP) (s := PySem.W.dataLe false D.py) (fun b : V × D => b.2) (l := ws.zip xs) (fun _ _ _ _ => rfl)
        rw [this, zip_snd hl]
      have hv := vls_of_pairs (K := K) (H := H) (bs := (ws.zip xs).mergeSort (PySem.W.dataLe false keyP)) fun b hb => pairs_of_vls r1 b ((List.mergeSort_perm _ _).mem_iff.mp hb)
      rw [hm] at hv
      exact k _ _ _ _ (.new hp) (R.new hp (.lst hv)) (.ref p) (h p (R.none hp))
  · exact h.elim
section
variable {X : Cx}
theorem ba_sortD (hu : X.A.units + 64 < cLine) : BltA X (.builtin "sorted") (srtR X.K) aSortD := ⟨cr_sortD hu, sim_sortD⟩
end
/-! ### d.get(k, z) -/
def aDGet2 (o i z : AE) : AE := fun Γ A q x => o Γ A (fun d A1 => match d with
  | .ref a => onD A1 a fun _ => i Γ A1 (fun k A2 => z Γ A2 (fun w A3 => onD A3 a fun kvs => ∃ ky, keyOf k = some ky ∧ q ((getD' kvs ky).getD w) A3) x) x
  | _ => False) x
section
variable {X : Cx} {W : WX} {o i z : Expr} {apos cpos : Pos} {to ti tz : TE} {ao ai az : AE}
theorem ga_dget2 (hu : X.A.units + 64 < cLine) (ho : PEA X W o to ao) (hi : PEA X W i ti ai) (hz : PEA X W z tz az) (m : M2 X o "get" apos i z cpos := by exact ⟨rfl, rfl, rfl, rfl⟩) : PEA X W (.Call (.Attribute o "get" apos) [i, z] [] cpos) (tDGet2 to ti tz) (aDGet2 ao ai az) where
  pe := pe_dget2 (by omega) ho.pe hi.pe hz.pe m
  sim := fun σ H Γ A q x Q R S h k kx => ho.sim σ H Γ A _ x _ R S h (fun H1 v d A1 n1 R1 v1 h1 => by
    cases d with
    | ref a =>
      obtain ⟨kvs, e, h1⟩ := h1
      obtain ⟨ws, e1, r1⟩ := R1.dic e
      cases v1
      refine ⟨a, rfl, .inl ⟨_, .inl e1⟩, hi.sim σ H1 Γ A1 _ x _ R1 (S.mono n1) h1 (fun H2 w f A2 n2 R2 v2 h2 => hz.sim σ H2 Γ A2 _ x _ R2 (S.mono (n1.trans n2)) h2 (fun H3 u g A3 n3 R3 v3 h3 => ?_) fun H' e' A' n' R' h' => kx H' e' A' ((n1.trans n2).trans n') R' h') fun H' e' A' n' R' h' => kx H' e' A' (n1.trans n') R' h'⟩
      obtain ⟨kvs3, e3, ky, hk, h3⟩ := h3
      obtain ⟨ws3, e4, r4⟩ := R3.dic e3
      have := keyOf_ok (v2.mono n3) hk
      subst this
      obtain ⟨g1, g2, _⟩ := relkv_get (k := ky) r4
      refine ⟨valV ws3 ky, .k e4, ?_⟩
      cases hg : getD' kvs3 ky with
      | none => rw [g2 hg]; rw [hg] at h3; exact k H3 _ _ A3 ((n1.trans n2).trans n3) R3 v3 h3
      | some d =>
        obtain ⟨v', hv', hv2⟩ := g1 d hg
        rw [hv']
        rw [hg] at h3
        exact k H3 _ _ A3 ((n1.trans n2).trans n3) R3 hv2 h3
    | _ => exact h1.elim) kx
end
/-! ### sorted(d), the keys less than 64 texts -/
abbrev srtKR : List V → Hp → VK → Prop := fun xs H Q => ∃ (a : Addr) (kvs : List (Key × V)) (ks : List Str), xs = [.ref a] ∧ Rd H a (.dK kvs) ∧ kvs.map (·.1) = ks.map Sum.inr ∧ ks.length < 64 ∧
  ∀ (ys : List Str) (p : Addr), ys.Perm ks → sortedS ys = true → H p = none → Q (.ref p) (upd H p (.lst (ys.map V.str)))
def aSortK : A1c := fun ds A q => match ds with
  | [.ref a] => onD A a fun kvs => ∃ cs : List (List Nat), kvs.map (·.1) = cs.map kS ∧ cs.length < 64 ∧ ∀ ys : List (List Nat), ys.Perm cs → srtL ys = true → newL A (ys.map D.str) q
  | _ => False
theorem relkv_keys {K : Fg} {H : Hp} : ∀ {ws : List (Key × V)} {kvs : List (Key × D)}, RelKV K H ws kvs → ws.map (·.1) = kvs.map (·.1)
  | _, _, .nil => rfl
  | _ :: _, _ :: _, .cons ⟨h1, _⟩ t => by rw [List.map_cons, List.map_cons, relkv_keys t, h1]
theorem sim_sortK {K : Fg} : SimC K srtKR aSortK := by
  intro H A vs ds q Q R hv h k
  unfold aSortK at h
  split at h
  · obtain ⟨v, rfl, h1⟩ := hv.one
    cases h1
    obtain ⟨kvs, ha, cs, hk, hl, h⟩ := h
    obtain ⟨ws, e1, r1⟩ := R.dic ha
    refine ⟨_, ws, cs.map fun c => ⟨c.toArray⟩, rfl, .inl e1, ?_, by rw [List.length_map]; exact hl, fun ys p hp ho hn => ?_⟩
    · rw [relkv_keys r1, hk, List.map_map]; rfl
    · have hpc : (ys.map tl).Perm cs := by
        have := hp.map tl
        rw [List.map_map] at this
        have e : (cs.map (tl ∘ fun c => (⟨c.toArray⟩ : Str))) = cs := by
          conv => rhs; rw [← List.map_id cs]
          apply List.map_congr_left
          intro c _
          rfl
        rw [e] at this
        exact this
      have hv : Vls K (upd H p (.lst (ys.map V.str))) (ys.map V.str) ((ys.map tl).map D.str) := Vls.strs rfl
      exact k _ _ _ _ (.new hn) (R.new hn (.lst (Vls.strs rfl))) (.ref p) (h (ys.map tl) hpc (srt_ok ys ho) p (R.none hn))
  · exact h.elim
section
variable {X : Cx}
theorem ba_sortK (hc : X.calm = true) : BltA X (.builtin "sorted") srtKR aSortK := ⟨call_sortedD hc, sim_sortK⟩
end
end GA

namespace GA
open PySem PySem.Spec PyProof.Rows L2 GV TL
/-- a comprehension over what stays as it is -/
theorem lc_ofS {it : ItA} {A1 : Ah} {g : AG} {c : AT} {e : AE} {vs : List Nat} {Γ : Gt} {q : D → Ah → Prop} (f : Nat → D) (hsrc : ∀ A', Ext A1 A' → it.still A') (hn : it.n ≤ big)
    (body : ∀ (i : Nat) (A' : Ah) (k : D → Ah → Prop) (sk : Ah → Prop), i < it.n → Ext A1 A' → k (f i) A' → g (it.item i) (wipeG Γ vs) A' fun Γ2 A2 => c Γ2 A2 (fun b A3 => bsel b (e Γ2 A3 k fun _ _ => False) (sk A3)) fun _ _ => False)
    (done : ∀ p, A1 p = none → q (.ref p) (updA A1 p (.lst ((List.range it.n).map f)))) :
    lcR it A1 g c e vs Γ q := by
  unfold lcR
  intro p hp
  refine ⟨fun i acc A' => acc = (List.range i).map f ∧ A' = updA A1 p (.lst acc), ⟨rfl, rfl⟩, ?_, ?_, ?_⟩
  · rintro i acc A' _ ⟨rfl, rfl⟩
    exact ⟨hsrc _ (.new hp), updA_same⟩
  · rintro i acc A' hi ⟨rfl, rfl⟩
    refine body i _ _ (fun A3 => ∃ ac, A3 p = some (.lst ac) ∧ ac = (List.range (i + 1)).map f ∧ A3 = updA A1 p (.lst ac)) hi (fun b d h => ?_) ⟨_, updA_same, by rw [List.length_map, List.length_range]; omega, ?_, updA_updA⟩
    · rw [updA_ne (fun z => by rw [z, hp] at h; cases h)]; exact h
    · rw [List.range_succ, List.map_append]; rfl
  · rintro acc A' ⟨rfl, rfl⟩
    exact done p hp
theorem lc_filS {it : ItA} {A1 : Ah} {g : AG} {c : AT} {e : AE} {vs : List Nat} {Γ : Gt} {q : D → Ah → Prop} (f : Nat → D) (pr : Nat → Bool) (hsrc : ∀ A', Ext A1 A' → it.still A') (hn : it.n ≤ big)
    (body : ∀ (i : Nat) (A' : Ah) (k : D → Ah → Prop) (sk : Ah → Prop), i < it.n → Ext A1 A' → (pr i = true → k (f i) A') → (pr i = false → sk A') → g (it.item i) (wipeG Γ vs) A' fun Γ2 A2 => c Γ2 A2 (fun b A3 => bsel b (e Γ2 A3 k fun _ _ => False) (sk A3)) fun _ _ => False)
    (done : ∀ p, A1 p = none → q (.ref p) (updA A1 p (.lst (((List.range it.n).filter pr).map f)))) :
    lcR it A1 g c e vs Γ q := by
  unfold lcR
  intro p hp
  refine ⟨fun i acc A' => acc = ((List.range i).filter pr).map f ∧ A' = updA A1 p (.lst acc), ⟨rfl, rfl⟩, ?_, ?_, ?_⟩
  · rintro i acc A' _ ⟨rfl, rfl⟩
    exact ⟨hsrc _ (.new hp), updA_same⟩
  · rintro i acc A' hi ⟨rfl, rfl⟩
    have hr : (List.range (i + 1)).filter pr = (List.range i).filter pr ++ if pr i = true then [i] else [] := by
      rw [List.range_succ, List.filter_append]
      congr 1
      cases h : pr i <;> simp [h]
    refine body i _ _ (fun A3 => ∃ ac, A3 p = some (.lst ac) ∧ ac = ((List.range (i + 1)).filter pr).map f ∧ A3 = updA A1 p (.lst ac)) hi (fun b d h => ?_) (fun hpr => ⟨_, updA_same, ?_, ?_, updA_updA⟩) (fun hpr => ⟨_, updA_same, ?_, rfl⟩)
    · rw [updA_ne (fun z => by rw [z, hp] at h; cases h)]; exact h
    · have := List.length_filter_le pr (List.range i)
      rw [List.length_range] at this
      rw [List.length_map]; omega
    · rw [hr, if_pos hpr, List.map_append]; rfl
    · rw [hr, if_neg (by rw [hpr]; decide), List.append_nil]
  · rintro acc A' ⟨rfl, rfl⟩
    exact done p hp
theorem flat_range_len {α : Type} (F : Nat → List α) {n i : Nat} (h : i ≤ n) : ((List.range i).flatMap F).length ≤ ((List.range n).flatMap F).length := by
  induction n with
  | zero => have : i = 0 := by omega
            subst this; exact Nat.le_refl _
  | succ n ih =>
    rcases Nat.lt_or_ge i (n + 1) with g | g
    · rw [List.range_succ, List.flatMap_append, List.length_append]
      have := ih (by omega)
      omega
    · have : i = n + 1 := by omega
      subst this; exact Nat.le_refl _
/-- a comprehension of two clauses -/
theorem lc2_of {it : ItA} {A1 : Ah} {g : AG} {c : AT} {wi1 : AI} {g1 : AG} {c1 : AT} {e : AE} {vs vs1 : List Nat} {Γ : Gt} {q : D → Ah → Prop} (Γo : Nat → Gt) (m : Nat → Nat) (item1 : Nat → Nat → D) (f : Nat → Nat → D) (hsrc : ∀ A', Ext A1 A' → it.still A')
    (hn : ((List.range it.n).flatMap fun i => (List.range (m i)).map (f i)).length ≤ big)
    (body : ∀ (i : Nat) (A' : Ah) (k : Gt → ItA → Ah → Prop) (sk : Ah → Prop), i < it.n → Ext A1 A' → k (Γo i) ⟨none, m i, item1 i⟩ A' → g (it.item i) (wipeG Γ vs) A' fun Γ2 A2 => c Γ2 A2 (fun b A3 => bsel b (wi1 Γ2 A3 (k Γ2) fun _ _ => False) (sk A3)) fun _ _ => False)
    (inner : ∀ (i j : Nat) (A' : Ah) (k : D → Ah → Prop) (sk : Ah → Prop), i < it.n → j < m i → Ext A1 A' → k (f i j) A' → g1 (item1 i j) (wipeG (Γo i) vs1) A' fun Γ3 A5 => c1 Γ3 A5 (fun b A6 => bsel b (e Γ3 A6 k fun _ _ => False) (sk A6)) fun _ _ => False)
    (done : ∀ p, A1 p = none → q (.ref p) (updA A1 p (.lst ((List.range it.n).flatMap fun i => (List.range (m i)).map (f i))))) :
    lcR2 it A1 g c wi1 g1 c1 e vs vs1 Γ q := by
  unfold lcR2
  intro p hp
  refine ⟨fun i acc A' => acc = ((List.range i).flatMap fun i => (List.range (m i)).map (f i)) ∧ A' = updA A1 p (.lst acc), ⟨rfl, rfl⟩, ?_, ?_, ?_⟩
  · rintro i acc A' _ ⟨rfl, rfl⟩
    exact ⟨hsrc _ (.new hp), updA_same⟩
  · rintro i acc A' hi ⟨rfl, rfl⟩
    have hl := flat_range_len (fun i => (List.range (m i)).map (f i)) (show i + 1 ≤ it.n from hi)
    have hs : ((List.range (i + 1)).flatMap fun i => (List.range (m i)).map (f i)) = ((List.range i).flatMap fun i => (List.range (m i)).map (f i)) ++ (List.range (m i)).map (f i) := by
      rw [List.range_succ, List.flatMap_append]; simp
    rw [hs, List.length_append, List.length_map, List.length_range] at hl
    refine body i _ (fun Γ2 it1 A4 => ∃ Inv1 : Nat → List D → Ah → Prop, (∃ ac, Inv1 0 ac A4) ∧ (∀ j acc A', j ≤ it1.n → Inv1 j acc A' → it1.still A' ∧ A' p = some (.lst acc)) ∧
      (∀ j acc A', j < it1.n → Inv1 j acc A' → g1 (it1.item j) (wipeG Γ2 vs1) A' fun Γ3 A5 => c1 Γ3 A5 (fun b A6 => bsel b (e Γ3 A6 (fun y A7 => ∃ ac, A7 p = some (.lst ac) ∧ ac.length < big ∧ Inv1 (j + 1) (ac ++ [y]) (updA A7 p (.lst (ac ++ [y])))) fun _ _ => False) (∃ ac, A6 p = some (.lst ac) ∧ Inv1 (j + 1) ac A6)) fun _ _ => False) ∧
      ∀ acc A', Inv1 it1.n acc A' → acc = ((List.range (i + 1)).flatMap fun i => (List.range (m i)).map (f i)) ∧ A' = updA A1 p (.lst acc)) _ hi (.new hp) ?_
    refine ⟨fun j acc A' => acc = ((List.range i).flatMap fun i => (List.range (m i)).map (f i)) ++ (List.range j).map (f i) ∧ A' = updA A1 p (.lst acc), ⟨_, rfl, by rw [List.range_zero, List.map_nil, List.append_nil]⟩, ?_, ?_, ?_⟩
    · rintro j acc A' _ ⟨rfl, rfl⟩
      exact ⟨trivial, updA_same⟩
    · rintro j acc A' (hj : j < m i) ⟨rfl, rfl⟩
      refine inner i j _ _ (fun A6 => ∃ ac, A6 p = some (.lst ac) ∧ ac = ((List.range i).flatMap fun i => (List.range (m i)).map (f i)) ++ (List.range (j + 1)).map (f i) ∧ A6 = updA A1 p (.lst ac)) hi hj (.new hp) ⟨_, updA_same, ?_, ?_, updA_updA⟩
      · rw [List.length_append, List.length_map, List.length_range]; omega
      · rw [List.range_succ, List.map_append, List.append_assoc]; rfl
    · rintro acc A' ⟨rfl, rfl⟩
      exact ⟨hs.symm, rfl⟩
  · rintro acc A' ⟨rfl, rfl⟩
    exact done p hp
/-- a comprehension whose body makes new things -/
theorem lc_ofE {it : ItA} {A1 : Ah} {g : AG} {c : AT} {e : AE} {vs : List Nat} {Γ : Gt} {q : D → Ah → Prop} (f : Nat → D) (hsrc : ∀ A', Ext A1 A' → it.still A') (hn : it.n ≤ big)
    (body : ∀ (i : Nat) (A' : Ah) (k : D → Ah → Prop) (sk : Ah → Prop), i < it.n → Ext A1 A' → (∀ A2, Ext A' A2 → k (f i) A2) → g (it.item i) (wipeG Γ vs) A' fun Γ2 A2 => c Γ2 A2 (fun b A3 => bsel b (e Γ2 A3 k fun _ _ => False) (sk A3)) fun _ _ => False)
    (done : ∀ p A', A1 p = none → Ext A1 A' → A' p = some (.lst ((List.range it.n).map f)) → q (.ref p) A') :
    lcR it A1 g c e vs Γ q := by
  unfold lcR
  intro p hp
  refine ⟨fun i acc A' => acc = (List.range i).map f ∧ A' p = some (.lst acc) ∧ Ext A1 A', ⟨rfl, updA_same, .new hp⟩, ?_, ?_, ?_⟩
  · rintro i acc A' _ ⟨rfl, e1, G⟩
    exact ⟨hsrc _ G, e1⟩
  · rintro i acc A' hi ⟨rfl, e1, G⟩
    refine body i _ _ (fun A3 => ∃ ac, A3 p = some (.lst ac) ∧ ac = (List.range (i + 1)).map f ∧ A3 p = some (.lst ac) ∧ Ext A1 A3) hi G (fun A2 G2 => ⟨_, G2 p _ e1, by rw [List.length_map, List.length_range]; omega, ?_, updA_same, (G.trans G2).upd hp⟩)
    rw [List.range_succ, List.map_append]; rfl
  · rintro acc A' ⟨rfl, e1, G⟩
    exact done p A' hp G e1
theorem atI_neg {α : Type} {cs : List α} : L2.atI cs (-1) = cs.getLast? := by
  unfold L2.atI L2.ixN
  rw [if_neg (by omega)]
  cases cs with
  | nil => rfl
  | cons c r =>
    have hl : (c :: r).length = r.length + 1 := rfl
    rw [if_pos (by omega), show (-1 + ((c :: r).length : Int)).toNat = (c :: r).length - 1 by omega, List.getLast?_eq_getElem?]
    rfl
end GA

namespace LW
open PySem PySem.Spec PyProof.Rows L2 GV TL GA
/-! generated by gen.py -/
def top (i : Nat) : Stmt := PySem.Challenge.pw_grantedbyturns_k01_lots_and_masks.main.body.getD i (.Pass ⟨0, 0, 0, 0⟩)
abbrev st_is_name : Stmt := top 29
abbrev st_lots_of_size : Stmt := top 35
abbrev st_mask_end : Stmt := top 38
abbrev st_pick_lot : Stmt := top 39
abbrev st__law_mix : Stmt := top 44
abbrev st__law_unlike : Stmt := top 51
abbrev st__law_lotof : Stmt := top 53
abbrev st__law_lots : Stmt := top 54
abbrev st__law_toldof : Stmt := top 58
abbrev st__law_equal : Stmt := top 59
abbrev st__law_doubled : Stmt := top 62
abbrev st__law_store : Stmt := top 45
abbrev st__law_take : Stmt := top 46
abbrev st_check_name : Stmt := top 30
abbrev st_check_known_lot : Stmt := top 32
abbrev st__law_pick : Stmt := top 47
abbrev st__law_number : Stmt := top 48
abbrev st_check_free_lot : Stmt := top 31
abbrev st_lot_of : Stmt := top 34
abbrev st__law_name : Stmt := top 49
abbrev st__law_nonname : Stmt := top 50
abbrev st__law_word : Stmt := top 55
abbrev st__law_badnumber : Stmt := top 57
abbrev st_check_lines : Stmt := top 33
abbrev st__law_lines : Stmt := top 52
abbrev st__law_badlines : Stmt := top 56
abbrev st__law_lotspoilt : Stmt := top 67
abbrev st_lots_of : Stmt := top 36
abbrev st_pairs_of : Stmt := top 37
abbrev st_sub_lots : Stmt := top 40
abbrev st_mask_of : Stmt := top 41
abbrev st_lot_of_mask : Stmt := top 42
abbrev st__law_ask : Stmt := top 60
abbrev st__law_masksgood : Stmt := top 64
abbrev st__law_refused : Stmt := top 61
abbrev st__law_lotsgood : Stmt := top 63
abbrev st__law_limits : Stmt := top 65
abbrev st__law_badthere : Stmt := top 66
abbrev st__law_badbehind : Stmt := top 68
abbrev st_law : Stmt := top 69
theorem sc_is_name : FnScope ["name", "sign"] ["name"] (defScope st_is_name) := ⟨rfl, rfl, rfl, by decide +kernel, rfl, by decide +kernel, by decide +kernel⟩
theorem sc_lots_of_size : FnScope ["lines", "size", "found", "spare", "lot", "start", "at"] ["lines", "size"] (defScope st_lots_of_size) := ⟨rfl, rfl, rfl, by decide +kernel, rfl, by decide +kernel, by decide +kernel⟩
theorem sc_mask_end : FnScope ["lines", "end", "spare"] ["lines"] (defScope st_mask_end) := ⟨rfl, rfl, rfl, by decide +kernel, rfl, by decide +kernel, by decide +kernel⟩
theorem sc_pick_lot : FnScope ["lines", "number", "picked", "rest", "name"] ["lines", "number"] (defScope st_pick_lot) := ⟨rfl, rfl, rfl, by decide +kernel, rfl, by decide +kernel, by decide +kernel⟩
theorem sc__law_mix : FnScope ["number", "large", "value"] ["number"] (defScope st__law_mix) := ⟨rfl, rfl, rfl, by decide +kernel, rfl, by decide +kernel, by decide +kernel⟩
theorem sc__law_unlike : FnScope ["name", "found", "k"] ["name", "found"] (defScope st__law_unlike) := ⟨rfl, rfl, rfl, by decide +kernel, rfl, by decide +kernel, by decide +kernel⟩
theorem sc__law_lotof : FnScope ["lines", "number", "found", "line"] ["lines", "number"] (defScope st__law_lotof) := ⟨rfl, rfl, rfl, by decide +kernel, rfl, by decide +kernel, by decide +kernel⟩
theorem sc__law_lots : FnScope ["lines", "many", "found", "k", "longer", "lot", "line"] ["lines", "many"] (defScope st__law_lots) := ⟨rfl, rfl, rfl, by decide +kernel, rfl, by decide +kernel, by decide +kernel⟩
theorem sc__law_toldof : FnScope ["e", "found"] ["e"] (defScope st__law_toldof) := ⟨rfl, rfl, rfl, by decide +kernel, rfl, by decide +kernel, by decide +kernel⟩
theorem sc__law_equal : FnScope ["got", "due", "stack", "k", "pair", "i"] ["got", "due"] (defScope st__law_equal) := ⟨rfl, rfl, rfl, by decide +kernel, rfl, by decide +kernel, by decide +kernel⟩
theorem sc__law_doubled : FnScope ["lines", "found", "line", "lot"] ["lines"] (defScope st__law_doubled) := ⟨rfl, rfl, rfl, by decide +kernel, rfl, by decide +kernel, by decide +kernel⟩
theorem sc__law_store : FnScope ["script", "wide", "store", "cell", "amount", "sign"] ["script"] (defScope st__law_store) := ⟨rfl, rfl, rfl, by decide +kernel, rfl, by decide +kernel, by decide +kernel⟩
theorem sc__law_take : FnScope ["store", "many", "found"] ["store", "many"] (defScope st__law_take) := ⟨rfl, rfl, rfl, by decide +kernel, rfl, by decide +kernel, by decide +kernel⟩
theorem sc_check_name : FnScope ["name"] ["name"] (defScope st_check_name) := ⟨rfl, rfl, rfl, by decide +kernel, rfl, by decide +kernel, by decide +kernel⟩
theorem sc_check_known_lot : FnScope ["lines", "lot", "index"] ["lines", "lot"] (defScope st_check_known_lot) := ⟨rfl, rfl, rfl, by decide +kernel, rfl, by decide +kernel, by decide +kernel⟩
theorem sc__law_pick : FnScope ["store", "items"] ["store", "items"] (defScope st__law_pick) := ⟨rfl, rfl, rfl, by decide +kernel, rfl, by decide +kernel, by decide +kernel⟩
theorem sc__law_number : FnScope ["store", "least", "most", "span", "way", "value", "k"] ["store", "least", "most"] (defScope st__law_number) := ⟨rfl, rfl, rfl, by decide +kernel, rfl, by decide +kernel, by decide +kernel⟩
theorem sc_check_free_lot : FnScope ["lot", "index"] ["lot"] (defScope st_check_free_lot) := ⟨rfl, rfl, rfl, by decide +kernel, rfl, by decide +kernel, by decide +kernel⟩
theorem sc_lot_of : FnScope ["names", "found", "name"] ["names"] (defScope st_lot_of) := ⟨rfl, rfl, rfl, by decide +kernel, rfl, by decide +kernel, by decide +kernel⟩
theorem sc__law_name : FnScope ["store", "letters", "way", "size", "name", "k", "sign"] ["store"] (defScope st__law_name) := ⟨rfl, rfl, rfl, by decide +kernel, rfl, by decide +kernel, by decide +kernel⟩
theorem sc__law_nonname : FnScope ["store", "letters", "base", "way", "figure"] ["store"] (defScope st__law_nonname) := ⟨rfl, rfl, rfl, by decide +kernel, rfl, by decide +kernel, by decide +kernel⟩
theorem sc__law_word : FnScope ["store", "lines", "most", "way", "line", "found", "k"] ["store", "lines", "most"] (defScope st__law_word) := ⟨rfl, rfl, rfl, by decide +kernel, rfl, by decide +kernel, by decide +kernel⟩
theorem sc__law_badnumber : FnScope ["store", "least", "most", "bad"] ["store", "least", "most"] (defScope st__law_badnumber) := ⟨rfl, rfl, rfl, by decide +kernel, rfl, by decide +kernel, by decide +kernel⟩
theorem sc_check_lines : FnScope ["lines", "most"] ["lines", "most"] (defScope st_check_lines) := ⟨rfl, rfl, rfl, by decide +kernel, rfl, by decide +kernel, by decide +kernel⟩
theorem sc__law_lines : FnScope ["store", "many", "letters", "way", "at", "found", "k"] ["store", "many"] (defScope st__law_lines) := ⟨rfl, rfl, rfl, by decide +kernel, rfl, by decide +kernel, by decide +kernel⟩
theorem sc__law_badlines : FnScope ["store", "lines", "most", "way", "at", "bad", "k"] ["store", "lines", "most"] (defScope st__law_badlines) := ⟨rfl, rfl, rfl, by decide +kernel, rfl, by decide +kernel, by decide +kernel⟩
theorem sc__law_lotspoilt : FnScope ["store", "lines", "top", "lot", "at", "way", "strange"] ["store", "lines", "top"] (defScope st__law_lotspoilt) := ⟨rfl, rfl, rfl, by decide +kernel, rfl, by decide +kernel, by decide +kernel⟩
theorem sc_lots_of : FnScope ["lines", "size"] ["lines", "size"] (defScope st_lots_of) := ⟨rfl, rfl, rfl, by decide +kernel, rfl, by decide +kernel, by decide +kernel⟩
theorem sc_pairs_of : FnScope ["lines"] ["lines"] (defScope st_pairs_of) := ⟨rfl, rfl, rfl, by decide +kernel, rfl, by decide +kernel, by decide +kernel⟩
theorem sc_sub_lots : FnScope ["lines", "number"] ["lines"] (defScope st_sub_lots) := ⟨rfl, rfl, rfl, by decide +kernel, rfl, by decide +kernel, by decide +kernel⟩
theorem sc_mask_of : FnScope ["lines", "lot", "mask", "weight", "name"] ["lines", "lot"] (defScope st_mask_of) := ⟨rfl, rfl, rfl, by decide +kernel, rfl, by decide +kernel, by decide +kernel⟩
theorem sc_lot_of_mask : FnScope ["lines", "number"] ["lines", "number"] (defScope st_lot_of_mask) := ⟨rfl, rfl, rfl, by decide +kernel, rfl, by decide +kernel, by decide +kernel⟩
theorem sc__law_ask : FnScope ["word", "lines", "thing"] ["word", "lines", "thing"] (defScope st__law_ask) := ⟨rfl, rfl, rfl, by decide +kernel, rfl, by decide +kernel, by decide +kernel⟩
theorem sc__law_masksgood : FnScope ["store", "lines", "top", "numbers", "k", "number", "lot"] ["store", "lines", "top"] (defScope st__law_masksgood) := ⟨rfl, rfl, rfl, by decide +kernel, rfl, by decide +kernel, by decide +kernel⟩
theorem sc__law_refused : FnScope ["word", "lines", "thing", "due", "e"] ["word", "lines", "thing", "due"] (defScope st__law_refused) := ⟨rfl, rfl, rfl, by decide +kernel, rfl, by decide +kernel, by decide +kernel⟩
theorem sc__law_lotsgood : FnScope ["lines", "size", "due", "every", "got", "lot"] ["lines", "size"] (defScope st__law_lotsgood) := ⟨rfl, rfl, rfl, by decide +kernel, rfl, by decide +kernel, by decide +kernel⟩
theorem sc__law_limits : FnScope ["store", "lines", "limit", "names", "due", "bad", "at", "spoilt", "line"] ["store", "lines"] (defScope st__law_limits) := ⟨rfl, rfl, rfl, by decide +kernel, rfl, by decide +kernel, by decide +kernel⟩
theorem sc__law_badthere : FnScope ["store", "lines", "things", "word", "thing", "limit", "bad", "wide"] ["store", "lines"] (defScope st__law_badthere) := ⟨rfl, rfl, rfl, by decide +kernel, rfl, by decide +kernel, by decide +kernel⟩
theorem sc__law_badbehind : FnScope ["store", "lines", "top", "bad", "k"] ["store", "lines", "top"] (defScope st__law_badbehind) := ⟨rfl, rfl, rfl, by decide +kernel, rfl, by decide +kernel, by decide +kernel⟩
theorem sc_law : FnScope ["script", "store", "many", "lines", "size", "top", "line", "other"] ["script"] (defScope st_law) := ⟨rfl, rfl, rfl, by decide +kernel, rfl, by decide +kernel, by decide +kernel⟩
/-- the classes that are raised; the classes that are asked of -/
def excs : List Str := ["BadName", "BadLot", "NoSuchLine", "TooMany", "BadNumber"]
def kits : List Str := ["GrantError", "BadName", "TooMany", "BadLot", "NoSuchLine", "BadNumber", "BadKind", "BadLog", "BadMachine", "BadMatrix", "BadMove", "BadTable", "BadText", "BadTree", "BadWish", "Barred", "LastLine", "Mismatch", "NoCover", "NoEdit", "NoGrant", "NoSubtree", "NoTree", "Twice"]
/-- what the walk asks of the text -/
structure Tx (K : Fg) (mg : Str → Option Value) (P : Program) (w : World) (base : Heap) : Prop where
  f_ValueError : mg "ValueError" = none
  f_abs : mg "abs" = none
  f_bool : mg "bool" = none
  f_int : mg "int" = none
  f_isinstance : mg "isinstance" = none
  f_len : mg "len" = none
  f_list : mg "list" = none
  f_max : mg "max" = none
  f_min : mg "min" = none
  f_range : mg "range" = none
  f_sorted : mg "sorted" = none
  f_str : mg "str" = none
  f_tuple : mg "tuple" = none
  c_KEPT_WORDS : GlobT K mg "KEPT_WORDS" [.str "first", .str "back", .str "round", .str "let", .str "tree"] [.str (tl "first"), .str (tl "back"), .str (tl "round"), .str (tl "let"), .str (tl "tree")]
  c_LETTERS : ∃ t, mg "LETTERS" = some (.str "abcdefghijklmnopqrstuvwxyz" t)
  c_NAME_SIGNS : ∃ t, mg "NAME_SIGNS" = some (.str "abcdefghijklmnopqrstuvwxyz0123456789." t)
  n_GrantError : mg "GrantError" = some (.ref (He.ga K "GrantError"))
  n_BadName : mg "BadName" = some (.ref (He.ga K "BadName"))
  n_TooMany : mg "TooMany" = some (.ref (He.ga K "TooMany"))
  n_BadLot : mg "BadLot" = some (.ref (He.ga K "BadLot"))
  n_NoSuchLine : mg "NoSuchLine" = some (.ref (He.ga K "NoSuchLine"))
  n_BadNumber : mg "BadNumber" = some (.ref (He.ga K "BadNumber"))
  n_BadKind : mg "BadKind" = some (.ref (He.ga K "BadKind"))
  n_BadLog : mg "BadLog" = some (.ref (He.ga K "BadLog"))
  n_BadMachine : mg "BadMachine" = some (.ref (He.ga K "BadMachine"))
  n_BadMatrix : mg "BadMatrix" = some (.ref (He.ga K "BadMatrix"))
  n_BadMove : mg "BadMove" = some (.ref (He.ga K "BadMove"))
  n_BadTable : mg "BadTable" = some (.ref (He.ga K "BadTable"))
  n_BadText : mg "BadText" = some (.ref (He.ga K "BadText"))
  n_BadTree : mg "BadTree" = some (.ref (He.ga K "BadTree"))
  n_BadWish : mg "BadWish" = some (.ref (He.ga K "BadWish"))
  n_Barred : mg "Barred" = some (.ref (He.ga K "Barred"))
  n_LastLine : mg "LastLine" = some (.ref (He.ga K "LastLine"))
  n_Mismatch : mg "Mismatch" = some (.ref (He.ga K "Mismatch"))
  n_NoCover : mg "NoCover" = some (.ref (He.ga K "NoCover"))
  n_NoEdit : mg "NoEdit" = some (.ref (He.ga K "NoEdit"))
  n_NoGrant : mg "NoGrant" = some (.ref (He.ga K "NoGrant"))
  n_NoSubtree : mg "NoSubtree" = some (.ref (He.ga K "NoSubtree"))
  n_NoTree : mg "NoTree" = some (.ref (He.ga K "NoTree"))
  n_Twice : mg "Twice" = some (.ref (He.ga K "Twice"))
  x_BadName : ExcT0 P w K mg base "BadName" ["name"]
  x_BadLot : ExcT0 P w K mg base "BadLot" ["at"]
  x_NoSuchLine : ExcT0 P w K mg base "NoSuchLine" ["name"]
  x_TooMany : ExcT0 P w K mg base "TooMany" ["what", "limit"]
  x_BadNumber : ExcT0 P w K mg base "BadNumber" ["number"]
  exm : ∀ m ∈ excs, PySem.W.exmOne K (.ref (He.ga K m)) (.ref (He.ga K "GrantError")) = some true
  ec : ∀ c ∈ excs, EC K (He.ga K c)
  na_at : ∀ c ∈ excs, PySem.W.findIn K (.ref (He.ga K c)) "at" = some none
  na_limit : ∀ c ∈ excs, PySem.W.findIn K (.ref (He.ga K c)) "limit" = some none
  na_name : ∀ c ∈ excs, PySem.W.findIn K (.ref (He.ga K c)) "name" = some none
  na_number : ∀ c ∈ excs, PySem.W.findIn K (.ref (He.ga K c)) "number" = some none
  na_what : ∀ c ∈ excs, PySem.W.findIn K (.ref (He.ga K c)) "what" = some none
  kit : ∀ c ∈ excs, ∀ n ∈ kits, PySem.W.kitOne K (.ref (He.ga K c)) (.ref (He.ga K n)) = some (decide (c = n) || decide (n = "GrantError"))
  kitV : ∀ c ∈ excs, PySem.W.kitOne K (.ref (He.ga K c)) (.type "ValueError") = some true
def isS (p : List Nat → Bool) : D → Bool
  | .str cs => p cs
  | _ => false
theorem isS_of {p : List Nat → Bool} {L : List D} (h : L.all (isS p) = true) {y : D} (m : y ∈ L) : ∃ cs, y = .str cs ∧ p cs = true := by
  have := List.all_eq_true.mp h y m
  cases y with
  | str cs => exact ⟨cs, rfl, this⟩
  | _ => cases this
def asc (cs : List Nat) : Bool := cs.all (· < 128)
theorem asc_app {a b : List Nat} (h : asc a = true) (g : asc b = true) : asc (a ++ b) = true := by unfold asc at *; rw [List.all_append, h, g]; rfl
theorem asc_one {c : Nat} {cs : List Nat} (h : asc cs = true) (m : c ∈ cs) : asc [c] = true := by
  have := List.all_eq_true.mp h c m
  unfold asc; rw [List.all_cons, this]; rfl
theorem asc_sub {a b : List Nat} (h : asc a = true) (g : ∀ c ∈ b, c ∈ a) : asc b = true := List.all_eq_true.mpr fun c m => List.all_eq_true.mp h c (g c m)
theorem decN_ok : ∀ k : Nat, k < 120 → (decN k).length ≤ 3 ∧ asc (decN k) = true := by decide +kernel
theorem decN_int {i : Int} (h : 0 ≤ i) (g : i < 120) : (decN i).length ≤ 3 ∧ asc (decN i) = true := by
  obtain ⟨k, rfl⟩ := Int.eq_ofNat_of_zero_le h
  exact decN_ok k (by omega)
theorem atI_last {α : Type} {cs : List α} (h : cs ≠ []) : ∃ c, L2.atI cs (-1) = some c ∧ c ∈ cs := by
  have hl : 0 < cs.length := List.length_pos_iff.mpr h
  refine ⟨cs[cs.length - 1]'(by omega), ?_, List.getElem_mem _⟩
  unfold L2.atI L2.ixN
  rw [if_neg (by omega), if_pos (by omega)]
  have : (-1 + (cs.length : Int)).toNat = cs.length - 1 := by omega
  rw [this]
  exact List.getElem?_eq_getElem _
theorem atI_nat {α : Type} {cs : List α} {k : Int} (h0 : 0 ≤ k) (h : k.toNat < cs.length) : ∃ c, L2.atI cs k = some c ∧ c ∈ cs := by
  refine ⟨cs[k.toNat]'h, ?_, List.getElem_mem _⟩
  unfold L2.atI L2.ixN
  rw [if_pos h0, if_pos (by omega)]
  exact List.getElem?_eq_getElem _
theorem str_of {y : D} {cs : List Nat} (h : y ∈ cs.map fun c => D.str [c]) : ∃ c, c ∈ cs ∧ y = .str [c] := by
  obtain ⟨c, m, e⟩ := List.mem_map.mp h
  exact ⟨c, m, e.symm⟩
theorem map_ne {cs : List Nat} (h : cs ≠ []) : (cs.map fun c => D.str [c]) ≠ [] := by simpa using h
theorem map_big {cs : List Nat} (h : cs.length ≤ big) : (cs.map fun c => D.str [c]).length ≤ big := by rwa [List.length_map]
theorem big_eq : big = 16777216 := rfl
theorem atI_zero {α : Type} {c : α} {r : List α} : L2.atI (c :: r) 0 = some c := by
  unfold L2.atI L2.ixN
  rw [if_pos (by omega), if_pos (by rw [List.length_cons]; omega)]
  rfl
theorem decT {p : Prop} [Decidable p] (h : decide p = true) : p := of_decide_eq_true h
theorem cutD_le {α : Type} {xs : List α} {lo hi : Option Int} : (GA.cutD xs lo hi).length ≤ xs.length := by
  unfold GA.cutD
  rw [List.length_take, List.length_drop]
  omega
theorem cutD_mem {α : Type} {xs : List α} {lo hi : Option Int} {c : α} (h : c ∈ GA.cutD xs lo hi) : c ∈ xs := List.mem_of_mem_drop (List.mem_of_mem_take h)
theorem asc_cut {cs : List Nat} {lo hi : Option Int} (h : asc cs = true) : asc (GA.cutD cs lo hi) = true := asc_sub h fun _ m => cutD_mem m
/-! the plain law of names -/
def lettersD : List Nat := tl "abcdefghijklmnopqrstuvwxyz"
def signsD : List Nat := tl "abcdefghijklmnopqrstuvwxyz0123456789."
def alnumD : List Nat := tl "abcdefghijklmnopqrstuvwxyz0123456789"
def keptD : List D := [.str (tl "first"), .str (tl "back"), .str (tl "round"), .str (tl "let"), .str (tl "tree")]
def hdL : List Nat → Bool
  | [] => false
  | c :: _ => decide (c ∈ lettersD)
def lstN (cs : List Nat) : Bool := match cs.getLast? with
  | some c => c != 46
  | none => false
def isNm (cs : List Nat) : Bool := decide (1 ≤ cs.length) && decide (cs.length ≤ 12) && !inD (.str cs) keptD && hdL cs && lstN cs && cs.all (fun c => decide (c ∈ signsD)) && !inL (tl "..") cs
def hasDD : List Nat → Bool
  | a :: b :: r => (a == 46 && b == 46) || hasDD (b :: r)
  | _ => false
theorem inL_dd : ∀ cs : List Nat, inL [46, 46] cs = hasDD cs := by
  have key : ∀ cs : List Nat, ((List.range (cs.length + 1)).any fun i => pre [46, 46] (cs.drop i)) = hasDD cs := by
    intro cs
    induction cs with
    | nil => rfl
    | cons a r ih =>
      rw [List.length_cons, List.range_succ_eq_map, List.any_cons, List.any_map]
      have : ((fun i => pre [46, 46] ((a :: r).drop i)) ∘ Nat.succ) = fun i => pre [46, 46] (r.drop i) := rfl
      rw [this, ih]
      cases r with
      | nil => simp [hasDD, pre]
      | cons b r => simp [hasDD, pre]
  intro cs
  exact key cs
def okP (p : List Nat) : Bool := !(p == []) && p.all (fun c => decide (c ∈ alnumD))
def spG : Bool → List Nat → Bool
  | e, [] => e
  | e, c :: r => if c = 46 then e && spG false r else decide (c ∈ alnumD) && spG true r
theorem spl_dot (x : List Nat) (c : Nat) (r : List Nat) : TL.spl [46] 0 x (c :: r) = if c = 46 then x :: TL.spl [46] 0 [] r else TL.spl [46] 0 (x ++ [c]) r := by
  rw [TL.spl.eq_2]
  have : (TL.pre [46] (c :: r) = true) = (c = 46) := by simp [TL.pre]
  simp only [this]
  rfl
theorem spl_ok : ∀ (cs x : List Nat), (TL.spl [46] 0 x cs).all okP = (x.all (fun c => decide (c ∈ alnumD)) && spG (!(x == [])) cs)
  | [], x => by
    rw [TL.spl.eq_1, List.all_cons, List.all_nil, Bool.and_true]
    unfold okP
    rw [Bool.and_comm]
    rfl
  | c :: r, x => by
    rw [spl_dot]
    by_cases h : c = 46
    · rw [if_pos h, List.all_cons, spl_ok r []]
      simp only [spG, if_pos h]
      unfold okP
      cases x.all (fun c => decide (c ∈ alnumD)) <;> cases (!(x == [])) <;> simp
    · rw [if_neg h, spl_ok r (x ++ [c])]
      simp only [spG, if_neg h]
      rw [List.all_append, List.all_cons, List.all_nil]
      have : (!((x ++ [c]) == [])) = true := by simp
      rw [this]
      cases x.all (fun c => decide (c ∈ alnumD)) <;> cases decide (c ∈ alnumD) <;> simp
theorem mem_signs {c : Nat} : decide (c ∈ signsD) = (decide (c ∈ alnumD) || c == 46) := by
  have h : signsD = alnumD ++ [46] := by decide
  rw [h, Bool.eq_iff_iff]
  simp
theorem dot_alnum : decide (46 ∈ alnumD) = false := by decide
theorem spG_eq : ∀ (cs : List Nat) (e : Bool), cs ≠ [] → spG e cs = (cs.all (fun c => decide (c ∈ signsD)) && !hasDD cs && lstN cs && (e || !(cs.head? == some 46)))
  | [], _, h => (h rfl).elim
  | [c], e, _ => by
    simp only [spG, List.all_cons, List.all_nil, mem_signs, hasDD, lstN, List.getLast?_singleton]
    by_cases h : c = 46
    · subst h; rw [dot_alnum]; cases e <;> rfl
    · rw [if_neg h]
      have : (c == 46) = false := by simpa using h
      simp [this, h, bne]
  | c :: d :: r, e, _ => by
    have ih := fun e => spG_eq (d :: r) e (by simp)
    have hl : lstN (c :: d :: r) = lstN (d :: r) := by unfold lstN; rw [List.getLast?_cons_cons]
    rw [spG, hl, List.all_cons, mem_signs, hasDD]
    by_cases h : c = 46
    · rw [if_pos h, ih]
      subst h
      rw [dot_alnum]
      by_cases hd : d = 46
      · subst hd; cases e <;> simp
      · have : (d == 46) = false := by simpa using hd
        simp [this, hd]
        cases e <;> simp
    · rw [if_neg h, ih]
      have : (c == 46) = false := by simpa using h
      simp [this, h]
      cases decide (c ∈ alnumD) <;> simp
theorem hdL_dot {cs : List Nat} (h : hdL cs = true) : cs ≠ [] ∧ (cs.head? == some 46) = false := by
  cases cs with
  | nil => cases h
  | cons c r =>
    refine ⟨by simp, ?_⟩
    have h : c ∈ lettersD := of_decide_eq_true h
    have h2 : c ≠ 46 := by
      intro z; subst z
      exact absurd h (by decide)
    simpa using h2
/-- the second way of saying it -/
theorem isNm_eq (cs : List Nat) (hl : cs.length ≤ 12) (hk : inD (.str cs) keptD = false) : isNm cs = ((splitD (tl ".") cs).all okP && hdL cs) := by
  have hs : (splitD (tl ".") cs).all okP = spG false cs := by
    have := spl_ok cs []
    show (TL.spl [46] 0 [] cs).all okP = _
    simpa using this
  rw [hs]
  unfold isNm
  rw [hk]
  have hd : inL (tl "..") cs = hasDD cs := inL_dd cs
  rw [hd]
  cases h : hdL cs with
  | false => simp
  | true =>
    obtain ⟨hn, h46⟩ := hdL_dot h
    rw [spG_eq cs false hn, h46]
    have : 1 ≤ cs.length := List.length_pos_iff.mpr hn
    simp only [this, hl, decide_true, Bool.true_and, Bool.and_true, Bool.not_false, Bool.false_or]
    cases lstN cs <;> cases hasDD cs <;> cases cs.all (fun c => decide (c ∈ signsD)) <;> rfl
theorem isNm_kept (cs : List Nat) (hk : inD (.str cs) keptD = true) : isNm cs = false := by unfold isNm; rw [hk]; simp
theorem isNm_long (cs : List Nat) (hl : 12 < cs.length) : isNm cs = false := by
  unfold isNm
  have : decide (cs.length ≤ 12) = false := by simp; omega
  rw [this]; simp
/-! the same data, twice -/
mutual
inductive Sm (A : Ah) : Nat → D → D → Prop
  | non : Sm A 1 .non .non
  | bl (b : Bool) : Sm A 1 (.bl b) (.bl b)
  | int (i : Int) : Sm A 1 (.int i) (.int i)
  | str (cs : List Nat) : Sm A 1 (.str cs) (.str cs)
  | tup {n : Nat} {ds es : List D} : Sms A n ds es → Sm A (n + 1) (.tup ds) (.tup es)
  | lst {n : Nat} {a b : Addr} {ds es : List D} : A a = some (.lst ds) → A b = some (.lst es) → Sms A n ds es → Sm A (n + 1) (.ref a) (.ref b)
inductive Sms (A : Ah) : Nat → List D → List D → Prop
  | nil : Sms A 0 [] []
  | cons {n m : Nat} {d e : D} {ds es : List D} : Sm A n d e → Sms A m ds es → Sms A (n + m) (d :: ds) (e :: es)
end
theorem Sm.pos {A : Ah} {n : Nat} {d e : D} (h : Sm A n d e) : 1 ≤ n := by cases h <;> omega
theorem Sms.len {A : Ah} : ∀ {ds es : List D} {n : Nat}, Sms A n ds es → ds.length = es.length ∧ ds.length ≤ n
  | [], _, _, .nil => ⟨rfl, Nat.le_refl _⟩
  | _ :: _, _, _, .cons h t => by
    obtain ⟨h1, h2⟩ := t.len
    have := h.pos
    rw [List.length_cons, List.length_cons, h1]
    exact ⟨rfl, by omega⟩
theorem Sms.at {A : Ah} : ∀ {ds es : List D} {n i : Nat} (_ : Sms A n ds es), i < ds.length → ∃ (n1 : Nat) (d e : D), ds[i]? = some d ∧ es[i]? = some e ∧ Sm A n1 d e ∧ n1 ≤ n
  | [], _, _, _, .nil, h => nomatch h
  | d :: ds, e :: es, _, 0, .cons h t, _ => ⟨_, d, e, rfl, rfl, h, Nat.le_add_right ..⟩
  | d :: ds, e :: es, _, i + 1, .cons h t, hi => by
    obtain ⟨n1, d', e', h1, h2, h3, h4⟩ := t.at (i := i) (by simpa using hi)
    exact ⟨n1, d', e', h1, h2, h3, by omega⟩
/-- the weight of what begins at i -/
inductive SmsAt (A : Ah) (ds es : List D) : Nat → Nat → Prop
  | mk {i m : Nat} : Sms A m (ds.drop i) (es.drop i) → SmsAt A ds es i m
theorem SmsAt.step {A : Ah} {ds es : List D} {i m : Nat} (h : SmsAt A ds es i m) (hi : i < ds.length) : ∃ (n1 m1 : Nat) (d e : D), ds[i]? = some d ∧ es[i]? = some e ∧ Sm A n1 d e ∧ m = n1 + m1 ∧ SmsAt A ds es (i + 1) m1 := by
  obtain ⟨h⟩ := h
  cases h1 : ds.drop i with
  | nil =>
    have := List.drop_eq_nil_iff.mp h1
    omega
  | cons d r =>
    rw [h1] at h
    cases h2 : es.drop i with
    | nil => rw [h2] at h; cases h
    | cons e r' =>
      rw [h2] at h
      cases h with
      | @cons n1 m1 _ _ _ _ a b =>
        have g1 : ds[i]? = some d := by rw [← List.head?_drop, h1]; rfl
        have g2 : es[i]? = some e := by rw [← List.head?_drop, h2]; rfl
        have g3 : ds.drop (i + 1) = r := by rw [← List.tail_drop, h1]; rfl
        have g4 : es.drop (i + 1) = r' := by rw [← List.tail_drop, h2]; rfl
        exact ⟨n1, m1, d, e, g1, g2, a, rfl, ⟨by rw [g3, g4]; exact b⟩⟩
/-- pairs that wait -/
inductive Stk (A : Ah) : Nat → List D → Prop
  | nil : Stk A 0 []
  | snoc {m n : Nat} {S : List D} {d e : D} : Stk A m S → Sm A n d e → Stk A (m + n) (S ++ [.tup [d, e]])
theorem Stk.len {A : Ah} {T : Nat} {S : List D} (h : Stk A T S) : S.length ≤ T := by
  induction h with
  | nil => exact Nat.le_refl _
  | snoc _ h ih => have := h.pos; rw [List.length_append, List.length_singleton]; omega
theorem atI_of {α : Type} {xs : List α} {i : Nat} {y : α} (h : xs[i]? = some y) : L2.atI xs (i : Int) = some y := by
  have hi : i < xs.length := (List.getElem?_eq_some_iff.mp h).1
  unfold L2.atI L2.ixN
  rw [if_pos (by omega), if_pos (by omega)]
  exact h
theorem decF {p : Prop} [Decidable p] (h : decide p = false) : ¬p := of_decide_eq_false h
/-! plain data with no reference in it, its weight -/
mutual
inductive Pl : Nat → D → Prop
  | non : Pl 1 .non
  | bl (b : Bool) : Pl 1 (.bl b)
  | int (i : Int) : Pl 1 (.int i)
  | str (cs : List Nat) : Pl 1 (.str cs)
  | tup {n : Nat} {ds : List D} : Pls n ds → Pl (n + 1) (.tup ds)
inductive Pls : Nat → List D → Prop
  | nil : Pls 0 []
  | cons {n m : Nat} {d : D} {ds : List D} : Pl n d → Pls m ds → Pls (n + m) (d :: ds)
end
theorem Pl.pos {n : Nat} {d : D} (h : Pl n d) : 1 ≤ n := by cases h <;> omega
theorem Pls.len : ∀ {ds : List D} {n : Nat}, Pls n ds → ds.length ≤ n
  | [], _, .nil => Nat.le_refl _
  | _ :: _, _, .cons h t => by
    have := t.len
    have := h.pos
    rw [List.length_cons]
    omega
inductive PlsAt (ds : List D) : Nat → Nat → Prop
  | mk {i m : Nat} : Pls m (ds.drop i) → PlsAt ds i m
theorem PlsAt.step {ds : List D} {i m : Nat} (h : PlsAt ds i m) (hi : i < ds.length) : ∃ (n1 m1 : Nat) (d : D), ds[i]? = some d ∧ Pl n1 d ∧ m = n1 + m1 ∧ PlsAt ds (i + 1) m1 := by
  obtain ⟨h⟩ := h
  cases h1 : ds.drop i with
  | nil =>
    have := List.drop_eq_nil_iff.mp h1
    omega
  | cons d r =>
    rw [h1] at h
    cases h with
    | @cons n1 m1 _ _ a b =>
      have g1 : ds[i]? = some d := by rw [← List.head?_drop, h1]; rfl
      have g3 : ds.drop (i + 1) = r := by rw [← List.tail_drop, h1]; rfl
      exact ⟨n1, m1, d, g1, a, rfl, ⟨by rw [g3]; exact b⟩⟩
inductive PSt : Nat → List D → Prop
  | nil : PSt 0 []
  | snoc {m n : Nat} {S : List D} {d : D} : PSt m S → Pl n d → PSt (m + n) (S ++ [.tup [d, d]])
theorem PSt.len {T : Nat} {S : List D} (h : PSt T S) : S.length ≤ T := by
  induction h with
  | nil => exact Nat.le_refl _
  | snoc _ h ih => have := h.pos; rw [List.length_append, List.length_singleton]; omega
theorem Pls.app {n m : Nat} {ds es : List D} (h : Pls n ds) (g : Pls m es) : Pls (n + m) (ds ++ es) := by
  induction ds generalizing n with
  | nil => cases h; rw [Nat.zero_add]; exact g
  | cons d r ih => cases h with
    | cons a b => rw [Nat.add_assoc]; exact .cons a (ih b)
/-! the first fault of a lot: a name that is none, or a place out of order -/
def lotG : Option (List Nat) → Nat → List (List Nat) → Option (Sum (List Nat) Nat)
  | _, _, [] => none
  | p, i, c :: r => if isNm c = false then some (.inl c) else if (match p with | some p => !lexL p c | none => false) = true then some (.inr i) else lotG (some c) (i + 1) r
def lotF (L : List (List Nat)) : Option (Sum (List Nat) Nat) := if L = [] then some (.inr 0) else lotG none 0 L
/-! names that are names, texts that are none -/
theorem nm_hd {cs : List Nat} (h : hdL cs = false) : isNm cs = false := by unfold isNm; rw [h]; simp
theorem nm_lst {cs : List Nat} (h : lstN cs = false) : isNm cs = false := by unfold isNm; rw [h]; simp
theorem nm_dd {cs : List Nat} (h : hasDD cs = true) : isNm cs = false := by
  have hd : inL (tl "..") cs = hasDD cs := inL_dd cs
  unfold isNm; rw [hd, h]; simp
theorem nm_sign {cs : List Nat} {e : Nat} (m : e ∈ cs) (h : e ∉ signsD) : isNm cs = false := by
  have : cs.all (fun c => decide (c ∈ signsD)) = false := by
    rw [Bool.eq_false_iff]
    intro z
    exact h (of_decide_eq_true (List.all_eq_true.mp z e m))
  unfold isNm; rw [this]; simp
theorem nm_mk {cs : List Nat} (h1 : 1 ≤ cs.length) (h2 : cs.length ≤ 12) (hk : inD (.str cs) keptD = false) (hh : hdL cs = true) (hl : lstN cs = true) (hs : ∀ c ∈ cs, c ∈ signsD) (hd : hasDD cs = false) : isNm cs = true := by
  have e : inL (tl "..") cs = hasDD cs := inL_dd cs
  have : cs.all (fun c => decide (c ∈ signsD)) = true := List.all_eq_true.mpr fun c m => decide_eq_true (hs c m)
  unfold isNm; rw [e, hd, this, hk, hh, hl]; simp [h1, h2]
theorem nm_len {cs : List Nat} (h : isNm cs = true) : 1 ≤ cs.length ∧ cs.length ≤ 12 := by
  unfold isNm at h
  simp only [Bool.and_eq_true, decide_eq_true_eq] at h
  exact ⟨h.1.1.1.1.1.1, h.1.1.1.1.1.2⟩
theorem nm_sg {cs : List Nat} (h : isNm cs = true) : ∀ c ∈ cs, c ∈ signsD := by
  unfold isNm at h
  simp only [Bool.and_eq_true, List.all_eq_true, decide_eq_true_eq] at h
  exact h.1.2
theorem signs_asc : ∀ c ∈ signsD, c < 128 := by decide
theorem nm_asc {cs : List Nat} (h : isNm cs = true) : asc cs = true := List.all_eq_true.mpr fun c m => decide_eq_true (signs_asc c (nm_sg h c m))
theorem dd_snoc : ∀ {cs : List Nat} {s : Nat}, cs ≠ [] → hasDD cs = false → (lstN cs = true ∨ s ≠ 46) → hasDD (cs ++ [s]) = false
  | [], _, h, _, _ => (h rfl).elim
  | [a], s, _, _, h => by
    show ((a == 46 && s == 46) || hasDD [s]) = false
    rcases h with h | h
    · have : (a == 46) = false := by
        unfold lstN at h
        simpa using h
      rw [this]; rfl
    · have : (s == 46) = false := by simpa using h
      rw [this, Bool.and_false]; rfl
  | a :: b :: r, s, _, hd, h => by
    have hd : ((a == 46 && b == 46) || hasDD (b :: r)) = false := hd
    obtain ⟨h1, h2⟩ := Bool.or_eq_false_iff.mp hd
    have hl : lstN (a :: b :: r) = lstN (b :: r) := by unfold lstN; rw [List.getLast?_cons_cons]
    rw [hl] at h
    show ((a == 46 && b == 46) || hasDD ((b :: r) ++ [s])) = false
    rw [h1, dd_snoc (by simp) h2 h]; rfl
theorem lst_snoc {cs : List Nat} {s : Nat} : lstN (cs ++ [s]) = (s != 46) := by unfold lstN; rw [List.getLast?_concat]
theorem hd_app {cs r : List Nat} (h : hdL cs = true) : hdL (cs ++ r) = true := by
  cases cs with
  | nil => cases h
  | cons c s => exact h
theorem lets_sg : ∀ c ∈ lettersD, c ∈ signsD := by decide
theorem lets_46 : ∀ c ∈ lettersD, (c != 46) = true := by decide
theorem nm_one : ∀ c ∈ lettersD, isNm [c] = true := by decide +kernel
theorem nm_num : ∀ c ∈ lettersD, ∀ k : Nat, k < 120 → isNm ([c] ++ decN k) = true := by decide +kernel
theorem nm_numI {c : Nat} (hc : c ∈ lettersD) {j : Int} (h : 0 ≤ j) (g : j < 120) : isNm ([c] ++ decN j) = true := by
  obtain ⟨k, rfl⟩ := Int.eq_ofNat_of_zero_le h
  exact nm_num c hc k (by omega)
theorem kept_of {cs : List Nat} (h : inD (.str cs) keptD = true) : isNm (cs ++ tl "0") = true := by
  have : tl "first" = cs ∨ tl "back" = cs ∨ tl "round" = cs ∨ tl "let" = cs ∨ tl "tree" = cs := by
    simpa [inD, keptD, D.eqv] using h
  rcases this with h | h | h | h | h <;> (subst h; decide +kernel)
theorem atI_lst {cs : List Nat} (h : cs ≠ []) : ∃ c, L2.atI cs (-1) = some c ∧ lstN cs = (c != 46) := by
  have hl : 0 < cs.length := List.length_pos_iff.mpr h
  refine ⟨cs[cs.length - 1]'(by omega), ?_, ?_⟩
  · unfold L2.atI L2.ixN
    rw [if_neg (by omega), if_pos (by omega)]
    have : (-1 + (cs.length : Int)).toNat = cs.length - 1 := by omega
    rw [this]
    exact List.getElem?_eq_getElem _
  · unfold lstN
    rw [List.getLast?_eq_getElem?, List.getElem?_eq_getElem (by omega)]
structure NmI (e : Prop) (cs : List Nat) : Prop where
  hd : hdL cs = true
  sg : ∀ c ∈ cs, c ∈ signsD
  dd : hasDD cs = false
  ls : e → lstN cs = true
theorem NmI.snoc {e e' : Prop} {cs : List Nat} {c : Nat} (h : NmI e cs) (hn : cs ≠ []) (hc : c ∈ signsD) (h2 : c ≠ 46 ∨ lstN cs = true ∧ ¬e') : NmI e' (cs ++ [c]) where
  hd := hd_app h.hd
  sg := fun d m => by
    rcases List.mem_append.mp m with m | m
    · exact h.sg d m
    · rw [List.mem_singleton.mp m]; exact hc
  dd := dd_snoc hn h.dd (h2.elim .inr fun z => .inl z.1)
  ls := fun z => by
    rw [lst_snoc]
    rcases h2 with h2 | h2
    · simpa using h2
    · exact (h2.2 z).elim
theorem fig_hd : ∀ k : Nat, k < 10 → hdL (decN k) = false ∧ decN k ≠ [] := by decide +kernel
theorem hdL_app {cs r : List Nat} (h : cs ≠ []) : hdL (cs ++ r) = hdL cs := by
  cases cs with
  | nil => exact (h rfl).elim
  | cons c s => rfl
theorem fig_no {j : Int} (h : 0 ≤ j) (g : j < 10) {r : List Nat} : isNm (decN j ++ r) = false := by
  obtain ⟨k, rfl⟩ := Int.eq_ofNat_of_zero_le h
  obtain ⟨h1, h2⟩ := fig_hd k (by omega)
  exact nm_hd (by rw [hdL_app h2]; exact h1)
theorem tl_blank : tl " " = [32] := rfl
theorem tl_feed : tl "\n" = [10] := rfl
/-- a row of requests as data; its first fault -/
def rowD (R : List (List (List Nat))) : List D := R.map fun L => .tup (L.map D.str)
def rowF : List (List (List Nat)) → Option (Sum (List Nat) Nat)
  | [] => none
  | L :: R => match lotF L with
    | some f => some f
    | none => rowF R
/-- the first text that is no name -/
def wordF (L : List (List Nat)) : Option (List Nat) := L.find? fun c => !isNm c
/-- a log of beats as data; its first bad beat -/
def beatD (b : List (List Nat) × List Nat) : D := .tup [.tup (b.1.map D.str), .str b.2]
def beatOk (b : List (List Nat) × List Nat) : Bool := (lotF b.1).isNone && inD (.str b.2) (b.1.map D.str)
def logF : Nat → List (List (List Nat) × List Nat) → Option Nat
  | _, [] => none
  | i, b :: r => if beatOk b = true then logF (i + 1) r else some i
/-- what a log's checking owes: the errors, and what follows of a good one -/
def LogX (P : List (List (List Nat) × List Nat)) (A : Ah) (x : AX) (G : Prop) : Prop := P.length ≤ 100000 ∧ (∀ b ∈ P, b.1.length ≤ 1000 ∧ ∀ c ∈ b.1, c.length ≤ big) ∧
  (300 < P.length → ∀ d A', Ext A A' → A' d = some (.xd [("limit", .int 300), ("what", .str (tl "beats"))]) → x ⟨"TooMany", d⟩ A') ∧ (P.length ≤ 300 → logF 0 P = none → G) ∧
  (P.length ≤ 300 → ∀ i, logF 0 P = some i → ∀ d A', Ext A A' → A' d = some (.xd [("at", .int (i : Nat))]) → x ⟨"BadLog", d⟩ A')
theorem LogX.w {P : List (List (List Nat) × List Nat)} {A : Ah} {x : AX} {G : Prop} (h : LogX P A x G) : ∀ b ∈ P, b.1.length ≤ 100000 ∧ ∀ c ∈ b.1, c.length ≤ big := fun b m => ⟨by have := (h.2.1 b m).1; omega, (h.2.1 b m).2⟩
theorem logF_all : ∀ {P : List (List (List Nat) × List Nat)} {i : Nat}, logF i P = none ↔ ∀ b ∈ P, beatOk b = true
  | [], _ => ⟨fun _ => nofun, fun _ => rfl⟩
  | b :: r, i => by
    rw [logF]
    by_cases h : beatOk b = true
    · rw [if_pos h, logF_all]
      exact ⟨fun g c m => (List.mem_cons.mp m).elim (fun e => e ▸ h) (g c), fun g c m => g c (List.mem_cons_of_mem _ m)⟩
    · rw [if_neg h]
      exact ⟨nofun, fun g => (h (g b List.mem_cons_self)).elim⟩
theorem inD_str {w : List Nat} {L : List (List Nat)} : inD (.str w) (L.map D.str) = true ↔ w ∈ L := by
  unfold inD
  rw [List.any_map, List.any_eq_true]
  constructor
  · rintro ⟨c, h, e⟩
    have : c = w := by simpa [D.eqv] using e
    exact this ▸ h
  · intro h
    exact ⟨w, h, by simp [D.eqv]⟩
theorem inD_strF {w : List Nat} {L : List (List Nat)} : inD (.str w) (L.map D.str) = false ↔ w ∉ L := by
  rw [← Bool.not_eq_true, inD_str]
theorem beatOk_iff {b : List (List Nat) × List Nat} : beatOk b = true ↔ lotF b.1 = none ∧ b.2 ∈ b.1 := by
  unfold beatOk
  rw [Bool.and_eq_true, Option.isNone_iff_eq_none, inD_str]
theorem sc_strs (L : List (List Nat)) : (L.map D.str).all D.sc = true := by
  rw [List.all_eq_true]
  intro d hd
  obtain ⟨c, _, rfl⟩ := List.mem_map.mp hd
  rfl
/-- the mark of a beat: - a g -/
def mkB (c : List Nat) (b : List (List Nat) × List Nat) : Nat := if c = b.2 then 103 else if c ∈ b.1 then 97 else 45
/-- the longest spell of marks, of which this one has lasted n beats -/
def spM : Nat → List Nat → Nat
  | n, [] => n
  | n, c :: r => if c = 45 then max n (spM 0 r) else if c = 103 then max (n + 1) (spM 0 r) else spM (n + 1) r
theorem spM_ge : ∀ (r : List Nat) (n : Nat), n ≤ spM n r
  | [], n => Nat.le_refl _
  | c :: r, n => by
    rw [spM]
    split
    · omega
    · split
      · omega
      · have := spM_ge r (n + 1); omega
theorem spM_le : ∀ (r : List Nat) (n : Nat), spM n r ≤ n + r.length
  | [], n => Nat.le_refl _
  | c :: r, n => by
    rw [spM, List.length_cons]
    have h0 := spM_le r 0
    have h1 := spM_le r (n + 1)
    split
    · omega
    · split <;> omega
/-! lots: ascending, of names -/
theorem lexL_trans {a b c : List Nat} (h : lexL a b = true) (g : lexL b c = true) : lexL a c = true := by
  rw [lexL_eq, decide_eq_true_iff] at h g ⊢
  exact List.lt_trans h g
theorem lexL_irrefl (a : List Nat) : lexL a a = false := by
  rw [lexL_eq]
  exact decide_eq_false (List.lt_irrefl a)
theorem lexL_asymm {a b : List Nat} (h : lexL a b = true) : lexL b a = false := by
  cases e : lexL b a with
  | false => rfl
  | true => have := lexL_trans h e; rw [lexL_irrefl] at this; cases this
theorem lexL_total {a b : List Nat} (h : lexL a b = false) (n : a ≠ b) : lexL b a = true := by
  rw [lexL_eq] at h ⊢
  have h := of_decide_eq_false h
  apply decide_eq_true
  rcases Decidable.em (b < a) with g | g
  · exact g
  · exact (n (List.le_antisymm g h)).elim
/-- strictly ascending -/
abbrev Asc (L : List (List Nat)) : Prop := L.Pairwise fun a b => lexL a b = true
theorem lotG_cons2 (p : Option (List Nat)) (i : Nat) (c : List Nat) (r : List (List Nat)) : lotG p i (c :: r) = if isNm c = false then some (.inl c) else if (match p with | some p => !lexL p c | none => false) = true then some (.inr i) else lotG (some c) (i + 1) r := by cases p <;> rfl
theorem lotG_none : ∀ {r : List (List Nat)} {c : List Nat} {i : Nat}, lotG (some c) i r = none ↔ (∀ d ∈ r, isNm d = true) ∧ Asc (c :: r)
  | [], _, _ => ⟨fun _ => ⟨nofun, List.pairwise_singleton _ _⟩, fun _ => rfl⟩
  | d :: r, c, i => by
    rw [lotG_cons2]
    by_cases h : isNm d = false
    · rw [if_pos h]
      exact ⟨nofun, fun g => by rw [g.1 d List.mem_cons_self] at h; cases h⟩
    · rw [if_neg h]
      have hd : isNm d = true := by simpa using h
      cases hl : lexL c d with
      | false =>
        show (if (!lexL c d) = true then _ else _) = none ↔ _
        rw [hl, if_pos (by decide)]
        exact ⟨nofun, fun g => by have := (List.pairwise_cons.mp g.2).1 d List.mem_cons_self; rw [hl] at this; cases this⟩
      | true =>
        show (if (!lexL c d) = true then _ else _) = none ↔ _
        rw [hl, if_neg (by decide), lotG_none]
        constructor
        · rintro ⟨g1, g2⟩
          refine ⟨fun e m => (List.mem_cons.mp m).elim (fun z => z ▸ hd) (g1 e), List.pairwise_cons.mpr ⟨fun e m => ?_, g2⟩⟩
          rcases List.mem_cons.mp m with rfl | m
          · exact hl
          · exact lexL_trans hl ((List.pairwise_cons.mp g2).1 e m)
        · rintro ⟨g1, g2⟩
          exact ⟨fun e m => g1 e (List.mem_cons_of_mem _ m), (List.pairwise_cons.mp g2).2⟩
theorem lot_iff {L : List (List Nat)} : lotF L = none ↔ L ≠ [] ∧ (∀ c ∈ L, isNm c = true) ∧ Asc L := by
  unfold lotF
  cases L with
  | nil => exact ⟨nofun, fun h => (h.1 rfl).elim⟩
  | cons c r =>
    rw [if_neg (by simp), lotG_cons2]
    by_cases h : isNm c = false
    · rw [if_pos h]
      exact ⟨nofun, fun g => by rw [g.2.1 c List.mem_cons_self] at h; cases h⟩
    · have hc : isNm c = true := by simpa using h
      rw [if_neg h]
      show (if false = true then _ else lotG (some c) 1 r) = none ↔ _
      rw [if_neg (by decide), lotG_none]
      exact ⟨fun g => ⟨by simp, fun d m => (List.mem_cons.mp m).elim (fun z => z ▸ hc) (g.1 d), g.2⟩, fun g => ⟨fun d m => g.2.1 d (List.mem_cons_of_mem _ m), g.2.2⟩⟩
theorem lot_sub {L S : List (List Nat)} (h : lotF L = none) (s : S.Sublist L) (n : S ≠ []) : lotF S = none := by
  obtain ⟨_, h1, h2⟩ := lot_iff.mp h
  exact lot_iff.mpr ⟨n, fun c m => h1 c (s.subset m), h2.sublist s⟩
theorem asc_nodup {L : List (List Nat)} (h : Asc L) : L.Nodup := h.imp fun {a b} g e => by rw [e, lexL_irrefl] at g; cases g
/-- sorted and without doubles -/
theorem srt_asc : ∀ {L : List (List Nat)}, srtL L = true → L.Nodup → Asc L
  | [], _, _ => .nil
  | [_], _, _ => List.pairwise_singleton _ _
  | x :: y :: r, h, n => by
    obtain ⟨h1, h2⟩ := Bool.and_eq_true_iff.mp (show (!lexL y x && srtL (y :: r)) = true from h)
    obtain ⟨n1, n2⟩ := List.nodup_cons.mp n
    have ih := srt_asc h2 n2
    have hxy : lexL x y = true := lexL_total (by simpa using h1) (fun z => n1 (z ▸ List.mem_cons_self))
    refine List.pairwise_cons.mpr ⟨fun e m => ?_, ih⟩
    rcases List.mem_cons.mp m with rfl | m
    · exact hxy
    · exact lexL_trans hxy ((List.pairwise_cons.mp ih).1 e m)
theorem lotG_app : ∀ (X : List (List Nat)) (p : Option (List Nat)) (i : Nat) (Y : List (List Nat)), (∀ c ∈ X, isNm c = true) → Asc (p.toList ++ X) → lotG p i (X ++ Y) = lotG (X.getLast?.or p) (i + X.length) Y
  | [], p, i, Y, _, _ => by simp
  | c :: r, p, i, Y, h, g => by
    rw [List.cons_append, lotG_cons2, if_neg (by rw [h c List.mem_cons_self]; decide)]
    have e : ∀ p', p = some p' → lexL p' c = true := by
      rintro p' rfl
      exact (List.pairwise_cons.mp (show Asc (p' :: c :: r) from g)).1 c List.mem_cons_self
    rw [if_neg (by cases p with
      | none => exact Bool.noConfusion
      | some p => show ¬ (!lexL p c) = true; rw [e p rfl]; decide)]
    have g2 : Asc (c :: r) := by
      cases p with
      | none => exact g
      | some p => exact (List.pairwise_cons.mp (show Asc (p :: c :: r) from g)).2
    have ih := lotG_app r (some c) (i + 1) Y (fun d m => h d (List.mem_cons_of_mem _ m)) g2
    rw [ih, List.length_cons, show i + 1 + r.length = i + (r.length + 1) by omega]
    congr 1
    cases r with
    | nil => rfl
    | cons d s => rw [List.getLast?_cons_cons]; cases h3 : (d :: s).getLast? with
      | none => simp at h3
      | some z => rfl
theorem lotF_app {X Y : List (List Nat)} (h : ∀ c ∈ X, isNm c = true) (g : Asc X) (n : X ++ Y ≠ []) : lotF (X ++ Y) = lotG X.getLast? X.length Y := by
  unfold lotF
  rw [if_neg n, lotG_app X none 0 Y h g, Nat.zero_add, Option.or_none]
theorem lotF_nm {X r : List (List Nat)} {c : List Nat} (h : ∀ c ∈ X, isNm c = true) (g : Asc X) (n : isNm c = false) : lotF (X ++ c :: r) = some (.inl c) := by
  rw [lotF_app h g (by simp), lotG_cons2, if_pos n]
theorem lotF_or {X r : List (List Nat)} {p c : List Nat} (h : ∀ c ∈ X, isNm c = true) (g : Asc X) (l : X.getLast? = some p) (n : isNm c = true) (o : lexL p c = false) : lotF (X ++ c :: r) = some (.inr X.length) := by
  rw [lotF_app h g (by simp), l, lotG_cons2, if_neg (by rw [n]; decide)]
  show (if (!lexL p c) = true then _ else _) = _
  rw [o, if_pos (by decide)]
theorem plsStrs : ∀ L : List (List Nat), Pls L.length (L.map D.str)
  | [] => .nil
  | c :: r => by rw [List.length_cons, Nat.add_comm]; exact .cons (.str c) (plsStrs r)
theorem pls_map {α : Type} (f : α → D) (k : Nat) : ∀ L : List α, (∀ a ∈ L, ∃ n, n ≤ k ∧ Pl n (f a)) → ∃ n, n ≤ k * L.length ∧ Pls n (L.map f)
  | [], _ => ⟨0, Nat.zero_le _, .nil⟩
  | a :: r, h => by
    obtain ⟨n, h1, h2⟩ := h a List.mem_cons_self
    obtain ⟨m, g1, g2⟩ := pls_map f k r fun b m => h b (List.mem_cons_of_mem _ m)
    exact ⟨n + m, by rw [List.length_cons, Nat.mul_succ]; omega, .cons h2 g2⟩
/-- lines of a law -/
structure LotL (L : List (List Nat)) : Prop where
  ok : lotF L = none
  le : L.length ≤ 24
theorem LotL.ne {L : List (List Nat)} (h : LotL L) : L ≠ [] := (lot_iff.mp h.ok).1
theorem LotL.nm {L : List (List Nat)} (h : LotL L) : ∀ c ∈ L, isNm c = true := (lot_iff.mp h.ok).2.1
theorem LotL.asc {L : List (List Nat)} (h : LotL L) : Asc L := (lot_iff.mp h.ok).2.2
/-- a good log over lines -/
structure GoodP (P : List (List (List Nat) × List Nat)) (L : List (List Nat)) : Prop where
  le : P.length ≤ 300
  ok : ∀ b ∈ P, beatOk b = true ∧ b.1.Sublist L
theorem GoodP.logF {P : List (List (List Nat) × List Nat)} {L : List (List Nat)} (h : GoodP P L) {i : Nat} : LW.logF i P = none := logF_all.mpr fun b m => (h.ok b m).1
theorem nm_big {c : List Nat} (h : isNm c = true) : c.length ≤ big := by have := (nm_len h).2; rw [big_eq]; omega
theorem beat_nm {b : List (List Nat) × List Nat} (h : beatOk b = true) : (∀ c ∈ b.1, isNm c = true) ∧ b.2 ∈ b.1 := by
  obtain ⟨h1, h2⟩ := beatOk_iff.mp h
  exact ⟨(lot_iff.mp h1).2.1, h2⟩
theorem GoodP.bd {P : List (List (List Nat) × List Nat)} {L : List (List Nat)} (h : GoodP P L) (hL : LotL L) : ∀ b ∈ P, b.1.length ≤ 1000 ∧ ∀ c ∈ b.1, c.length ≤ big := fun b m => by
  obtain ⟨h1, h2⟩ := h.ok b m
  exact ⟨by have := h2.length_le; have := hL.le; omega, fun c hc => nm_big ((beat_nm h1).1 c hc)⟩
theorem GoodP.pl {P : List (List (List Nat) × List Nat)} {L : List (List Nat)} (h : GoodP P L) (hL : LotL L) : ∃ n, n ≤ 30 * P.length + 1 ∧ Pl n (.tup (P.map beatD)) := by
  have hb : ∀ b ∈ P, ∃ n, n ≤ 30 ∧ Pl n (beatD b) := fun b m => by
    have := (h.ok b m).2.length_le
    have := hL.le
    exact ⟨_, by omega, .tup (.cons (.tup (plsStrs b.1)) (.cons (.str b.2) .nil))⟩
  obtain ⟨n, h1, h2⟩ := pls_map beatD 30 P hb
  exact ⟨n + 1, by omega, .tup h2⟩
theorem GoodP.logX {P : List (List (List Nat) × List Nat)} {L : List (List Nat)} (h : GoodP P L) (hL : LotL L) {A : Ah} {x : AX} {G : Prop} (g : G) : LogX P A x G :=
  ⟨by have := h.le; omega, h.bd hL, fun z => by have := h.le; omega, fun _ _ => g, fun _ i z => by rw [h.logF] at z; cases z⟩
/-- the first fault of a lot of known lines -/
def lowP (p : Option (List Nat)) (c : List Nat) : Bool := match p with | some p => !lexL p c | none => false
def knoG (K : List (List Nat)) : Option (List Nat) → Nat → List (List Nat) → Option (Sum (List Nat) Nat)
  | _, _, [] => none
  | p, i, c :: r => if c ∉ K then some (.inl c) else if lowP p c = true then some (.inr i) else knoG K (some c) (i + 1) r
def knoF (K L : List (List Nat)) : Option (Sum (List Nat) Nat) := if L = [] then some (.inr 0) else knoG K none 0 L
theorem knoG_cons (K : List (List Nat)) (p : Option (List Nat)) (i : Nat) (c : List Nat) (r : List (List Nat)) : knoG K p i (c :: r) = if c ∉ K then some (.inl c) else if lowP p c = true then some (.inr i) else knoG K (some c) (i + 1) r := by cases p <;> rfl
/-- what checking lines owes -/
def LinesX (L : List (List Nat)) (m : Int) (A : Ah) (x : AX) (G : Prop) : Prop := L.length ≤ 100000 ∧ (∀ c ∈ L, c.length ≤ big) ∧
  (L = [] → ∀ d A', Ext A A' → A' d = some (.xd [("at", .int 0)]) → x ⟨"BadLot", d⟩ A') ∧
  (L ≠ [] → m < L.length → ∀ d A', Ext A A' → A' d = some (.xd [("limit", .int m), ("what", .str (tl "lines"))]) → x ⟨"TooMany", d⟩ A') ∧
  (L ≠ [] → (L.length : Int) ≤ m → (lotF L = none → G) ∧ (∀ cs, lotF L = some (.inl cs) → ∀ d A', Ext A A' → A' d = some (.xd [("name", .str cs)]) → x ⟨"BadName", d⟩ A') ∧ (∀ i, lotF L = some (.inr i) → ∀ d A', Ext A A' → A' d = some (.xd [("at", .int (i : Nat))]) → x ⟨"BadLot", d⟩ A'))
/-- lots of a mask, of a size -/
def pkL : List (List Nat) → Nat → List (List Nat)
  | [], _ => []
  | c :: r, m => if m % 2 = 1 then c :: pkL r (m / 2) else pkL r (m / 2)
def mkL (S : List (List Nat)) : List (List Nat) → Nat
  | [] => 0
  | c :: r => (if c ∈ S then 1 else 0) + 2 * mkL S r
def plL (L : List (List Nat)) : Nat → List (List (List Nat) × Nat)
  | 0 => [([], 0)]
  | k + 1 => (plL L k).flatMap fun p => (List.range (L.length - p.2)).map fun j => (p.1 ++ [L.getD (p.2 + j) []], p.2 + j + 1)
theorem pk_sub : ∀ (L : List (List Nat)) (m : Nat), (pkL L m).Sublist L
  | [], _ => .slnil
  | c :: r, m => by
    rw [pkL]
    split
    · exact (pk_sub r _).cons₂ c
    · exact (pk_sub r _).cons c
/-- the first beat whose line is not in its request -/
def zipF : Nat → List (List (List Nat)) → List (List Nat) → Option Nat
  | i, L :: R, w :: W => if w ∈ L then zipF (i + 1) R W else some i
  | _, _, _ => none
/-! good rows, words, logs -/
theorem rowF_none : ∀ {R : List (List (List Nat))}, rowF R = none ↔ ∀ L ∈ R, lotF L = none
  | [] => ⟨fun _ => nofun, fun _ => rfl⟩
  | L :: R => by
    rw [rowF]
    cases h : lotF L with
    | some f => exact ⟨nofun, fun g => by have := g L List.mem_cons_self; rw [h] at this; cases this⟩
    | none => exact ⟨fun g M m => (List.mem_cons.mp m).elim (fun e => e ▸ h) (rowF_none.mp g M), fun g => rowF_none.mpr fun M m => g M (List.mem_cons_of_mem _ m)⟩
theorem wordF_none {W : List (List Nat)} : wordF W = none ↔ ∀ c ∈ W, isNm c = true := by
  unfold wordF
  rw [List.find?_eq_none]
  exact ⟨fun h c m => by simpa using h c m, fun h c m => by simp [h c m]⟩
theorem zipF_good : ∀ {P : List (List (List Nat) × List Nat)} {i : Nat}, (∀ b ∈ P, beatOk b = true) → zipF i (P.map (·.1)) (P.map (·.2)) = none
  | [], _, _ => rfl
  | b :: r, i, h => by
    show (if b.2 ∈ b.1 then zipF (i + 1) (r.map (·.1)) (r.map (·.2)) else some i) = none
    rw [if_pos (beatOk_iff.mp (h b List.mem_cons_self)).2]
    exact zipF_good fun c m => h c (List.mem_cons_of_mem _ m)
theorem zip_back : ∀ P : List (List (List Nat) × List Nat), (P.map (·.1)).zip (P.map (·.2)) = P
  | [] => rfl
  | b :: r => by
    show (b.1, b.2) :: (r.map (·.1)).zip (r.map (·.2)) = _
    rw [zip_back r]
theorem good_row {P : List (List (List Nat) × List Nat)} {L : List (List Nat)} (h : GoodP P L) : rowF (P.map (·.1)) = none := rowF_none.mpr fun M m => by
  obtain ⟨b, hb, rfl⟩ := List.mem_map.mp m
  exact (beatOk_iff.mp (h.ok b hb).1).1
theorem good_word {P : List (List (List Nat) × List Nat)} {L : List (List Nat)} (h : GoodP P L) : wordF (P.map (·.2)) = none := wordF_none.mpr fun c m => by
  obtain ⟨b, hb, rfl⟩ := List.mem_map.mp m
  obtain ⟨h1, h2⟩ := beat_nm (h.ok b hb).1
  exact h1 _ h2
theorem good_rowpl {P : List (List (List Nat) × List Nat)} {L : List (List Nat)} (h : GoodP P L) (hL : LotL L) : ∃ n, n < 400000 ∧ Pl n (.tup (rowD (P.map (·.1)))) := by
  have hb : ∀ b ∈ P.map (·.1), ∃ n, n ≤ 30 ∧ Pl n (D.tup (b.map D.str)) := fun b m => by
    obtain ⟨b, hb, rfl⟩ := List.mem_map.mp m
    have := (h.ok b hb).2.length_le
    have := hL.le
    exact ⟨_, by omega, .tup (plsStrs b.1)⟩
  obtain ⟨n, h1, h2⟩ := pls_map (fun L => D.tup (L.map D.str)) 30 (P.map (·.1)) hb
  have := h.le
  rw [List.length_map] at h1
  exact ⟨n + 1, by omega, .tup h2⟩
theorem lc_row {P : List (List (List Nat) × List Nat)} {L : List (List Nat)} (hP : GoodP P L) {A : Ah} {v : Nat} {Γ : Gt} {q : D → Ah → Prop} (hv : v < Γ.length) (h : ∀ p A', Ext A A' → A' p = some (.lst (rowD (P.map (·.1)))) → q (.ref p) A') :
    lcR ⟨none, (P.map beatD).length, fun i => (P.map beatD).getD i .non⟩ A (agName v) aYes (aOp aIx (aVar v) (aC (.int 0))) [v] Γ q := by
  refine lc_of (it := ⟨none, (P.map beatD).length, fun i => (P.map beatD).getD i .non⟩) (fun i => match (P.map beatD).getD i .non with | .tup [a, _] => a | _ => .non) rfl (by show (P.map beatD).length ≤ big; rw [List.length_map, big_eq]; have := hP.le; omega) (fun i A' k sk hi e hk => ?_) (fun p hp => ?_)
  · have hi : i < P.length := by rw [show _ = (P.map beatD).length from rfl, List.length_map] at hi; exact hi
    have hk : k (match (P.map beatD).getD i .non with | .tup [a, _] => a | _ => .non) A' := hk
    show agName v ((P.map beatD).getD i .non) _ _ _
    rw [map_getD _ hi] at hk ⊢
    generalize P[i] = b at hk ⊢
    obtain ⟨b1, b2⟩ := b
    have hset : ((wipeG Γ [v]).set v (some (beatD (b1, b2))))[v]? = some (some (beatD (b1, b2))) := by
      rw [List.getElem?_set_self]
      show v < ((wipeG Γ []).set v none).length
      rw [List.length_set]; exact hv
    show bsel true _ _
    refine ⟨fun _ => ?_, fun z => Bool.noConfusion z⟩
    show aVar v ((wipeG Γ [v]).set v (some (beatD (b1, b2)))) A' _ _
    unfold aVar
    rw [hset]
    exact ⟨_, atI_zero', hk⟩
  · have : (List.range (P.map beatD).length).map (fun i => match (P.map beatD).getD i .non with | .tup [a, _] => a | _ => .non) = rowD (P.map (·.1)) := by
      rw [map_range_getD beatD (fun d => match d with | .tup [a, _] => a | _ => .non)]
      unfold rowD
      rw [List.map_map]
      rfl
    exact h p _ (.new hp) (by rw [updA_same]; exact congrArg (fun z => some (Cell.lst z)) this)
theorem lc_word {P : List (List (List Nat) × List Nat)} {L : List (List Nat)} (hP : GoodP P L) {A : Ah} {v : Nat} {Γ : Gt} {q : D → Ah → Prop} (hv : v < Γ.length) (h : ∀ p A', Ext A A' → A' p = some (.lst ((P.map (·.2)).map D.str)) → q (.ref p) A') :
    lcR ⟨none, (P.map beatD).length, fun i => (P.map beatD).getD i .non⟩ A (agName v) aYes (aOp aIx (aVar v) (aC (.int 1))) [v] Γ q := by
  refine lc_of (it := ⟨none, (P.map beatD).length, fun i => (P.map beatD).getD i .non⟩) (fun i => match (P.map beatD).getD i .non with | .tup [_, a] => a | _ => .non) rfl (by show (P.map beatD).length ≤ big; rw [List.length_map, big_eq]; have := hP.le; omega) (fun i A' k sk hi e hk => ?_) (fun p hp => ?_)
  · have hi : i < P.length := by rw [show _ = (P.map beatD).length from rfl, List.length_map] at hi; exact hi
    have hk : k (match (P.map beatD).getD i .non with | .tup [_, a] => a | _ => .non) A' := hk
    show agName v ((P.map beatD).getD i .non) _ _ _
    rw [map_getD _ hi] at hk ⊢
    generalize P[i] = b at hk ⊢
    obtain ⟨b1, b2⟩ := b
    have hset : ((wipeG Γ [v]).set v (some (beatD (b1, b2))))[v]? = some (some (beatD (b1, b2))) := by
      rw [List.getElem?_set_self]
      show v < ((wipeG Γ []).set v none).length
      rw [List.length_set]; exact hv
    show bsel true _ _
    refine ⟨fun _ => ?_, fun z => Bool.noConfusion z⟩
    show aVar v ((wipeG Γ [v]).set v (some (beatD (b1, b2)))) A' _ _
    unfold aVar
    rw [hset]
    exact ⟨_, atI_one', hk⟩
  · have : (List.range (P.map beatD).length).map (fun i => match (P.map beatD).getD i .non with | .tup [_, a] => a | _ => .non) = (P.map (·.2)).map D.str := by
      rw [map_range_getD beatD (fun d => match d with | .tup [_, a] => a | _ => .non)]
      rw [List.map_map]
      rfl
    exact h p _ (.new hp) (by rw [updA_same]; exact congrArg (fun z => some (Cell.lst z)) this)
theorem due1 (s : String) (d : D) (h : Pl 1 d) : Pl 4 (.tup [.str (tl s), .tup [d]]) := .tup (.cons (n := 1) (.str _) (.cons (n := 2) (m := 0) (.tup (.cons (n := 1) (m := 0) h .nil)) .nil))
theorem due2 (s : String) (d e : D) (h : Pl 1 d) (g : Pl 1 e) : Pl 5 (.tup [.str (tl s), .tup [d, e]]) := .tup (.cons (n := 1) (.str _) (.cons (n := 3) (m := 0) (.tup (.cons (n := 1) h (.cons (n := 1) (m := 0) g .nil))) .nil))
/-! tables of numbers -/
def accS (xs ys : List Int) (m : Nat) : Nat → Int
  | 0 => 0
  | p + 1 => accS xs ys m p + xs.getD (p + 1) 0 * ys.getD (m - (p + 1)) 0
def fcN : Nat → Nat
  | 0 => 1
  | n + 1 => fcN n * (n + 1)
def Sm1 (v : Int) : Prop := -1000000000000000000000000000000 ≤ v ∧ v ≤ 1000000000000000000000000000000
instance (v : Int) : Decidable (Sm1 v) := by unfold Sm1; infer_instance
theorem Sm1.ok {v : Int} (h : Sm1 v) : SmallI v := small128 (by have := h.1; omega) (by have := h.2; omega)
theorem getD_int {L : List Int} {i : Nat} (h : i < L.length) : L2.atI (L.map D.int) (i : Int) = some (.int (L.getD i 0)) := by
  rw [atI_map D.int h, List.getD_eq_getElem?_getD, List.getElem?_eq_getElem h]; rfl
theorem getD_mem' {L : List Int} {i : Nat} (h : i < L.length) : L.getD i 0 ∈ L := by
  rw [List.getD_eq_getElem?_getD, List.getElem?_eq_getElem h]
  exact List.getElem_mem h
theorem sum_acc (xs ys : List Int) (m : Nat) : ∀ n : Nat, ((List.range n).map fun k => xs.getD (1 + k) 0 * ys.getD (m - (1 + k)) 0).sum = accS xs ys m n
  | 0 => rfl
  | n + 1 => by
    rw [List.range_succ, List.map_append, List.sum_append, sum_acc xs ys m n, accS]
    simp [Nat.add_comm]
/-! bad lines, and what is due of them -/
def BadL (B : List (List Nat)) (m : Nat) (w : List Nat) (v : D) : Prop :=
  (B = [] ∧ w = tl "BadLot" ∧ v = .tup [.int 0]) ∨ (B ≠ [] ∧ m < B.length ∧ w = tl "TooMany" ∧ v = .tup [.str (tl "lines"), .int m]) ∨
  (B ≠ [] ∧ B.length ≤ m ∧ ∃ cs, lotF B = some (.inl cs) ∧ w = tl "BadName" ∧ v = .tup [.str cs]) ∨ (B ≠ [] ∧ B.length ≤ m ∧ ∃ i : Nat, lotF B = some (.inr i) ∧ w = tl "BadLot" ∧ v = .tup [.int i])
theorem dup_lot {L : List (List Nat)} (h : lotF L = none) {a : Nat} (ha : a < L.length) (Y : List (List Nat)) : lotF (L.take (a + 1) ++ L[a] :: Y) = some (.inr (a + 1)) := by
  obtain ⟨_, hn, hA⟩ := lot_iff.mp h
  have := lotF_or (X := L.take (a + 1)) (r := Y) (fun c m => hn c (List.mem_of_mem_take m)) (hA.sublist (List.take_sublist _ L)) (p := L[a]) (c := L[a]) (by rw [List.take_succ, List.getElem?_eq_getElem ha]; exact List.getLast?_concat) (hn _ (List.getElem_mem ha)) (lexL_irrefl _)
  rw [this, List.length_take]
  congr 2
  omega
theorem swap_lot {L : List (List Nat)} (h : lotF L = none) {b : Nat} (hb1 : 1 ≤ b) (hb : b < L.length) (Y : List (List Nat)) : lotF ((L.take (b - 1) ++ [L[b]]) ++ L[b - 1] :: Y) = some (.inr b) := by
  obtain ⟨_, hn, hA⟩ := lot_iff.mp h
  have hsub : (L.take (b - 1) ++ [L[b]]).Sublist L := by
    have h1 : L = L.take (b - 1) ++ L.drop (b - 1) := (List.take_append_drop _ _).symm
    have h3 : [L[b]].Sublist (L.drop (b - 1)) := by
      rw [List.singleton_sublist, List.mem_iff_getElem]
      exact ⟨1, by rw [List.length_drop]; omega, by rw [List.getElem_drop]; congr 1; omega⟩
    have h4 := (List.Sublist.refl (L.take (b - 1))).append h3
    rw [← h1] at h4
    exact h4
  have hlt : lexL L[b - 1] L[b] = true := (List.pairwise_iff_getElem.mp hA) (b - 1) b (by omega) hb (by omega)
  have := lotF_or (X := L.take (b - 1) ++ [L[b]]) (r := Y) (fun c m => hn c (hsub.subset m)) (hA.sublist hsub) (p := L[b]) (c := L[b - 1]) List.getLast?_concat (hn _ (List.getElem_mem _)) (lexL_asymm hlt)
  rw [this, List.length_append, List.length_take, List.length_singleton]
  congr 2
  omega
theorem swap_cat {L : List (List Nat)} {b : Nat} (hb : b < L.length) (hb1 : b - 1 < L.length) : ((L.take (b - 1)).map D.str ++ [D.str L[b], .str L[b - 1]] ++ (L.drop (b + 1)).map D.str) = ((L.take (b - 1) ++ [L[b]]) ++ L[b - 1] :: L.drop (b + 1)).map D.str := by simp
theorem ins_lot {L : List (List Nat)} (h : lotF L = none) (a : Nat) {bad : List Nat} (hb : isNm bad = false) (Y : List (List Nat)) : lotF (L.take a ++ bad :: Y) = some (.inl bad) := by
  obtain ⟨_, hn, hA⟩ := lot_iff.mp h
  exact lotF_nm (fun c m => hn c (List.mem_of_mem_take m)) (hA.sublist (List.take_sublist _ L)) hb
theorem decN_200 : ∀ k : Nat, k < 200 → (decN k).length ≤ 3 := by decide +kernel
theorem linesX_good {L : List (List Nat)} (h : lotF L = none) {m : Nat} (hm : L.length ≤ m) (h24 : L.length ≤ 24) {A : Ah} {x : AX} {G : Prop} (g : G) : LinesX L m A x G := by
  obtain ⟨hne, hnm, _⟩ := lot_iff.mp h
  exact ⟨by omega, fun c hc => nm_big (hnm c hc), fun z => (hne z).elim, fun _ z => by omega, fun _ _ => ⟨fun _ => g, fun cs z => (by rw [h] at z; cases z), fun i z => (by rw [h] at z; cases z)⟩⟩
/-- what bad lines owe -/
theorem linesX_bad {B : List (List Nat)} {m : Nat} {w : List Nat} {v : D} (h : BadL B m w v) (h60 : B.length ≤ 60) (hb : ∀ c ∈ B, c.length ≤ 14) {A : Ah} {x : AX} {G : Prop}
    (hx : ∀ cls fs d A', Ext A A' → A' d = some (.xd fs) → ((cls = "BadLot" ∧ ∃ v0, fs = [(Str.ofString "at", v0)] ∧ w = tl "BadLot" ∧ v = .tup [v0]) ∨ (cls = "TooMany" ∧ ∃ v0 v1, fs = [(Str.ofString "limit", v1), (Str.ofString "what", v0)] ∧ w = tl "TooMany" ∧ v = .tup [v0, v1]) ∨ (cls = "BadName" ∧ ∃ v0, fs = [(Str.ofString "name", v0)] ∧ w = tl "BadName" ∧ v = .tup [v0])) → x ⟨cls, d⟩ A') : LinesX B m A x G := by
  refine ⟨by omega, fun c hc => by have := hb c hc; rw [big_eq]; omega, fun z d A' e1 e2 => ?_, fun z z1 d A' e1 e2 => ?_, fun z z1 => ⟨fun z2 => ?_, fun cs z2 d A' e1 e2 => ?_, fun i z2 d A' e1 e2 => ?_⟩⟩
  · rcases h with ⟨_, rfl, rfl⟩ | ⟨h1, _⟩ | ⟨h1, _⟩ | ⟨h1, _⟩
    · exact hx _ _ d A' e1 e2 (.inl ⟨rfl, _, rfl, rfl, rfl⟩)
    all_goals exact (h1 z).elim
  · rcases h with ⟨h1, _⟩ | ⟨_, _, rfl, rfl⟩ | ⟨_, h1, _⟩ | ⟨_, h1, _⟩
    · exact (z h1).elim
    · exact hx _ _ d A' e1 e2 (.inr (.inl ⟨rfl, _, _, rfl, rfl, rfl⟩))
    all_goals omega
  · rcases h with ⟨h1, _⟩ | ⟨_, h1, _⟩ | ⟨_, _, c, h1, _⟩ | ⟨_, _, c, h1, _⟩
    · exact (z h1).elim
    · omega
    all_goals (rw [z2] at h1; cases h1)
  · rcases h with ⟨h1, _⟩ | ⟨_, h1, _⟩ | ⟨_, _, c, h1, rfl, rfl⟩ | ⟨_, _, c, h1, _⟩
    · exact (z h1).elim
    · omega
    · rw [z2] at h1
      cases h1
      exact hx _ _ d A' e1 e2 (.inr (.inr ⟨rfl, _, rfl, rfl, rfl⟩))
    · rw [z2] at h1; cases h1
  · rcases h with ⟨h1, _⟩ | ⟨_, h1, _⟩ | ⟨_, _, c, h1, _⟩ | ⟨_, _, c, h1, rfl, rfl⟩
    · exact (z h1).elim
    · omega
    · rw [z2] at h1; cases h1
    · rw [z2] at h1
      cases h1
      exact hx _ _ d A' e1 e2 (.inl ⟨rfl, _, rfl, rfl, rfl⟩)
theorem knoG_app {K : List (List Nat)} : ∀ (X : List (List Nat)) (p : Option (List Nat)) (i : Nat) (Y : List (List Nat)), (∀ c ∈ X, c ∈ K) → Asc (p.toList ++ X) → knoG K p i (X ++ Y) = knoG K (X.getLast?.or p) (i + X.length) Y
  | [], p, i, Y, _, _ => by simp
  | c :: r, p, i, Y, h, g => by
    rw [List.cons_append, knoG_cons, if_neg (fun z => z (h c List.mem_cons_self))]
    have e : ∀ p', p = some p' → lexL p' c = true := by
      rintro p' rfl
      exact (List.pairwise_cons.mp (show Asc (p' :: c :: r) from g)).1 c List.mem_cons_self
    have e2 : lowP p c = false := by
      cases p with
      | none => rfl
      | some p => show (!lexL p c) = false; rw [e p rfl]; rfl
    rw [e2, if_neg Bool.false_ne_true]
    have g2 : Asc (c :: r) := by
      cases p with
      | none => exact g
      | some p => exact (List.pairwise_cons.mp (show Asc (p :: c :: r) from g)).2
    have ih := knoG_app r (some c) (i + 1) Y (fun d m => h d (List.mem_cons_of_mem _ m)) g2
    rw [ih, List.length_cons, show i + 1 + r.length = i + (r.length + 1) by omega]
    congr 1
    cases r with
    | nil => rfl
    | cons d s => rw [List.getLast?_cons_cons]; cases h3 : (d :: s).getLast? with
      | none => simp at h3
      | some z => rfl
theorem knoF_app {K X Y : List (List Nat)} (h : ∀ c ∈ X, c ∈ K) (g : Asc X) (n : X ++ Y ≠ []) : knoF K (X ++ Y) = knoG K X.getLast? X.length Y := by
  unfold knoF
  rw [if_neg n, knoG_app X none 0 Y h g, Nat.zero_add, Option.or_none]
theorem knoF_in {K X r : List (List Nat)} {c : List Nat} (h : ∀ c ∈ X, c ∈ K) (g : Asc X) (n : c ∉ K) : knoF K (X ++ c :: r) = some (.inl c) := by
  rw [knoF_app h g (by simp), knoG_cons, if_pos n]
theorem knoF_or {K X r : List (List Nat)} {p c : List Nat} (h : ∀ c ∈ X, c ∈ K) (g : Asc X) (l : X.getLast? = some p) (n : c ∈ K) (o : lexL p c = false) : knoF K (X ++ c :: r) = some (.inr X.length) := by
  have e : lowP (some p) c = true := by show (!lexL p c) = true; rw [o]; rfl
  rw [knoF_app h g (by simp), l, knoG_cons, if_neg (fun z => z n), if_pos e]
theorem dup_kno {K L : List (List Nat)} (h : ∀ c ∈ L, c ∈ K) (hA : Asc L) {a : Nat} (ha : a < L.length) (Y : List (List Nat)) : knoF K (L.take (a + 1) ++ L[a] :: Y) = some (.inr (a + 1)) := by
  have := knoF_or (K := K) (X := L.take (a + 1)) (r := Y) (fun c m => h c (List.mem_of_mem_take m)) (hA.sublist (List.take_sublist _ L)) (p := L[a]) (c := L[a]) (by rw [List.take_succ, List.getElem?_eq_getElem ha]; exact List.getLast?_concat) (h _ (List.getElem_mem ha)) (lexL_irrefl _)
  rw [this, List.length_take]
  congr 2
  omega
theorem swap_kno {K L : List (List Nat)} (h : ∀ c ∈ L, c ∈ K) (hA : Asc L) {b : Nat} (hb1 : 1 ≤ b) (hb : b < L.length) (Y : List (List Nat)) : knoF K ((L.take (b - 1) ++ [L[b]]) ++ L[b - 1] :: Y) = some (.inr b) := by
  have hsub : (L.take (b - 1) ++ [L[b]]).Sublist L := by
    have h1 : L = L.take (b - 1) ++ L.drop (b - 1) := (List.take_append_drop _ _).symm
    have h3 : [L[b]].Sublist (L.drop (b - 1)) := by
      rw [List.singleton_sublist, List.mem_iff_getElem]
      exact ⟨1, by rw [List.length_drop]; omega, by rw [List.getElem_drop]; congr 1; omega⟩
    have h4 := (List.Sublist.refl (L.take (b - 1))).append h3
    rw [← h1] at h4
    exact h4
  have hlt : lexL L[b - 1] L[b] = true := (List.pairwise_iff_getElem.mp hA) (b - 1) b (by omega) hb (by omega)
  have := knoF_or (K := K) (X := L.take (b - 1) ++ [L[b]]) (r := Y) (fun c m => h c (hsub.subset m)) (hA.sublist hsub) (p := L[b]) (c := L[b - 1]) List.getLast?_concat (h _ (List.getElem_mem _)) (lexL_asymm hlt)
  rw [this, List.length_append, List.length_take, List.length_singleton]
  congr 2
  omega
theorem pk_ne : ∀ {L : List (List Nat)} {m : Nat}, 0 < m → m < 2 ^ L.length → pkL L m ≠ []
  | [], m, h, g => by have : m < 1 := g; omega
  | c :: r, m, h, g => by
    rw [List.length_cons, Nat.pow_succ] at g
    rw [pkL]
    by_cases e : m % 2 = 1
    · rw [if_pos e]; exact nofun
    · rw [if_neg e]; exact pk_ne (by omega) (by omega)
theorem pow24p : ∀ k : Nat, k ≤ 24 → 2 ^ k ≤ 16777216 := by decide +kernel
theorem mk_congr {S T : List (List Nat)} : ∀ {L : List (List Nat)}, (∀ c ∈ L, c ∈ S ↔ c ∈ T) → mkL S L = mkL T L
  | [], _ => rfl
  | c :: r, h => by
    rw [mkL, mkL, mk_congr fun d m => h d (List.mem_cons_of_mem _ m)]
    congr 1
    by_cases e : c ∈ S
    · rw [if_pos e, if_pos ((h c List.mem_cons_self).mp e)]
    · rw [if_neg e, if_neg fun z => e ((h c List.mem_cons_self).mpr z)]
theorem mk_pk : ∀ {L : List (List Nat)} {m : Nat}, L.Nodup → m < 2 ^ L.length → mkL (pkL L m) L = m
  | [], m, _, h => by have : m < 1 := h; show 0 = m; omega
  | c :: r, m, hn, h => by
    rw [List.length_cons, Nat.pow_succ] at h
    obtain ⟨h1, h2⟩ := List.nodup_cons.mp hn
    have hc : c ∉ pkL r (m / 2) := fun z => h1 ((pk_sub r _).subset z)
    have ih := mk_pk (L := r) (m := m / 2) h2 (by omega)
    rw [mkL]
    by_cases e : m % 2 = 1
    · have e1 : pkL (c :: r) m = c :: pkL r (m / 2) := by rw [pkL, if_pos e]
      rw [e1, if_pos List.mem_cons_self, mk_congr (S := c :: pkL r (m / 2)) (T := pkL r (m / 2)) fun d hd => ?_, ih]
      · omega
      · exact ⟨fun z => (List.mem_cons.mp z).elim (fun z => (h1 (z ▸ hd)).elim) id, fun z => List.mem_cons_of_mem _ z⟩
    · have e1 : pkL (c :: r) m = pkL r (m / 2) := by rw [pkL, if_neg e]
      rw [e1, if_neg hc, ih]
      omega
theorem kno_good {K S : List (List Nat)} (h : ∀ c ∈ S, c ∈ K) (hA : Asc S) (hn : S ≠ []) : knoF K S = none := by
  have := knoF_app (K := K) (X := S) (Y := []) h hA (by simpa using hn)
  rw [List.append_nil] at this
  rw [this]; rfl
/-! plain data: flat, equal to itself -/
theorem range_filter {α β : Type} (p : α → Bool) (g : α → β) (d : α) : ∀ L : List α, ((List.range L.length).filter fun i => p (L.getD i d)).map (fun i => g (L.getD i d)) = (L.filter p).map g := by
  intro L
  have h : (List.range L.length).map (fun i => L.getD i d) = L := by
    apply List.ext_getElem
    · simp
    · intro i h1 h2
      simp [List.getElem?_eq_getElem h2]
  have : L.filter p = ((List.range L.length).map fun i => L.getD i d).filter p := by rw [h]
  rw [this, List.filter_map, List.map_map]
  rfl
theorem range_map {α β : Type} (g : α → β) (d : α) (L : List α) : (List.range L.length).map (fun i => g (L.getD i d)) = L.map g := by
  apply List.ext_getElem
  · simp
  · intro i h1 h2
    simp only [List.length_map, List.length_range] at h1
    simp [List.getElem?_eq_getElem h1]
theorem wordF_app : ∀ {X : List (List Nat)} {c : List Nat} {r : List (List Nat)}, (∀ d ∈ X, isNm d = true) → isNm c = false → wordF (X ++ c :: r) = some c := by
  intro X c r g h
  unfold wordF
  rw [List.find?_append, (List.find?_eq_none (l := X)).mpr fun d m => by simp [g d m], Option.none_or, List.find?_cons, h]
  rfl
theorem flats_of {n : Nat} : ∀ {ds : List D}, (∀ d ∈ ds, d.flat n = true) → D.flats n ds = true
  | [], _ => by cases n <;> rfl
  | d :: r, h => by
    have h1 := h d List.mem_cons_self
    have h2 := flats_of fun e m => h e (List.mem_cons_of_mem _ m)
    simp [D.flats, h1, h2]
theorem flat_str {n : Nat} {cs : List Nat} (h : asc cs = true) : (D.str cs).flat n = true := by
  have : cs.all (· < 0x110000) = true := List.all_eq_true.mpr fun c m => by
    have := of_decide_eq_true (List.all_eq_true.mp h c m)
    exact decide_eq_true (by omega)
  cases n <;> simpa [D.flat] using this
theorem flat_tup {n : Nat} {ds : List D} (h : ∀ d ∈ ds, d.flat n = true) : (D.tup ds).flat (n + 1) = true := flats_of h
theorem flat_nms {n : Nat} {L : List (List Nat)} (h : ∀ c ∈ L, isNm c = true) : (D.tup (L.map D.str)).flat (n + 1) = true := flat_tup fun d m => by
  obtain ⟨c, hc, rfl⟩ := List.mem_map.mp m
  exact flat_str (nm_asc (h c hc))
mutual
theorem eqv_self : ∀ (n : Nat) (d : D), d.flat n = true → D.eqv d d = true
  | _, .non, _ => rfl
  | _, .bl b, _ => by show (b == b) = true; exact beq_self_eq_true b
  | _, .int i, _ => by show (i == i) = true; exact beq_self_eq_true i
  | _, .str cs, _ => by show (cs == cs) = true; exact beq_self_eq_true cs
  | n, .ref _, h => by simp [D.flat] at h
  | n, .ty _, h => by simp [D.flat] at h
  | n, .lof _, h => by simp [D.flat] at h
  | 0, .tup _, h => by simp [D.flat] at h
  | n + 1, .tup ds, h => eqvs_self n ds h
theorem eqvs_self : ∀ (n : Nat) (ds : List D), D.flats n ds = true → D.eqvs ds ds = true
  | _, [], _ => rfl
  | n, d :: r, h => by
    have h1 : d.flat n = true ∧ D.flats n r = true := by simpa [D.flats] using h
    show (D.eqv d d && D.eqvs r r) = true
    rw [eqv_self n d h1.1, eqvs_self n r h1.2]; rfl
end
theorem asc_ext : ∀ {S T : List (List Nat)}, Asc S → Asc T → (∀ c, c ∈ S ↔ c ∈ T) → S = T
  | [], [], _, _, _ => rfl
  | [], d :: T, _, _, h => nomatch ((h d).mpr List.mem_cons_self)
  | c :: S, [], _, _, h => nomatch ((h c).mp List.mem_cons_self)
  | c :: S, d :: T, hS, hT, h => by
    obtain ⟨s1, s2⟩ := List.pairwise_cons.mp hS
    obtain ⟨t1, t2⟩ := List.pairwise_cons.mp hT
    have hcd : c = d := by
      rcases List.mem_cons.mp ((h c).mp List.mem_cons_self) with e | m1
      · exact e
      rcases List.mem_cons.mp ((h d).mpr List.mem_cons_self) with e | m2
      · exact e.symm
      have a1 := t1 c m1
      have a2 := s1 d m2
      rw [lexL_asymm a1] at a2
      cases a2
    subst hcd
    congr 1
    refine asc_ext s2 t2 fun e => ⟨fun m => ?_, fun m => ?_⟩
    · rcases List.mem_cons.mp ((h e).mp (List.mem_cons_of_mem _ m)) with z | z
      · have := s1 e m; rw [z, lexL_irrefl] at this; cases this
      · exact z
    · rcases List.mem_cons.mp ((h e).mpr (List.mem_cons_of_mem _ m)) with z | z
      · have := t1 e m; rw [z, lexL_irrefl] at this; cases this
      · exact z
def sp_is_name : ASp := fun ds A q x => ∃ cs, ds = [.str cs] ∧ cs.length ≤ big ∧ q (.bl (isNm cs)) A
/-- lots with the place behind their last line -/
def pD (p : List (List Nat) × Nat) : D := .tup [.tup (p.1.map D.str), .int p.2]
def lotD (p : List (List Nat) × Nat) : D := .tup (p.1.map D.str)
theorem pl_le {L : List (List Nat)} : ∀ {k : Nat}, ∀ p ∈ plL L k, p.2 ≤ L.length
  | 0, p, m => by
    rw [List.mem_singleton.mp m]; exact Nat.zero_le _
  | k + 1, p, m => by
    obtain ⟨r, h1, h2⟩ := List.mem_flatMap.mp m
    obtain ⟨j, h3, rfl⟩ := List.mem_map.mp h2
    have := List.mem_range.mp h3
    show r.2 + j + 1 ≤ L.length
    omega
theorem pl_size {L : List (List Nat)} : ∀ {k : Nat}, ∀ p ∈ plL L k, p.1.length = k
  | 0, p, m => by
    rw [List.mem_singleton.mp m]; rfl
  | k + 1, p, m => by
    obtain ⟨r, h1, h2⟩ := List.mem_flatMap.mp m
    obtain ⟨j, h3, rfl⟩ := List.mem_map.mp h2
    show (r.1 ++ [_]).length = k + 1
    rw [List.length_append, pl_size r h1]; rfl
theorem flat_len {α β : Type} (F : α → List β) (b : Nat) : ∀ {L : List α}, (∀ a ∈ L, (F a).length ≤ b) → (L.flatMap F).length ≤ b * L.length
  | [], _ => Nat.zero_le _
  | a :: r, h => by
    rw [List.flatMap_cons, List.length_append, List.length_cons, Nat.mul_succ]
    have := h a List.mem_cons_self
    have := flat_len F b fun c m => h c (List.mem_cons_of_mem _ m)
    omega
theorem pl_len {L : List (List Nat)} (h : L.length ≤ 24) : ∀ k : Nat, (plL L k).length ≤ 24 ^ k
  | 0 => Nat.le_refl _
  | k + 1 => by
    have := flat_len (fun p : List (List Nat) × Nat => (List.range (L.length - p.2)).map fun j => (p.1 ++ [L.getD (p.2 + j) []], p.2 + j + 1)) 24 (L := plL L k) fun p m => by
      rw [List.length_map, List.length_range]; omega
    have ih := pl_len h k
    rw [Nat.pow_succ, Nat.mul_comm]
    exact Nat.le_trans this (Nat.mul_le_mul_left 24 ih)
theorem pl_big {L : List (List Nat)} (h : L.length ≤ 24) {k : Nat} (hk : k ≤ 4) : (plL L k).length ≤ 331776 :=
  Nat.le_trans (pl_len h k) (Nat.le_trans (Nat.pow_le_pow_right (by decide) hk) (by decide))
def sp_lots_of_size : ASp := fun ds A q x => ∃ (L : List (List Nat)) (k : Nat), ds = [.tup (L.map D.str), .int k] ∧ L.length ≤ 24 ∧ k ≤ 4 ∧ ∀ A', Ext A A' → q (.tup ((plL L k).map lotD)) A'
def sp_mask_end : ASp := fun ds A q x => ∃ L : List (List Nat), ds = [.tup (L.map D.str)] ∧ L.length ≤ 24 ∧ q (.int ((2 ^ L.length : Nat) : Int)) A
def sp_pick_lot : ASp := fun ds A q x => ∃ (L : List (List Nat)) (m : Nat), ds = [.tup (L.map D.str), .int m] ∧ L.length ≤ 100000 ∧ ∀ A', Ext A A' → q (.tup ((pkL L m).map D.str)) A'
def sp__law_mix : ASp := fun ds A q x => ∃ i, ds = [.int i] ∧ ∀ j, 0 ≤ j → j < 18446744073709551557 → q (.int j) A
def sp__law_unlike : ASp := fun ds A q x => ∃ (c : List Nat) (a : Addr) (L : List (List Nat)), ds = [.str c, .ref a] ∧ A a = some (.lst (L.map D.str)) ∧ L.length ≤ 100 ∧ isNm c = true ∧ ∀ c', isNm c' = true → c' ∉ L → q (.str c') A
def sp__law_lotof : ASp := fun ds A q x => ∃ (L : List (List Nat)) (m : Nat), ds = [.tup (L.map D.str), .int m] ∧ L.length ≤ 100000 ∧ ∀ A', Ext A A' → q (.tup ((pkL L m).map D.str)) A'
def gtL (s : List (List Nat)) (c : List Nat) : Bool := match s.getLast? with | none => true | some d => lexL d c
abbrev tupS (S : List (List Nat)) : D := .tup (S.map D.str)
def loS (L : List (List Nat)) (s : List (List Nat)) : List (List (List Nat)) := (L.filter (gtL s)).map fun c => s ++ [c]
def loL (L : List (List Nat)) : Nat → List (List (List Nat))
  | 0 => [[]]
  | k + 1 => (loL L k).flatMap (loS L)
theorem lo_size {L : List (List Nat)} : ∀ {k : Nat}, ∀ p ∈ loL L k, p.length = k
  | 0, p, m => by
    rw [List.mem_singleton.mp m]; rfl
  | k + 1, p, m => by
    obtain ⟨r, h1, h2⟩ := List.mem_flatMap.mp m
    obtain ⟨j, h3, rfl⟩ := List.mem_map.mp h2
    rw [List.length_append, lo_size r h1]; rfl
theorem los_len {L : List (List Nat)} (s : List (List Nat)) : (loS L s).length ≤ L.length := by
  unfold loS
  rw [List.length_map]
  exact List.length_filter_le _ _
theorem lo_len {L : List (List Nat)} (h : L.length ≤ 24) : ∀ k : Nat, (loL L k).length ≤ 24 ^ k
  | 0 => Nat.le_refl _
  | k + 1 => by
    have := flat_len (loS L) 24 (L := loL L k) fun p m => Nat.le_trans (los_len p) h
    have ih := lo_len h k
    rw [Nat.pow_succ, Nat.mul_comm]
    exact Nat.le_trans this (Nat.mul_le_mul_left 24 ih)
theorem lo_big {L : List (List Nat)} (h : L.length ≤ 24) {k : Nat} (hk : k ≤ 4) : (loL L k).length ≤ 331776 :=
  Nat.le_trans (lo_len h k) (Nat.le_trans (Nat.pow_le_pow_right (by decide) hk) (by decide))
def sp__law_lots : ASp := fun ds A q x => ∃ (L : List (List Nat)) (k : Nat), ds = [.tup (L.map D.str), .int k] ∧ L.length ≤ 24 ∧ k ≤ 4 ∧ ∀ A', Ext A A' → q (.tup ((loL L k).map tupS)) A'
def hsp__law_toldof : HSp := fun a ε ds A q x => ds = [.ref a] ∧ ((∃ v0 : D, ε.cls = "BadName" ∧ A ε.d = some (.xd [("name", v0)]) ∧ ∀ A', Ext A A' → q (.tup [.str (tl "BadName"), .tup [v0]]) A') ∨
  (∃ v0 : D, ε.cls = "BadLot" ∧ A ε.d = some (.xd [("at", v0)]) ∧ ∀ A', Ext A A' → q (.tup [.str (tl "BadLot"), .tup [v0]]) A') ∨
  (∃ v0 : D, ε.cls = "NoSuchLine" ∧ A ε.d = some (.xd [("name", v0)]) ∧ ∀ A', Ext A A' → q (.tup [.str (tl "NoSuchLine"), .tup [v0]]) A') ∨
  (∃ v0 v1 : D, ε.cls = "TooMany" ∧ A ε.d = some (.xd [("limit", v1), ("what", v0)]) ∧ ∀ A', Ext A A' → q (.tup [.str (tl "TooMany"), .tup [v0, v1]]) A') ∨
  (∃ v0 : D, ε.cls = "BadNumber" ∧ A ε.d = some (.xd [("number", v0)]) ∧ ∀ A', Ext A A' → q (.tup [.str (tl "BadNumber"), .tup [v0]]) A'))
def sp__law_equal : ASp := fun ds A q x => ∃ d n, ds = [d, d] ∧ Pl n d ∧ n < 400000 ∧ ∀ A', Ext A A' → q (.bl true) A'
def hsp__law_equal : HSp := fun _ _ => sp__law_equal
def allL (L : List (List Nat)) : List (List (List Nat)) := (List.range (2 ^ L.length)).map (pkL L)
def sp__law_doubled : ASp := fun ds A q x => ∃ (L : List (List Nat)), ds = [.tup (L.map D.str)] ∧ L.length ≤ 8 ∧ ∀ p A', A p = none → Ext A A' → A' p = some (.lst (((allL L).drop 1).map tupS)) → q (.ref p) A'
theorem pk_snoc : ∀ {X : List (List Nat)} {c : List Nat} {m : Nat}, m < 2 ^ X.length → pkL (X ++ [c]) m = pkL X m ∧ pkL (X ++ [c]) (2 ^ X.length + m) = pkL X m ++ [c]
  | [], c, m, h => by
    have : m = 0 := by have : m < 1 := h; omega
    subst this
    exact ⟨rfl, rfl⟩
  | d :: r, c, m, h => by
    rw [List.length_cons, Nat.pow_succ] at h ⊢
    obtain ⟨i1, i2⟩ := pk_snoc (X := r) (c := c) (m := m / 2) (by omega)
    have e1 : (2 ^ r.length * 2 + m) % 2 = m % 2 := by omega
    have e2 : (2 ^ r.length * 2 + m) / 2 = 2 ^ r.length + m / 2 := by omega
    constructor
    · show (if m % 2 = 1 then d :: pkL (r ++ [c]) (m / 2) else pkL (r ++ [c]) (m / 2)) = if m % 2 = 1 then d :: pkL r (m / 2) else pkL r (m / 2)
      rw [i1]
    · show (if (2 ^ r.length * 2 + m) % 2 = 1 then d :: pkL (r ++ [c]) ((2 ^ r.length * 2 + m) / 2) else pkL (r ++ [c]) ((2 ^ r.length * 2 + m) / 2)) = (if m % 2 = 1 then d :: pkL r (m / 2) else pkL r (m / 2)) ++ [c]
      rw [e1, e2, i2]
      split <;> rfl
theorem all_snoc (X : List (List Nat)) (c : List Nat) : allL (X ++ [c]) = allL X ++ (allL X).map (· ++ [c]) := by
  unfold allL
  rw [List.length_append, List.length_singleton, Nat.pow_succ, Nat.mul_two, List.range_add, List.map_append, List.map_map, List.map_map]
  congr 1
  · exact List.map_congr_left fun m hm => (pk_snoc (List.mem_range.mp hm)).1
  · exact List.map_congr_left fun m hm => (pk_snoc (List.mem_range.mp hm)).2
theorem pow8d : ∀ k : Nat, k ≤ 8 → 2 ^ k ≤ 256 := by decide +kernel
theorem all_len (X : List (List Nat)) : (allL X).length = 2 ^ X.length := by unfold allL; rw [List.length_map, List.length_range]
theorem pk_len (X : List (List Nat)) (m : Nat) : (pkL X m).length ≤ X.length := (pk_sub X m).length_le
def sp__law_store : ASp := fun ds A q x => ∃ is : List Int, ds = [.lof (is.map D.int)] ∧ ∀ l A', St A' l 0 → q (.ref l) A'
def sp__law_take : ASp := fun ds A q x => ∃ l n many, ds = [.ref l, .int many] ∧ St A l n ∧ n ≤ 1000000000000000000 ∧ many ≤ 1000000000000000000000000000000 ∧ ∀ j A', 0 ≤ j → (j < many ∨ j = 0) → Kp l A A' → St A' l (n + 1) → q (.int j) A'
def sp_check_name : ASp := fun ds A q x => ∃ cs, ds = [.str cs] ∧ cs.length ≤ big ∧ (isNm cs = true → q (.str cs) A) ∧ (isNm cs = false → ∀ d A', Ext A A' → A' d = some (.xd [("name", .str cs)]) → x ⟨"BadName", d⟩ A')
def sp_check_known_lot : ASp := fun ds A q x => ∃ (K L : List (List Nat)), ds = [.tup (K.map D.str), .tup (L.map D.str)] ∧ L.length ≤ 100000 ∧ (knoF K L = none → q (.tup (L.map D.str)) A) ∧
  (∀ cs, knoF K L = some (.inl cs) → ∀ d A', Ext A A' → A' d = some (.xd [("name", .str cs)]) → x ⟨"NoSuchLine", d⟩ A') ∧ (∀ i, knoF K L = some (.inr i) → ∀ d A', Ext A A' → A' d = some (.xd [("at", .int (i : Nat))]) → x ⟨"BadLot", d⟩ A')
def sp__law_pick : ASp := fun ds A q x => ∃ l n d xs, ds = [.ref l, d] ∧ St A l n ∧ n ≤ 1000000000000000000 ∧ Items A d xs ∧ d ≠ .ref l ∧ xs ≠ [] ∧ xs.length ≤ big ∧ ∀ y A', y ∈ xs → Kp l A A' → St A' l (n + 1) → q y A'
def sp__law_number : ASp := fun ds A q x => ∃ l n lo hi, ds = [.ref l, .int lo, .int hi] ∧ St A l n ∧ n ≤ 100000000000000000 ∧ lo ≤ hi ∧ ∀ j A', lo ≤ j → j ≤ hi → Kp l A A' → St A' l (n + 6) → q (.int j) A'
def sp_check_free_lot : ASp := fun ds A q x => ∃ L : List (List Nat), ds = [.tup (L.map D.str)] ∧ L.length ≤ 100000 ∧ (∀ c ∈ L, c.length ≤ big) ∧ (lotF L = none → q (.tup (L.map D.str)) A) ∧
  (∀ cs, lotF L = some (.inl cs) → ∀ d A', Ext A A' → A' d = some (.xd [("name", .str cs)]) → x ⟨"BadName", d⟩ A') ∧ (∀ i, lotF L = some (.inr i) → ∀ d A', Ext A A' → A' d = some (.xd [("at", .int (i : Nat))]) → x ⟨"BadLot", d⟩ A')
def sp_lot_of : ASp := fun ds A q x => ∃ (L : List (List Nat)), ds = [.tup (L.map D.str)] ∧ (∀ c ∈ L, c.length ≤ big) ∧ (∃ K : List (List Nat), K.length < 64 ∧ ∀ c ∈ L, c ∈ K) ∧
  (L = [] → ∀ d A', Ext A A' → A' d = some (.xd [("at", .int 0)]) → x ⟨"BadLot", d⟩ A') ∧
  (∀ bad, wordF L = some bad → ∀ d A', Ext A A' → A' d = some (.xd [("name", .str bad)]) → x ⟨"BadName", d⟩ A') ∧
  (wordF L = none → L ≠ [] → ∀ S A', Ext A A' → Asc S → (∀ c, c ∈ S ↔ c ∈ L) → q (.tup (S.map D.str)) A')
def sp__law_name : ASp := fun ds A q x => ∃ l n, ds = [.ref l] ∧ St A l n ∧ n ≤ 10000000000000000 ∧ ∀ cs A', isNm cs = true → Kp l A A' → St A' l (n + 20) → q (.str cs) A'
def sp__law_nonname : ASp := fun ds A q x => ∃ l n, ds = [.ref l] ∧ St A l n ∧ n ≤ 10000000000000000 ∧ ∀ cs A', cs.length ≤ 14 → asc cs = true → isNm cs = false → Kp l A A' → St A' l (n + 20) → q (.str cs) A'
def sp__law_word : ASp := fun ds A q x => ∃ (l : Addr) (n : Nat) (L : List (List Nat)) (m : Nat), ds = [.ref l, .tup (L.map D.str), .int m] ∧ St A l n ∧ n ≤ 100000000000000 ∧ L ≠ [] ∧ L.length ≤ 100000 ∧ m ≤ 300 ∧ ∀ (W : List (List Nat)) A', W.length ≤ m → (∀ c ∈ W, c ∈ L) → Kp l A A' → St A' l (n + 320) → q (.tup (W.map D.str)) A'
def sp__law_badnumber : ASp := fun ds A q x => ∃ (l : Addr) (n : Nat) (lo hi : Int), ds = [.ref l, .int lo, .int hi] ∧ St A l n ∧ n ≤ 100000000000000 ∧ -1000000 ≤ lo ∧ lo ≤ hi ∧ hi ≤ 1000000000000 ∧ ∀ (p : Addr) (j : Int) A', p ≠ l → A' p = some (.lst [.int j, .str (tl "BadNumber"), .tup [.int j]]) → ¬ (lo ≤ j ∧ j ≤ hi) → Kp l A A' → St A' l (n + 1) → q (.ref p) A'
def sp_check_lines : ASp := fun ds A q x => ∃ (L : List (List Nat)) (m : Int), ds = [.tup (L.map D.str), .int m] ∧ LinesX L m A x (q (.tup (L.map D.str)) A)
def sp__law_lines : ASp := fun ds A q x => ∃ (l : Addr) (n : Nat) (m : Nat), ds = [.ref l, .int m] ∧ St A l n ∧ n ≤ 100000000000000 ∧ 1 ≤ m ∧ m ≤ 24 ∧ ∀ (L : List (List Nat)) A', lotF L = none → L.length = m → Kp l A A' → St A' l (n + 600) → q (.tup (L.map D.str)) A'
def sp__law_badlines : ASp := fun ds A q x => ∃ (l : Addr) (n : Nat) (L : List (List Nat)) (m : Nat), ds = [.ref l, .tup (L.map D.str), .int m] ∧ St A l n ∧ n ≤ 100000000000000 ∧ lotF L = none ∧ L.length ≤ m ∧ m ≤ 24 ∧
  ∀ (p : Addr) (B : List (List Nat)) (w : List Nat) (v : D) A', p ≠ l → A' p = some (.lst [.tup (B.map D.str), .str w, v]) → BadL B m w v → B.length ≤ 60 → (∀ c ∈ B, c.length ≤ 14) → Kp l A A' → St A' l (n + 30) → q (.ref p) A'
def SpK (L S : List (List Nat)) (w : List Nat) (v : D) : Prop := (∃ cs, knoF L S = some (.inl cs) ∧ w = tl "NoSuchLine" ∧ v = .tup [.str cs]) ∨ (∃ i : Nat, knoF L S = some (.inr i) ∧ w = tl "BadLot" ∧ v = .tup [.int i])
def sp__law_lotspoilt : ASp := fun ds A q x => ∃ (l : Addr) (n : Nat) (L : List (List Nat)), ds = [.ref l, .tup (L.map D.str), .int ((2 ^ L.length : Nat) - 1 : Int)] ∧ St A l n ∧ n ≤ 10000000000000 ∧ LotL L ∧
  ∀ (p : Addr) (S : List (List Nat)) (w : List Nat) (v : D) A', p ≠ l → A' p = some (.lst [.tup (S.map D.str), .str w, v]) → SpK L S w v → S.length ≤ 60 → Kp l A A' → St A' l (n + 80) → q (.ref p) A'
def sp_lots_of : ASp := fun ds A q x => ∃ (L : List (List Nat)) (j : Int), ds = [.tup (L.map D.str), .int j] ∧ LinesX L 24 A x ((1 ≤ j → j ≤ 4 → ∀ A', Ext A A' → q (.tup ((plL L j.toNat).map lotD)) A') ∧
  (¬ (1 ≤ j ∧ j ≤ 4) → ∀ d A', Ext A A' → A' d = some (.xd [("number", .int j)]) → x ⟨"BadNumber", d⟩ A'))
def sp_pairs_of : ASp := fun ds A q x => ∃ (L : List (List Nat)), ds = [.tup (L.map D.str)] ∧ LinesX L 24 A x (∀ A', Ext A A' → q (.tup ((plL L 2).map lotD)) A')
def sp_sub_lots : ASp := fun ds A q x => ∃ (L : List (List Nat)), ds = [.tup (L.map D.str)] ∧ LinesX L 8 A x (∀ A', Ext A A' → q (.tup ((List.range (2 ^ L.length - 1)).map fun i => .tup ((pkL L (i + 1)).map D.str))) A')
def sp_mask_of : ASp := fun ds A q x => ∃ (K L : List (List Nat)), ds = [.tup (K.map D.str), .tup (L.map D.str)] ∧ L.length ≤ 100000 ∧ LinesX K 24 A x ((knoF K L = none → q (.int (mkL L K : Nat)) A) ∧
  (∀ cs, knoF K L = some (.inl cs) → ∀ d A', Ext A A' → A' d = some (.xd [("name", .str cs)]) → x ⟨"NoSuchLine", d⟩ A') ∧ (∀ i, knoF K L = some (.inr i) → ∀ d A', Ext A A' → A' d = some (.xd [("at", .int (i : Nat))]) → x ⟨"BadLot", d⟩ A'))
def sp_lot_of_mask : ASp := fun ds A q x => ∃ (L : List (List Nat)) (j : Int), ds = [.tup (L.map D.str), .int j] ∧ LinesX L 24 A x ((1 ≤ j → j < ((2 ^ L.length : Nat) : Int) → ∀ A', Ext A A' → q (.tup ((pkL L j.toNat).map D.str)) A') ∧
  (¬ (1 ≤ j ∧ j < ((2 ^ L.length : Nat) : Int)) → ∀ d A', Ext A A' → A' d = some (.xd [("number", .int j)]) → x ⟨"BadNumber", d⟩ A'))
def AskP (w : List Nat) (d m : D) (A : Ah) (q : D → Ah → Prop) (x : AX) : Prop :=
  (w = tl "check_lines" ∧ sp_check_lines [d, .int 24] A q x) ∨ (w = tl "check_most" ∧ sp_check_lines [d, m] A q x) ∨ (w = tl "lots_of" ∧ sp_lots_of [d, m] A q x) ∨ (w = tl "pairs_of" ∧ sp_pairs_of [d] A q x) ∨ (w = tl "sub_lots" ∧ sp_sub_lots [d] A q x) ∨ (w = tl "mask_of" ∧ sp_mask_of [d, m] A q x) ∨ (w = tl "lot_of_mask" ∧ sp_lot_of_mask [d, m] A q x) ∨ (w = tl "lot_of" ∧ sp_lot_of [d] A q x)
def sp__law_ask : ASp := fun ds A q x => ∃ w d m, ds = [.str w, d, m] ∧ AskP w d m A q x
def sp__law_masksgood : ASp := fun ds A q x => ∃ (l : Addr) (n : Nat) (L : List (List Nat)), ds = [.ref l, .tup (L.map D.str), .int ((2 ^ L.length : Nat) - 1 : Int)] ∧ St A l n ∧ n ≤ 10000000000000 ∧ LotL L ∧ ∀ A', Kp l A A' → St A' l (n + 60) → q (.bl true) A'
/-- what the law tells of an exception -/
def Told (e : Exn) (A : Ah) (due : D) : Prop :=
  (∃ v0, e.cls = "BadName" ∧ A e.d = some (.xd [("name", v0)]) ∧ due = .tup [.str (tl "BadName"), .tup [v0]]) ∨
  (∃ v0, e.cls = "BadLot" ∧ A e.d = some (.xd [("at", v0)]) ∧ due = .tup [.str (tl "BadLot"), .tup [v0]]) ∨
  (∃ v0, e.cls = "NoSuchLine" ∧ A e.d = some (.xd [("name", v0)]) ∧ due = .tup [.str (tl "NoSuchLine"), .tup [v0]]) ∨
  (∃ v0 v1, e.cls = "TooMany" ∧ A e.d = some (.xd [("limit", v1), ("what", v0)]) ∧ due = .tup [.str (tl "TooMany"), .tup [v0, v1]]) ∨
  (∃ v0, e.cls = "BadNumber" ∧ A e.d = some (.xd [("number", v0)]) ∧ due = .tup [.str (tl "BadNumber"), .tup [v0]])
def sp__law_refused : ASp := fun ds A q x => ∃ (w : List Nat) (d m due : D) (n : Nat), ds = [.str w, d, m, due] ∧ Pl n due ∧ n < 400000 ∧ (∀ q' x', (∀ e A', Ext A A' → Told e A' due → x' e A') → AskP w d m A q' x') ∧ ∀ A', Ext A A' → q (.bl true) A'
def sp__law_lotsgood : ASp := fun ds A q x => ∃ (L : List (List Nat)) (k : Nat), ds = [.tup (L.map D.str), .int k] ∧ LotL L ∧ 1 ≤ k ∧ k ≤ 4 ∧ ∀ A', Ext A A' → q (.bl true) A'
def sp__law_limits : ASp := fun ds A q x => ∃ (l : Addr) (n : Nat) (L : List (List Nat)), ds = [.ref l, .tup (L.map D.str)] ∧ St A l n ∧ n ≤ 10000000000000 ∧ LotL L ∧ ∀ A', Kp l A A' → St A' l (n + 400) → q (.bl true) A'
def sp__law_badthere : ASp := fun ds A q x => ∃ (l : Addr) (n : Nat) (L : List (List Nat)), ds = [.ref l, .tup (L.map D.str)] ∧ St A l n ∧ n ≤ 10000000000000 ∧ LotL L ∧ ∀ A', Kp l A A' → St A' l (n + 1000) → q (.bl true) A'
def sp__law_badbehind : ASp := fun ds A q x => ∃ (l : Addr) (n : Nat) (L : List (List Nat)), ds = [.ref l, .tup (L.map D.str), .int ((2 ^ L.length : Nat) - 1 : Int)] ∧ St A l n ∧ n ≤ 1000000000000 ∧ LotL L ∧ ∀ A', Kp l A A' → St A' l (n + 400) → q (.bl true) A'
def sp_law : ASp := fun ds A q x => ∃ is : List Int, ds = [.lof (is.map D.int)] ∧ ∀ A', q (.bl true) A'
def as_is_name_8 : AS := (aIf (aTest (aOp aNiS (aVar 1) (aC (.str (tl "abcdefghijklmnopqrstuvwxyz0123456789."))))) (aRet (aC (.bl false))) aNext)
def as_is_name_10 : AS := (aRet (aOp aNiS (aC (.str (tl ".."))) (aVar 0)))
def as_is_name_7 : AS := (aSeq (aFor (aIter (aVar 0)) (agName 1) as_is_name_8) as_is_name_10)
def as_is_name_5 : AS := (aSeq (aIf (aOrT (aTest (aOp aNiS (aOp aIx (aVar 0) (aC (.int 0))) (aC (.str (tl "abcdefghijklmnopqrstuvwxyz"))))) (aTest (aOp aEq (aOp aIx (aVar 0) (aNeg (aC (.int 1)))) (aC (.str (tl ".")))))) (aRet (aC (.bl false))) aNext) as_is_name_7)
def as_is_name_3 : AS := (aSeq (aIf (aTest (aOp aInS (aVar 0) (aC (.tup [.str (tl "first"), .str (tl "back"), .str (tl "round"), .str (tl "let"), .str (tl "tree")])))) (aRet (aC (.bl false))) aNext) as_is_name_5)
def as_is_name : AS := (aSeq (aIf (aNotT (aTest (aChain aLe aLe (aC (.int 1)) (aBlt aLen (aCons (aVar 0) aNil)) (aC (.int 12))))) (aRet (aC (.bl false))) aNext) as_is_name_3)

theorem pure_is_name (ds : List D) (A : Ah) (q : D → Ah → Prop) (x : AX) : sp_is_name ds A q x → as_is_name (endsA q x) (startA ["name", "sign"] ds) A := by
  rintro ⟨cs, rfl, hb, h⟩
  have no : isNm cs = false → q (.bl false) A := fun e => e ▸ h
  (conv => whnf)
  refine ⟨hb, ?_⟩
  (conv => whnf)
  have rest : 1 ≤ cs.length → cs.length ≤ 12 → as_is_name_3 (endsA q x) [some (.str cs), none] A := by
    intro l1 l2
    (conv => whnf)
    refine ⟨rfl, by decide, ?_⟩
    (conv => whnf)
    refine ⟨fun hk => no (isNm_kept _ hk), fun hk => ?_⟩
    have hk : inD (.str cs) keptD = false := hk
    (conv => whnf)
    obtain ⟨c, r, rfl⟩ : ∃ c r, cs = c :: r := by
      cases cs with
      | nil => cases l1
      | cons c r => exact ⟨c, r, rfl⟩
    refine ⟨hb, c, atI_zero, ?_⟩
    (conv => whnf)
    refine ⟨fun hh => ?_, fun hh => ?_⟩
    · (conv => whnf)
      refine ⟨fun _ => ?_, nofun⟩
      refine no ?_
      have : hdL (c :: r) = false := by
        have hh : (!decide (c ∈ lettersD)) = true := hh
        simpa [hdL] using hh
      unfold isNm; rw [this]; simp
    have hh : hdL (c :: r) = true := by
      have hh : (!decide (c ∈ lettersD)) = false := hh
      simpa [hdL] using hh
    obtain ⟨z, e1, _⟩ := atI_last (cs := c :: r) (by simp)
    (conv => whnf)
    refine ⟨hb, z, e1, ?_⟩
    have hz : (c :: r).getLast? = some z := by
      have : L2.atI (c :: r) (-1) = (c :: r).getLast? := by
        unfold L2.atI L2.ixN
        rw [if_neg (by omega), if_pos (by simp; omega), Option.bind_some, List.getLast?_eq_getElem?]
        congr 1
        simp
        omega
      rw [← this]; exact e1
    (conv => whnf)
    refine ⟨fun h46 => ?_, fun h46 => ?_⟩
    · refine no ?_
      have h46 : z = 46 := by
        have := of_decide_eq_true h46
        injection this
      have : lstN (c :: r) = false := by unfold lstN; rw [hz, h46]; rfl
      unfold isNm; rw [this]; simp
    have h46 : lstN (c :: r) = true := by
      have := of_decide_eq_false h46
      have hz46 : z ≠ 46 := fun e => this (by rw [e]; rfl)
      unfold lstN; rw [hz]
      simpa using hz46
    (conv => whnf)
    refine ⟨fun i Γ A' => A' = A ∧ (∃ s, Γ = [some (.str (c :: r)), s]) ∧ ∀ k, k < i → (c :: r).getD k 0 ∈ signsD, ⟨rfl, ⟨none, rfl⟩, nofun⟩, fun _ _ _ _ _ => trivial, ?_, ?_⟩
    · rintro i Γ A' (hi : i < (c :: r).length) ⟨rfl, ⟨s, rfl⟩, hall⟩
      (conv => whnf)
      refine ⟨fun hs => ?_, fun hs => ?_⟩
      · refine no ?_
        have hs : ((c :: r).getD i 0) ∉ signsD := by
          have hs : (!decide ((c :: r).getD i 0 ∈ signsD)) = true := hs
          simpa using hs
        have hm : (c :: r).getD i 0 ∈ (c :: r) := by
          rw [List.getD_eq_getElem?_getD, List.getElem?_eq_getElem hi]; exact List.getElem_mem _
        have : (c :: r).all (fun c => decide (c ∈ signsD)) = false := by
          rw [List.all_eq_false]
          exact ⟨_, hm, by simpa using hs⟩
        unfold isNm; rw [this]; simp
      · have hs : ((c :: r).getD i 0) ∈ signsD := by
          have hs : (!decide ((c :: r).getD i 0 ∈ signsD)) = false := hs
          simpa using hs
        (conv => whnf)
        refine ⟨rfl, ⟨_, rfl⟩, fun k hk => ?_⟩
        rcases Nat.lt_succ_iff_lt_or_eq.mp hk with hk | rfl
        · exact hall k hk
        · exact hs
    · rintro Γ A' ⟨rfl, ⟨s, rfl⟩, hall⟩
      have hall : ∀ k, k < (c :: r).length → (c :: r).getD k 0 ∈ signsD := hall
      (conv => whnf)
      have : isNm (c :: r) = !inL (tl "..") (c :: r) := by
        have ha : (c :: r).all (fun c => decide (c ∈ signsD)) = true := by
          rw [List.all_eq_true]
          intro y hy
          obtain ⟨k, hk, rfl⟩ := List.mem_iff_getElem.mp hy
          have := hall k hk
          rw [List.getD_eq_getElem?_getD, List.getElem?_eq_getElem hk] at this
          simpa using this
        unfold isNm
        rw [ha, h46, hh, hk]
        simp only [l1, l2, decide_true, Bool.true_and, Bool.not_false]
      rw [this] at h
      exact h
  refine ⟨fun h1 => ?_, fun h1 => ?_⟩
  · (conv => whnf)
    have h1 : 1 ≤ cs.length := by have := of_decide_eq_true h1; omega
    refine ⟨fun h2 => ?_, fun h2 => ?_⟩
    · refine no (isNm_long _ ?_)
      have h2 : (!decide ((cs.length : Int) ≤ 12)) = true := h2
      simp at h2; omega
    · refine rest h1 ?_
      have h2 : (!decide ((cs.length : Int) ≤ 12)) = false := h2
      simp at h2; omega
  · (conv => whnf)
    refine ⟨fun _ => no ?_, nofun⟩
    have : cs.length = 0 := by have := of_decide_eq_false h1; omega
    rw [List.length_eq_zero_iff.mp this]; rfl
theorem len_is_name (ds : List D) (A : Ah) (q : D → Ah → Prop) (x : AX) : sp_is_name ds A q x → ds.length = 1 := by
  rintro ⟨cs, rfl, _⟩; rfl
def as_lots_of_size_3 : AS := (aAsg (aLc2 (aIter (aVar 2)) (agTup 2 (agCons (agName 4) (agCons (agName 5) agNil))) aYes (aRng2 (aCons (aVar 5) (aCons (aBlt aLen (aCons (aVar 0) aNil)) aNil))) (agName 6) aYes (aTup (aCons (aOp aAdd (aVar 4) (aTup (aCons (aOp aIx (aVar 0) (aVar 6)) aNil))) (aCons (aOp aAdd (aVar 6) (aC (.int 1))) aNil))) [4, 5, 6] [6]) (agName 2))
def as_lots_of_size_4 : AS := (aRet (aBlt aTuple (aCons (aLc (aIter (aVar 2)) (agTup 2 (agCons (agName 4) (agCons (agName 5) agNil))) aYes (aVar 4) [4, 5]) aNil)))
def as_lots_of_size_2 : AS := (aSeq (aFor (aRng1 (aCons (aVar 1) aNil)) (agName 3) as_lots_of_size_3) as_lots_of_size_4)
def as_lots_of_size : AS := (aSeq (aAsg (aLst (aCons (aTup (aCons (aTup aNil) (aCons (aC (.int 0)) aNil))) aNil)) (agName 2)) as_lots_of_size_2)

theorem range_flat {α β : Type} [Inhabited α] (F : α → List β) (d : α) : ∀ L : List α, ((List.range L.length).flatMap fun i => F (L.getD i d)) = L.flatMap F := by
  intro L
  have h : (List.range L.length).map (fun i => L.getD i d) = L := by
    apply List.ext_getElem
    · simp
    · intro i h1 h2
      simp [List.getElem?_eq_getElem h2]
  have : L.flatMap F = ((List.range L.length).map fun i => L.getD i d).flatMap F := by rw [h]
  rw [this, List.flatMap_map]
theorem pure_lots_of_size (ds : List D) (A : Ah) (q : D → Ah → Prop) (x : AX) : sp_lots_of_size ds A q x → as_lots_of_size (endsA q x) (startA ["lines", "size", "found", "spare", "lot", "start", "at"] ds) A := by
  rintro ⟨L, k, rfl, hl, hk, h⟩
  ((repeat ((conv => whnf); first | (refine ⟨?_, fun _ => ?_⟩; · (intro z; cases z)) | (refine ⟨fun _ => ?_, ?_⟩; rotate_left; · (intro z; cases z)) | (refine ⟨?_, fun _ => ?_⟩; · (intro z; exact absurd z (by decide))) | (refine ⟨fun _ => ?_, ?_⟩; rotate_left; · (intro z; exact absurd z (by decide))) | refine ⟨Nat.le_of_ble_eq_true rfl, ?_⟩ | refine ⟨_, atI_zero', ?_⟩ | refine ⟨_, atI_one', ?_⟩ | (refine ⟨_, rfl, ?_, ?_⟩; · decide) | (refine ⟨fun _ => ?_, ?_⟩; rotate_left; · (intro z; rename_i h; first | cases h.symm.trans z | cases z.symm.trans h)) | (apply Exists.intro; apply And.intro; (· assumption); apply And.intro; (· decide)) | (apply And.intro; · (apply Exists.intro; assumption)) | (apply Exists.intro; apply And.intro; (· assumption); refine ⟨_, atI_zero', ?_⟩) | (apply Exists.intro; apply And.intro; · assumption))); (try (conv => whnf)))
  intro p hp
  ((repeat ((conv => whnf); first | (refine ⟨?_, fun _ => ?_⟩; · (intro z; cases z)) | (refine ⟨fun _ => ?_, ?_⟩; rotate_left; · (intro z; cases z)) | (refine ⟨?_, fun _ => ?_⟩; · (intro z; exact absurd z (by decide))) | (refine ⟨fun _ => ?_, ?_⟩; rotate_left; · (intro z; exact absurd z (by decide))) | refine ⟨Nat.le_of_ble_eq_true rfl, ?_⟩ | refine ⟨_, atI_zero', ?_⟩ | refine ⟨_, atI_one', ?_⟩ | (refine ⟨_, rfl, ?_, ?_⟩; · decide) | (refine ⟨fun _ => ?_, ?_⟩; rotate_left; · (intro z; rename_i h; first | cases h.symm.trans z | cases z.symm.trans h)) | (apply Exists.intro; apply And.intro; (· assumption); apply And.intro; (· decide)) | (apply And.intro; · (apply Exists.intro; assumption)) | (apply Exists.intro; apply And.intro; (· assumption); refine ⟨_, atI_zero', ?_⟩) | (apply Exists.intro; apply And.intro; · assumption))); (try (conv => whnf)))
  refine ⟨by omega, ?_⟩
  refine ⟨fun i Γ A' => ∃ (p : Addr) (a : Option D), Γ = [some (.tup (L.map D.str)), some (.int k), some (.ref p), a, none, none, none] ∧ A' p = some (.lst ((plL L i).map pD)) ∧ Ext A A', ⟨p, _, rfl, updA_same, .new hp⟩, fun _ _ _ _ _ => trivial, ?_, ?_⟩
  · rintro i Γ A1 (hi : i < ((k : Int)).toNat) ⟨p, a, rfl, e, G⟩
    have hE := pl_big hl (show i + 1 ≤ 4 by omega)
    have hE0 := pl_big hl (show i ≤ 4 by omega)
    have hle := pl_le (L := L) (k := i)
    have hsz := pl_size (L := L) (k := i)
    have hstep : plL L (i + 1) = (plL L i).flatMap fun p => (List.range (L.length - p.2)).map fun j => (p.1 ++ [L.getD (p.2 + j) []], p.2 + j + 1) := rfl
    generalize plL L i = E at e hE0 hle hsz hstep
    (conv => whnf)
    refine ⟨_, e, ?_⟩
    have hflat : ((List.range (E.map pD).length).flatMap fun i => (List.range (L.length - (E.getD i ([], 0)).2)).map fun j => pD ((E.getD i ([], 0)).1 ++ [L.getD ((E.getD i ([], 0)).2 + j) []], (E.getD i ([], 0)).2 + j + 1)) = (plL L (i + 1)).map pD := by
      rw [List.length_map, range_flat (F := fun p : List (List Nat) × Nat => (List.range (L.length - p.2)).map fun j => pD (p.1 ++ [L.getD (p.2 + j) []], p.2 + j + 1)), hstep, List.map_flatMap]
      congr 1
      funext p
      rw [List.map_map]
      rfl
    refine lc2_of (it := ⟨some (p, E.map pD), (E.map pD).length, fun i => (E.map pD).getD i .non⟩)
      (fun t => [some (.tup (L.map D.str)), some (.int k), some (.ref p), some (.int (0 + (i : Int))), some (.tup ((E.getD t ([], 0)).1.map D.str)), some (.int ((E.getD t ([], 0)).2 : Nat)), none])
      (fun i => L.length - (E.getD i ([], 0)).2) (fun i j => .int (((E.getD i ([], 0)).2 : Nat) + (j : Int))) (fun i j => pD ((E.getD i ([], 0)).1 ++ [L.getD ((E.getD i ([], 0)).2 + j) []], (E.getD i ([], 0)).2 + j + 1)) (fun A' G' => G' p _ e) ?_ ?_ ?_ ?_
    · rw [hflat, List.length_map, big_eq]; omega
    · intro t A' κ sk ht G' hκ
      have ht : t < E.length := by rw [show _ = (E.map pD).length from rfl, List.length_map] at ht; exact ht
      have hκ : κ [some (.tup (L.map D.str)), some (.int k), some (.ref p), some (.int (0 + (i : Int))), some (.tup ((E.getD t ([], 0)).1.map D.str)), some (.int ((E.getD t ([], 0)).2 : Nat)), none] ⟨none, L.length - (E.getD t ([], 0)).2, fun j => .int (((E.getD t ([], 0)).2 : Nat) + (j : Int))⟩ A' := hκ
      show agTup 2 _ ((E.map pD).getD t .non) _ _ _
      rw [map_getD _ ht]
      rw [List.getD_eq_getElem?_getD, List.getElem?_eq_getElem ht] at hκ
      have hb := hle _ (List.getElem_mem ht)
      generalize E[t] = b at hκ hb ⊢
      obtain ⟨b1, b2⟩ := b
      (conv => whnf)
      refine ⟨rfl, ?_⟩
      (conv => whnf)
      refine ⟨rfl, ?_⟩
      (repeat ((conv => whnf); first | (refine ⟨?_, fun _ => ?_⟩; · (intro z; cases z)) | (refine ⟨fun _ => ?_, ?_⟩; rotate_left; · (intro z; cases z)) | (refine ⟨?_, fun _ => ?_⟩; · (intro z; exact absurd z (by decide))) | (refine ⟨fun _ => ?_, ?_⟩; rotate_left; · (intro z; exact absurd z (by decide)))))
      refine ⟨⟨by omega, by omega, by rw [List.length_map]; omega, by rw [List.length_map]; omega⟩, ?_⟩
      rw [List.length_map, show ((L.length : Int) - (b2 : Int)).toNat = L.length - b2 by omega]
      exact hκ
    · intro t j A' κ sk ht hj G' hκ
      have hj : j < L.length - (E.getD t ([], 0)).2 := hj
      have ht : t < E.length := by rw [show _ = (E.map pD).length from rfl, List.length_map] at ht; exact ht
      have hb1 : (E.getD t ([], 0)).1.length = i := by rw [List.getD_eq_getElem?_getD, List.getElem?_eq_getElem ht]; exact hsz _ (List.getElem_mem ht)
      generalize E.getD t ([], 0) = b at hj hκ hb1 ⊢
      obtain ⟨b1, b2⟩ := b
      have hx : L2.atI (L.map D.str) ((b2 : Nat) + (j : Int)) = some (.str (L.getD (b2 + j) [])) := by
        have hlt : b2 + j < L.length := by have : j < L.length - b2 := hj; omega
        rw [List.getD_eq_getElem?_getD, List.getElem?_eq_getElem hlt, ← Int.natCast_add]
        exact atI_map _ hlt
      (repeat ((conv => whnf); first | (refine ⟨?_, fun _ => ?_⟩; · (intro z; cases z)) | (refine ⟨fun _ => ?_, ?_⟩; rotate_left; · (intro z; cases z)) | (refine ⟨?_, fun _ => ?_⟩; · (intro z; exact absurd z (by decide))) | (refine ⟨fun _ => ?_, ?_⟩; rotate_left; · (intro z; exact absurd z (by decide)))))
      refine ⟨_, hx, ?_⟩
      ((repeat ((conv => whnf); first | (refine ⟨?_, fun _ => ?_⟩; · (intro z; cases z)) | (refine ⟨fun _ => ?_, ?_⟩; rotate_left; · (intro z; cases z)) | (refine ⟨?_, fun _ => ?_⟩; · (intro z; exact absurd z (by decide))) | (refine ⟨fun _ => ?_, ?_⟩; rotate_left; · (intro z; exact absurd z (by decide))) | refine ⟨Nat.le_of_ble_eq_true rfl, ?_⟩ | refine ⟨_, atI_zero', ?_⟩ | refine ⟨_, atI_one', ?_⟩ | (refine ⟨_, rfl, ?_, ?_⟩; · decide) | (refine ⟨fun _ => ?_, ?_⟩; rotate_left; · (intro z; rename_i h; first | cases h.symm.trans z | cases z.symm.trans h)) | (apply Exists.intro; apply And.intro; (· assumption); apply And.intro; (· decide)) | (apply And.intro; · (apply Exists.intro; assumption)) | (apply Exists.intro; apply And.intro; (· assumption); refine ⟨_, atI_zero', ?_⟩) | (apply Exists.intro; apply And.intro; · assumption))); (try (conv => whnf)))
      refine ⟨by rw [List.length_map, big_eq]; have : b1.length = i := hb1; show b1.length + 1 ≤ _; omega, ?_⟩
      ((repeat ((conv => whnf); first | (refine ⟨?_, fun _ => ?_⟩; · (intro z; cases z)) | (refine ⟨fun _ => ?_, ?_⟩; rotate_left; · (intro z; cases z)) | (refine ⟨?_, fun _ => ?_⟩; · (intro z; exact absurd z (by decide))) | (refine ⟨fun _ => ?_, ?_⟩; rotate_left; · (intro z; exact absurd z (by decide))) | refine ⟨Nat.le_of_ble_eq_true rfl, ?_⟩ | refine ⟨_, atI_zero', ?_⟩ | refine ⟨_, atI_one', ?_⟩ | (refine ⟨_, rfl, ?_, ?_⟩; · decide) | (refine ⟨fun _ => ?_, ?_⟩; rotate_left; · (intro z; rename_i h; first | cases h.symm.trans z | cases z.symm.trans h)) | (apply Exists.intro; apply And.intro; (· assumption); apply And.intro; (· decide)) | (apply And.intro; · (apply Exists.intro; assumption)) | (apply Exists.intro; apply And.intro; (· assumption); refine ⟨_, atI_zero', ?_⟩) | (apply Exists.intro; apply And.intro; · assumption))); (try (conv => whnf)))
      have e2 : D.tup (b1.map D.str ++ [.str (L.getD (b2 + j) [])]) = .tup ((b1 ++ [L.getD (b2 + j) []]).map D.str) := by simp
      have e3 : ((b2 : Nat) : Int) + (j : Int) + 1 = ((b2 + j + 1 : Nat) : Int) := by omega
      show κ (.tup [.tup (b1.map D.str ++ [.str (L.getD (b2 + j) [])]), .int (((b2 : Nat) : Int) + (j : Int) + 1)]) A'
      rw [e2, e3]
      exact hκ
    · rw [hflat]
      intro p2 hp2
      (conv => whnf)
      exact ⟨p2, _, rfl, updA_same, G.trans (.new hp2)⟩
  · rintro Γ A1 ⟨p, a, rfl, e, G⟩
    have e : A1 p = some (.lst ((plL L ((k : Int)).toNat).map pD)) := e
    rw [Int.toNat_natCast] at e
    have hE0 := pl_big hl hk
    generalize plL L k = E at e hE0 h
    (conv => whnf)
    refine ⟨_, e, ?_⟩
    have hm : ((List.range (E.map pD).length).map fun t => lotD (E.getD t ([], 0))) = E.map lotD := by
      rw [List.length_map]
      apply List.ext_getElem
      · simp
      · intro i h1 h2
        simp only [List.length_map, List.length_range] at h1
        simp [List.getElem?_eq_getElem h1]
    refine lc_ofS (it := ⟨some (p, E.map pD), (E.map pD).length, fun i => (E.map pD).getD i .non⟩) (fun t => lotD (E.getD t ([], 0))) (fun A' G' => G' p _ e) (by show (E.map pD).length ≤ _; rw [List.length_map, big_eq]; omega) ?_ ?_
    · intro t A' κ sk ht G' hκ
      have ht : t < E.length := by rw [show _ = (E.map pD).length from rfl, List.length_map] at ht; exact ht
      have hκ : κ (lotD (E.getD t ([], 0))) A' := hκ
      show agTup 2 _ ((E.map pD).getD t .non) _ _ _
      rw [map_getD _ ht]
      rw [List.getD_eq_getElem?_getD, List.getElem?_eq_getElem ht] at hκ
      generalize E[t] = b at hκ ⊢
      obtain ⟨b1, b2⟩ := b
      (conv => whnf)
      refine ⟨rfl, ?_⟩
      (conv => whnf)
      refine ⟨rfl, ?_⟩
      (repeat ((conv => whnf); first | (refine ⟨?_, fun _ => ?_⟩; · (intro z; cases z)) | (refine ⟨fun _ => ?_, ?_⟩; rotate_left; · (intro z; cases z)) | (refine ⟨?_, fun _ => ?_⟩; · (intro z; exact absurd z (by decide))) | (refine ⟨fun _ => ?_, ?_⟩; rotate_left; · (intro z; exact absurd z (by decide)))))
      exact hκ
    · rw [show (⟨some (p, E.map pD), (E.map pD).length, fun i => (E.map pD).getD i .non⟩ : ItA).n = (E.map pD).length from rfl, hm]
      intro p2 hp2
      (conv => whnf)
      refine ⟨_, updA_same, h _ (G.trans (.new hp2))⟩
theorem len_lots_of_size (ds : List D) (A : Ah) (q : D → Ah → Prop) (x : AX) : sp_lots_of_size ds A q x → ds.length = 2 := by
  rintro ⟨L, k, rfl, _⟩; rfl
def as_mask_end_3 : AS := (aAsg (aOp aMul (aVar 1) (aC (.int 2))) (agName 1))
def as_mask_end_2 : AS := (aSeq (aFor (aRng1 (aCons (aBlt aLen (aCons (aVar 0) aNil)) aNil)) (agName 2) as_mask_end_3) (aRet (aVar 1)))
def as_mask_end : AS := (aSeq (aAsg (aC (.int 1)) (agName 1)) as_mask_end_2)

theorem pow24m : ∀ k : Nat, k ≤ 24 → 2 ^ k ≤ 16777216 := by decide +kernel
theorem pure_mask_end (ds : List D) (A : Ah) (q : D → Ah → Prop) (x : AX) : sp_mask_end ds A q x → as_mask_end (endsA q x) (startA ["lines", "end", "spare"] ds) A := by
  rintro ⟨L, rfl, hl, h⟩
  (conv => whnf)
  refine ⟨by rw [List.length_map]; omega, fun i Γ A' => ∃ a, Γ = [some (.tup (L.map D.str)), some (.int ((2 ^ i : Nat) : Int)), a] ∧ A' = A, ⟨_, rfl, rfl⟩, fun _ _ _ _ _ => trivial, ?_, ?_⟩
  · rintro i Γ A1 (hi : i < ((L.map D.str).length : Int).toNat) ⟨a, rfl, rfl⟩
    rw [List.length_map] at hi
    have hp := pow24m i (by omega)
    have hsm : SmallI ((2 ^ i : Nat) : Int) := by
      generalize 2 ^ i = t at hp
      exact small128 (by omega) (by omega)
    (conv => whnf)
    refine ⟨hsm, small128 (by decide) (by decide), ?_⟩
    exact ⟨some (.int (0 + (i : Int))), by rw [show ((2 ^ (i + 1) : Nat) : Int) = ((2 ^ i : Nat) : Int) * 2 by rw [Nat.pow_succ]; rfl]; rfl, rfl⟩
  · rintro Γ A1 ⟨a, rfl, rfl⟩
    show q (.int ((2 ^ ((L.map D.str).length : Int).toNat : Nat) : Int)) _
    rw [List.length_map, Int.toNat_natCast]
    exact h
theorem len_mask_end (ds : List D) (A : Ah) (q : D → Ah → Prop) (x : AX) : sp_mask_end ds A q x → ds.length = 1 := by
  rintro ⟨L, rfl, _⟩; rfl
def as_pick_lot_6 : AS := (aAsg (aOp aDiv (aVar 3) (aC (.int 2))) (agName 3))
def as_pick_lot_4 : AS := (aSeq (aIf (aTest (aOp aEq (aOp aMod (aVar 3) (aC (.int 2))) (aC (.int 1)))) (aDrop (aMethL aAppend (aVar 2) (aCons (aVar 4) aNil))) aNext) as_pick_lot_6)
def as_pick_lot_7 : AS := (aRet (aBlt aTuple (aCons (aVar 2) aNil)))
def as_pick_lot_3 : AS := (aSeq (aFor (aIter (aVar 0)) (agName 4) as_pick_lot_4) as_pick_lot_7)
def as_pick_lot_2 : AS := (aSeq (aAsg (aVar 1) (agName 3)) as_pick_lot_3)
def as_pick_lot : AS := (aSeq (aAsg (aLst aNil) (agName 2)) as_pick_lot_2)

theorem pure_pick_lot (ds : List D) (A : Ah) (q : D → Ah → Prop) (x : AX) : sp_pick_lot ds A q x → as_pick_lot (endsA q x) (startA ["lines", "number", "picked", "rest", "name"] ds) A := by
  rintro ⟨L, m, rfl, hl, h⟩
  (conv => whnf)
  refine ⟨Nat.le_of_ble_eq_true rfl, fun p hp => ?_⟩
  (conv => whnf)
  refine ⟨fun i Γ A' => ∃ (k : Nat) (S : List (List Nat)) (a : Option D), Γ = [some (.tup (L.map D.str)), some (.int m), some (.ref p), some (.int k), a] ∧ Ext A A' ∧ A' p = some (.lst (S.map D.str)) ∧ S ++ pkL (L.drop i) k = pkL L m ∧ S.length ≤ i, ⟨m, [], _, rfl, .new hp, updA_same, rfl, Nat.le_refl _⟩, fun _ _ _ _ _ => trivial, ?_, ?_⟩
  · rintro i Γ A' (hi : i < (L.map D.str).length) ⟨k, S, a, rfl, G, e, hS, hn⟩
    rw [List.length_map] at hi
    show agName 4 ((L.map D.str).getD i .non) _ _ _
    rw [map_getD _ hi]
    have hd : L.drop i = L[i] :: L.drop (i + 1) := List.drop_eq_getElem_cons hi
    generalize L[i] = c at hd ⊢
    rw [hd, pkL] at hS
    (conv => whnf)
    refine ⟨by decide, ?_⟩
    (conv => whnf)
    refine ⟨fun ho => ?_, fun ho => ?_⟩
    · have ho := of_decide_eq_true ho
      rw [if_pos (by omega)] at hS
      (conv => whnf)
      refine ⟨⟨_, e⟩, ?_⟩
      (conv => whnf)
      refine ⟨_, e, by rw [List.length_map, big_eq]; omega, ?_⟩
      (conv => whnf)
      refine ⟨by decide, small128 (by decide) (by decide), ?_⟩
      exact ⟨k / 2, S ++ [c], _, rfl, G.upd hp, by rw [updA_same]; simp, by rw [List.append_assoc]; exact hS, by simp; omega⟩
    · have ho := of_decide_eq_false ho
      rw [if_neg (by omega)] at hS
      (conv => whnf)
      refine ⟨by decide, small128 (by decide) (by decide), ?_⟩
      exact ⟨k / 2, S, _, rfl, G, e, hS, by omega⟩
  · rintro Γ A' ⟨k, S, a, rfl, G, e, hS, hn⟩
    have hS : S ++ pkL (L.drop (L.map D.str).length) k = pkL L m := hS
    rw [List.length_map, List.drop_length] at hS
    have hS : S ++ [] = pkL L m := hS
    rw [List.append_nil] at hS
    (conv => whnf)
    exact ⟨_, e, by rw [hS]; exact h A' G⟩
theorem len_pick_lot (ds : List D) (A : Ah) (q : D → Ah → Prop) (x : AX) : sp_pick_lot ds A q x → ds.length = 2 := by
  rintro ⟨L, m, rfl, _⟩; rfl
def as__law_mix_5 : AS := (aRet (aOp aMod (aBlt aInt (aCons (aOp aAdd (aOp aAdd (aOp aMul (aOp aDiv (aVar 2) (aC (.int 65536))) (aC (.int 40503))) (aOp aMul (aVar 2) (aC (.int 2654435761)))) (aC (.int 668265263))) aNil)) (aVar 1)))
def as__law_mix_4 : AS := (aSeq (aAsg (aOp aMod (aBlt aInt (aCons (aOp aAdd (aOp aAdd (aOp aMul (aVar 2) (aVar 2)) (aOp aMul (aOp aDiv (aVar 2) (aC (.int 4294967296))) (aC (.int 2246822519)))) (aC (.int 3266489917))) aNil)) (aVar 1)) (agName 2)) as__law_mix_5)
def as__law_mix_3 : AS := (aSeq (aAsg (aOp aMod (aBlt aInt (aCons (aOp aAdd (aOp aMul (aVar 2) (aC (.int 6364136223846793005))) (aC (.int 1442695040888963407))) aNil)) (aVar 1)) (agName 2)) as__law_mix_4)
def as__law_mix_2 : AS := (aSeq (aAsg (aOp aMod (aBlt aInt (aCons (aVar 0) aNil)) (aVar 1)) (agName 2)) as__law_mix_3)
def as__law_mix : AS := (aSeq (aAsg (aC (.int 18446744073709551557)) (agName 1)) as__law_mix_2)

theorem pure__law_mix (ds : List D) (A : Ah) (q : D → Ah → Prop) (x : AX) : sp__law_mix ds A q x → as__law_mix (endsA q x) (startA ["number", "large", "value"] ds) A := by
  rintro ⟨i, rfl, h⟩
  repeat (
    (conv => whnf)
    refine ⟨?_, ?_⟩
    · first | exact small_mod | exact small_mdiv | exact small_mdiv2 | exact small128 (by decide) (by decide) | decide)
  exact h _ mod_lo mod_hi
theorem len__law_mix (ds : List D) (A : Ah) (q : D → Ah → Prop) (x : AX) : sp__law_mix ds A q x → ds.length = 1 := by
  rintro ⟨i, rfl, h⟩; rfl
def as__law_unlike_4 : AS := (aIf (aTest (aOp aNiS (aOp aAdd (aC (.str (tl "q"))) (aBlt aStr (aCons (aVar 2) aNil))) (aVar 1))) (aRet (aOp aAdd (aC (.str (tl "q"))) (aBlt aStr (aCons (aVar 2) aNil)))) aNext)
def as__law_unlike_3 : AS := (aSeq (aFor (aRng1 (aCons (aOp aAdd (aBlt aLen (aCons (aVar 1) aNil)) (aC (.int 1))) aNil)) (agName 2) as__law_unlike_4) (aRet (aC (.str (tl "q")))))
def as__law_unlike : AS := (aSeq (aIf (aTest (aOp aNiS (aVar 0) (aVar 1))) (aRet (aVar 0)) aNext) as__law_unlike_3)

/-! the names q0, q1, .. -/
def qN (k : Nat) : List Nat := tl "q" ++ decN k
theorem qN_nm : ∀ k : Nat, k < 102 → isNm (qN k) = true := fun k h => nm_num 113 (by decide) k (by omega)
theorem qN_nd : ((List.range 102).map qN).Nodup := by decide +kernel
theorem pure__law_unlike (ds : List D) (A : Ah) (q : D → Ah → Prop) (x : AX) : sp__law_unlike ds A q x → as__law_unlike (endsA q x) (startA ["name", "found", "k"] ds) A := by
  rintro ⟨c, a, L, rfl, ha, hl, hc, h⟩
  (conv => whnf)
  refine ⟨_, ha, rfl, sc_strs L, ?_⟩
  (conv => whnf)
  refine ⟨fun hm => h c hc (inD_strF.mp (by simpa using hm)), fun _ => ?_⟩
  (conv => whnf)
  refine ⟨_, ha, ?_⟩
  (conv => whnf)
  refine ⟨by rw [List.length_map]; omega, fun i Γ A' => (∃ z, Γ = [some (.str c), some (.ref a), z]) ∧ A' = A ∧ ∀ j, j < i → qN j ∈ L, ⟨⟨_, rfl⟩, rfl, nofun⟩, fun _ _ _ _ _ => trivial, ?_, ?_⟩
  · rintro i Γ A' (hi : i < (((L.map D.str).length : Int) + 1).toNat) ⟨⟨z, rfl⟩, rfl, hj⟩
    rw [List.length_map] at hi
    have hk : i < 102 := by omega
    have hlog : ((0 : Int) + (i : Int)).natAbs.log2 < 1920 := by
      have : ((0 : Int) + (i : Int)).natAbs < 128 := by omega
      by_cases hz : ((0 : Int) + (i : Int)).natAbs = 0
      · rw [hz]; decide
      · have := (Nat.log2_lt (n := ((0 : Int) + (i : Int)).natAbs) (k := 7) hz).mpr this
        omega
    have hlen : (tl "q" ++ decN (0 + (i : Int))).length ≤ big := by
      have := (decN_int (i := 0 + (i : Int)) (by omega) (by omega)).1
      rw [List.length_append, big_eq]
      have : (tl "q").length = 1 := rfl
      omega
    have hq : tl "q" ++ decN (0 + (i : Int)) = qN i := by rw [Int.zero_add]; rfl
    rw [List.length_append] at hlen
    (conv => whnf)
    refine ⟨hlog, ?_⟩
    (conv => whnf)
    refine ⟨hlen, ?_⟩
    (conv => whnf)
    refine ⟨_, ha, rfl, sc_strs L, ?_⟩
    (conv => whnf)
    refine ⟨fun hm => ?_, fun hm => ?_⟩
    · have hm : (!inD (.str (tl "q" ++ decN (0 + (i : Int)))) (L.map D.str)) = true := hm
      rw [hq] at hm
      have hm := inD_strF.mp (by simpa using hm)
      (conv => whnf)
      refine ⟨hlog, ?_⟩
      (conv => whnf)
      refine ⟨hlen, ?_⟩
      show q (.str (tl "q" ++ decN (0 + (i : Int)))) A'
      rw [hq]
      exact h _ (qN_nm i hk) hm
    · have hm : (!inD (.str (tl "q" ++ decN (0 + (i : Int)))) (L.map D.str)) = false := hm
      rw [hq] at hm
      have hm := inD_str.mp (by simpa using hm)
      refine ⟨⟨_, rfl⟩, rfl, fun j hj2 => ?_⟩
      by_cases e : j = i
      · exact e ▸ hm
      · exact hj j (by omega)
  · rintro Γ A' ⟨_, _, hj⟩
    exfalso
    have hj : ∀ j, j < (((L.map D.str).length : Int) + 1).toNat → qN j ∈ L := hj
    rw [List.length_map] at hj
    have h1 : ((List.range (L.length + 1)).map qN).Nodup := by
      have : (List.range (L.length + 1)).Sublist (List.range 102) := List.range_sublist.mpr (by omega)
      exact qN_nd.sublist (this.map qN)
    have := nodup_len h1 fun c m => by
      obtain ⟨j, hm, rfl⟩ := List.mem_map.mp m
      exact hj j (by have := List.mem_range.mp hm; omega)
    rw [List.length_map, List.length_range] at this
    omega
theorem len__law_unlike (ds : List D) (A : Ah) (q : D → Ah → Prop) (x : AX) : sp__law_unlike ds A q x → ds.length = 2 := by
  rintro ⟨c, a, L, rfl, _⟩; rfl
def as__law_lotof_5 : AS := (aAsg (aOp aDiv (aVar 1) (aC (.int 2))) (agName 1))
def as__law_lotof_3 : AS := (aSeq (aIf (aTest (aOp aEq (aOp aMod (aBlt aInt (aCons (aVar 1) aNil)) (aC (.int 2))) (aC (.int 1)))) (aDrop (aMethL aAppend (aVar 2) (aCons (aVar 3) aNil))) aNext) as__law_lotof_5)
def as__law_lotof_6 : AS := (aRet (aBlt aTuple (aCons (aVar 2) aNil)))
def as__law_lotof_2 : AS := (aSeq (aFor (aIter (aVar 0)) (agName 3) as__law_lotof_3) as__law_lotof_6)
def as__law_lotof : AS := (aSeq (aAsg (aLst aNil) (agName 2)) as__law_lotof_2)

theorem pure__law_lotof (ds : List D) (A : Ah) (q : D → Ah → Prop) (x : AX) : sp__law_lotof ds A q x → as__law_lotof (endsA q x) (startA ["lines", "number", "found", "line"] ds) A := by
  rintro ⟨L, m, rfl, hl, h⟩
  (conv => whnf)
  refine ⟨Nat.le_of_ble_eq_true rfl, fun p hp => ?_⟩
  (conv => whnf)
  refine ⟨fun i Γ A' => ∃ (k : Nat) (S : List (List Nat)) (a : Option D), Γ = [some (.tup (L.map D.str)), some (.int k), some (.ref p), a] ∧ Ext A A' ∧ A' p = some (.lst (S.map D.str)) ∧ S ++ pkL (L.drop i) k = pkL L m ∧ S.length ≤ i, ⟨m, [], _, rfl, .new hp, updA_same, rfl, Nat.le_refl _⟩, fun _ _ _ _ _ => trivial, ?_, ?_⟩
  · rintro i Γ A' (hi : i < (L.map D.str).length) ⟨k, S, a, rfl, G, e, hS, hn⟩
    rw [List.length_map] at hi
    show agName 3 ((L.map D.str).getD i .non) _ _ _
    rw [map_getD _ hi]
    have hd : L.drop i = L[i] :: L.drop (i + 1) := List.drop_eq_getElem_cons hi
    generalize L[i] = c at hd ⊢
    rw [hd, pkL] at hS
    (conv => whnf)
    refine ⟨by decide, ?_⟩
    (conv => whnf)
    refine ⟨fun ho => ?_, fun ho => ?_⟩
    · have ho := of_decide_eq_true ho
      rw [if_pos (by omega)] at hS
      (conv => whnf)
      refine ⟨⟨_, e⟩, ?_⟩
      (conv => whnf)
      refine ⟨_, e, by rw [List.length_map, big_eq]; omega, ?_⟩
      (conv => whnf)
      refine ⟨by decide, small128 (by decide) (by decide), ?_⟩
      exact ⟨k / 2, S ++ [c], _, rfl, G.upd hp, by rw [updA_same]; simp, by rw [List.append_assoc]; exact hS, by simp; omega⟩
    · have ho := of_decide_eq_false ho
      rw [if_neg (by omega)] at hS
      (conv => whnf)
      refine ⟨by decide, small128 (by decide) (by decide), ?_⟩
      exact ⟨k / 2, S, _, rfl, G, e, hS, by omega⟩
  · rintro Γ A' ⟨k, S, a, rfl, G, e, hS, hn⟩
    have hS : S ++ pkL (L.drop (L.map D.str).length) k = pkL L m := hS
    rw [List.length_map, List.drop_length] at hS
    have hS : S ++ [] = pkL L m := hS
    rw [List.append_nil] at hS
    (conv => whnf)
    exact ⟨_, e, by rw [hS]; exact h A' G⟩
theorem len__law_lotof (ds : List D) (A : Ah) (q : D → Ah → Prop) (x : AX) : sp__law_lotof ds A q x → ds.length = 2 := by
  rintro ⟨L, m, rfl, _⟩; rfl
def as__law_lots_5 : AS := (aDrop (aMethL aExtend (aVar 4) (aCons (aLc (aIter (aVar 0)) (agName 6) (aOrT (aTest (aOp aEq (aBlt aLen (aCons (aVar 5) aNil)) (aC (.int 0)))) (aTest (aOp aGt (aVar 6) (aOp aIx (aVar 5) (aNeg (aC (.int 1))))))) (aOp aAdd (aVar 5) (aTup (aCons (aVar 6) aNil))) [6]) aNil)))
def as__law_lots_6 : AS := (aAsg (aBlt aList (aCons (aVar 4) aNil)) (agName 2))
def as__law_lots_4 : AS := (aSeq (aFor (aIter (aVar 2)) (agName 5) as__law_lots_5) as__law_lots_6)
def as__law_lots_3 : AS := (aSeq (aAsg (aLst aNil) (agName 4)) as__law_lots_4)
def as__law_lots_7 : AS := (aRet (aBlt aTuple (aCons (aVar 2) aNil)))
def as__law_lots_2 : AS := (aSeq (aFor (aRng1 (aCons (aVar 1) aNil)) (agName 3) as__law_lots_3) as__law_lots_7)
def as__law_lots : AS := (aSeq (aAsg (aLst (aCons (aTup aNil) aNil)) (agName 2)) as__law_lots_2)

theorem pure__law_lots (ds : List D) (A : Ah) (q : D → Ah → Prop) (x : AX) : sp__law_lots ds A q x → as__law_lots (endsA q x) (startA ["lines", "many", "found", "k", "longer", "lot", "line"] ds) A := by
  rintro ⟨L, k, rfl, hl, hk, h⟩
  (conv => whnf)
  refine ⟨Nat.le_of_ble_eq_true rfl, ?_⟩
  (conv => whnf)
  refine ⟨Nat.le_of_ble_eq_true rfl, fun p hp => ?_⟩
  (conv => whnf)
  refine ⟨by omega, ?_⟩
  refine ⟨fun i Γ A' => ∃ (p : Addr) (a b c : Option D), Γ = [some (.tup (L.map D.str)), some (.int k), some (.ref p), a, b, c, none] ∧ A' p = some (.lst ((loL L i).map tupS)) ∧ Ext A A', ⟨p, _, _, _, rfl, updA_same, .new hp⟩, fun _ _ _ _ _ => trivial, ?_, ?_⟩
  · rintro i Γ A1 (hi : i < ((k : Int)).toNat) ⟨p, a, b, c, rfl, e, G⟩
    have hE := lo_big hl (show i + 1 ≤ 4 by omega)
    have hsz := lo_size (L := L) (k := i)
    have hstep : loL L (i + 1) = (loL L i).flatMap (loS L) := rfl
    generalize loL L i = E at e hsz hstep
    (conv => whnf)
    refine ⟨Nat.le_of_ble_eq_true rfl, fun g hg => ?_⟩
    have hpg : p ≠ g := neA e hg
    have e := Ext.new (c := .lst []) hg _ _ e
    have eg : updA A1 g (.lst []) g = some (.lst []) := updA_same
    have G2 := G.trans (Ext.new (c := .lst []) hg)
    have hgA : A g = none := by
      cases z : A g with
      | none => rfl
      | some c => rw [G g c z] at hg; cases hg
    generalize updA A1 g (.lst []) = A2 at e eg G2 ⊢
    (conv => whnf)
    refine ⟨_, e, ?_⟩
    refine ⟨fun j Γ A' => ∃ (c : Option D), Γ = [some (.tup (L.map D.str)), some (.int k), some (.ref p), some (.int (0 + (i : Int))), some (.ref g), c, none] ∧ A' p = some (.lst (E.map tupS)) ∧ A' g = some (.lst (((E.take j).flatMap (loS L)).map tupS)) ∧ Ext A A', ⟨_, rfl, e, eg, G2⟩, fun j Γ A' _ => fun ⟨_, _, e, _⟩ => e, ?_, ?_⟩
    · rintro j Γ A3 (hj : j < (E.map tupS).length) ⟨c, rfl, e, eg, G3⟩
      rw [List.length_map] at hj
      show agName 5 ((E.map tupS).getD j .non) _ _ _
      rw [map_getD _ hj]
      have ht : E.take (j + 1) = E.take j ++ [E[j]] := by rw [List.take_succ, List.getElem?_eq_getElem hj]; rfl
      have hs := hsz _ (List.getElem_mem hj)
      have hfl : ((E.take (j + 1)).flatMap (loS L)).length ≤ 331776 := by
        refine Nat.le_trans ?_ hE
        rw [hstep]
        have := congrArg (fun z => (z.flatMap (loS L)).length) (List.take_append_drop (j + 1) E)
        simp only [List.flatMap_append, List.length_append] at this
        omega
      generalize E[j] = s at ht hs ⊢
      rw [ht, List.flatMap_append, List.length_append] at hfl
      (conv => whnf)
      refine ⟨⟨_, eg⟩, ?_⟩
      (conv => whnf)
      refine lc_fil (it := ⟨none, (L.map D.str).length, fun i => (L.map D.str).getD i .non⟩) (fun i => tupS (s ++ [L.getD i []])) (fun i => gtL s (L.getD i [])) rfl (by show (L.map D.str).length ≤ _; rw [big_eq, List.length_map]; omega) ?_ ?_
      · intro t A' κ sk ht2 G' h1 h2
        have ht2 : t < L.length := by rw [show _ = (L.map D.str).length from rfl, List.length_map] at ht2; exact ht2
        show agName 6 ((L.map D.str).getD t .non) _ _ _
        rw [map_getD _ ht2]
        rw [List.getD_eq_getElem?_getD, List.getElem?_eq_getElem ht2] at h1 h2
        generalize L[t] = c1 at h1 h2 ⊢
        have h1 : gtL s c1 = true → κ (tupS (s ++ [c1])) A' := h1
        have h2 : gtL s c1 = false → sk A' := h2
        have take : gtL s c1 = true → (aOp aAdd (aVar 5) (aTup (aCons (aVar 6) aNil))) [some (.tup (L.map D.str)), some (.int k), some (.ref p), some (.int (0 + (i : Int))), some (.ref g), some (tupS s), some (.str c1)] A' κ (fun _ _ => False) := fun z => by
          (conv => whnf)
          refine ⟨Nat.le_of_ble_eq_true rfl, ?_⟩
          (conv => whnf)
          refine ⟨by rw [List.length_map, hs, big_eq]; show i + 1 ≤ _; omega, ?_⟩
          have e2 : D.tup (s.map D.str ++ [.str c1]) = tupS (s ++ [c1]) := by simp
          rw [e2]
          exact h1 z
        (conv => whnf)
        refine ⟨fun hc => ?_, fun hc => ?_⟩
        · have hc : s = [] := by
            have := of_decide_eq_true hc
            rw [List.length_map] at this
            exact List.eq_nil_of_length_eq_zero (by omega)
          refine ⟨fun _ => take (by rw [hc]; rfl), fun z => Bool.noConfusion z⟩
        · have hc : s ≠ [] := by
            intro z; rw [z] at hc; exact absurd hc (by decide)
          obtain ⟨d, hd⟩ : ∃ d, s.getLast? = some d := ⟨_, List.getLast?_eq_some_getLast hc⟩
          have hg : gtL s c1 = lexL d c1 := by unfold gtL; rw [hd]
          have hx : L2.atI (s.map D.str) (-1) = some (.str d) := by rw [atI_neg, List.getLast?_map, hd]; rfl
          (conv => whnf)
          refine ⟨_, hx, ?_⟩
          (conv => whnf)
          refine ⟨fun z => take (by rw [hg]; exact z), fun z => h2 (by rw [hg]; exact z)⟩
      · intro r hr
        have hgr : g ≠ r := neA eg hr
        have eq1 : ((List.range (L.map D.str).length).filter fun i => gtL s (L.getD i [])).map (fun i => tupS (s ++ [L.getD i []])) = (loS L s).map tupS := by
          rw [List.length_map, range_filter (p := gtL s) (g := fun c => tupS (s ++ [c])), loS, List.map_map]; rfl
        show (fun d A' => _) (D.ref r) (updA A3 r (.lst (((List.range (L.map D.str).length).filter fun i => gtL s (L.getD i [])).map (fun i => tupS (s ++ [L.getD i []])))))
        rw [eq1]
        have e := Ext.new (c := .lst ((loS L s).map tupS)) hr _ _ e
        have eg := Ext.new (c := .lst ((loS L s).map tupS)) hr _ _ eg
        have er : updA A3 r (.lst ((loS L s).map tupS)) r = some (.lst ((loS L s).map tupS)) := updA_same
        have G4 := G3.trans (Ext.new (c := .lst ((loS L s).map tupS)) hr)
        generalize updA A3 r (.lst ((loS L s).map tupS)) = A4 at e eg er G4 ⊢
        (conv => whnf)
        refine ⟨_, eg, _, er, by simp only [List.flatMap_cons, List.flatMap_nil, List.append_nil] at hfl; rw [List.length_map, List.length_map, big_eq]; omega, ?_⟩
        exact ⟨_, rfl, by rw [updA_ne hpg]; exact e, by rw [updA_same, ht, List.flatMap_append, List.map_append]; simp, G4.upd hgA⟩
    · rintro Γ A3 ⟨c, rfl, e, eg, G3⟩
      have eg : A3 g = some (.lst (((E.take (E.map tupS).length).flatMap (loS L)).map tupS)) := eg
      rw [List.length_map, List.take_length, ← hstep] at eg
      (conv => whnf)
      refine ⟨_, eg, fun r hr => ?_⟩
      exact ⟨r, _, _, _, rfl, updA_same, G3.trans (.new hr)⟩
  · rintro Γ A1 ⟨p, a, b, c, rfl, e, G⟩
    have e : A1 p = some (.lst ((loL L ((k : Int)).toNat).map tupS)) := e
    rw [Int.toNat_natCast] at e
    (conv => whnf)
    exact ⟨_, e, h A1 G⟩
theorem len__law_lots (ds : List D) (A : Ah) (q : D → Ah → Prop) (x : AX) : sp__law_lots ds A q x → ds.length = 2 := by
  rintro ⟨L, k, rfl, _⟩; rfl
def has__law_toldof_16 (K : Fg) (a : Addr) (ε : Exn) : AS := (aRet (aOp aIx (aVar 1) (aC (.int 0))))
def has__law_toldof_14 (K : Fg) (a : Addr) (ε : Exn) : AS := (aSeq (aIf (aOrT (aTest (aOp aNe (aBlt aLen (aCons (aVar 1) aNil)) (aC (.int 1)))) (aOrT (aNotT (aTest (aBlt (aIsE K a ε) (aCons (aVar 0) (aCons (aC (.ref (He.ga K "GrantError"))) aNil))))) (aNotT (aTest (aBlt (aIsE K a ε) (aCons (aVar 0) (aCons (aC (.ty "ValueError")) aNil))))))) (aRet (aTup (aCons (aC (.str (tl "none"))) (aCons (aTup aNil) aNil)))) aNext) (has__law_toldof_16 K a ε))
def has__law_toldof_12 (K : Fg) (a : Addr) (ε : Exn) : AS := (aSeq (aIf (aTest (aBlt (aIsE K a ε) (aCons (aVar 0) (aCons (aTup (aCons (aC (.ref (He.ga K "BadKind"))) (aCons (aC (.ref (He.ga K "BadLog"))) (aCons (aC (.ref (He.ga K "BadMachine"))) (aCons (aC (.ref (He.ga K "BadMatrix"))) (aCons (aC (.ref (He.ga K "BadMove"))) (aCons (aC (.ref (He.ga K "BadTable"))) (aCons (aC (.ref (He.ga K "BadText"))) (aCons (aC (.ref (He.ga K "BadTree"))) (aCons (aC (.ref (He.ga K "BadWish"))) (aCons (aC (.ref (He.ga K "Barred"))) (aCons (aC (.ref (He.ga K "LastLine"))) (aCons (aC (.ref (He.ga K "Mismatch"))) (aCons (aC (.ref (He.ga K "NoCover"))) (aCons (aC (.ref (He.ga K "NoEdit"))) (aCons (aC (.ref (He.ga K "NoGrant"))) (aCons (aC (.ref (He.ga K "NoSubtree"))) (aCons (aC (.ref (He.ga K "NoTree"))) (aCons (aC (.ref (He.ga K "Twice"))) aNil))))))))))))))))))) aNil)))) (aRet (aTup (aCons (aC (.str (tl "none"))) (aCons (aTup aNil) aNil)))) aNext) (has__law_toldof_14 K a ε))
def has__law_toldof_10 (K : Fg) (a : Addr) (ε : Exn) : AS := (aSeq (aIf (aTest (aBlt (aIsE K a ε) (aCons (aVar 0) (aCons (aC (.ref (He.ga K "BadNumber"))) aNil)))) (aDrop (aMethL aAppend (aVar 1) (aCons (aTup (aCons (aC (.str (tl "BadNumber"))) (aCons (aTup (aCons (aXf a ε "number" (aVar 0)) aNil)) aNil))) aNil))) aNext) (has__law_toldof_12 K a ε))
def has__law_toldof_8 (K : Fg) (a : Addr) (ε : Exn) : AS := (aSeq (aIf (aTest (aBlt (aIsE K a ε) (aCons (aVar 0) (aCons (aC (.ref (He.ga K "NoSuchLine"))) aNil)))) (aDrop (aMethL aAppend (aVar 1) (aCons (aTup (aCons (aC (.str (tl "NoSuchLine"))) (aCons (aTup (aCons (aXf a ε "name" (aVar 0)) aNil)) aNil))) aNil))) aNext) (has__law_toldof_10 K a ε))
def has__law_toldof_6 (K : Fg) (a : Addr) (ε : Exn) : AS := (aSeq (aIf (aTest (aBlt (aIsE K a ε) (aCons (aVar 0) (aCons (aC (.ref (He.ga K "BadLot"))) aNil)))) (aDrop (aMethL aAppend (aVar 1) (aCons (aTup (aCons (aC (.str (tl "BadLot"))) (aCons (aTup (aCons (aXf a ε "at" (aVar 0)) aNil)) aNil))) aNil))) aNext) (has__law_toldof_8 K a ε))
def has__law_toldof_4 (K : Fg) (a : Addr) (ε : Exn) : AS := (aSeq (aIf (aTest (aBlt (aIsE K a ε) (aCons (aVar 0) (aCons (aC (.ref (He.ga K "TooMany"))) aNil)))) (aDrop (aMethL aAppend (aVar 1) (aCons (aTup (aCons (aC (.str (tl "TooMany"))) (aCons (aTup (aCons (aXf a ε "what" (aVar 0)) (aCons (aXf a ε "limit" (aVar 0)) aNil))) aNil))) aNil))) aNext) (has__law_toldof_6 K a ε))
def has__law_toldof_2 (K : Fg) (a : Addr) (ε : Exn) : AS := (aSeq (aIf (aTest (aBlt (aIsE K a ε) (aCons (aVar 0) (aCons (aC (.ref (He.ga K "BadName"))) aNil)))) (aDrop (aMethL aAppend (aVar 1) (aCons (aTup (aCons (aC (.str (tl "BadName"))) (aCons (aTup (aCons (aXf a ε "name" (aVar 0)) aNil)) aNil))) aNil))) aNext) (has__law_toldof_4 K a ε))
def has__law_toldof (K : Fg) (a : Addr) (ε : Exn) : AS := (aSeq (aAsg (aLst aNil) (agName 1)) (has__law_toldof_2 K a ε))

theorem kitAny_no {K : Fg} {c : Value} : ∀ {Ds : List Value}, (∀ D ∈ Ds, PySem.W.kitOne K c D = some false) → PySem.W.kitAny K c Ds = some false
  | [], _ => PySem.W.kitAny.eq_1 K c
  | D :: Ds, h => by
    rw [PySem.W.kitAny.eq_2, h D List.mem_cons_self]
    exact kitAny_no fun D' m => h D' (List.mem_cons_of_mem _ m)
theorem pureh__law_toldof (K : Fg) (kit : ∀ c ∈ excs, ∀ n ∈ kits, PySem.W.kitOne K (.ref (He.ga K c)) (.ref (He.ga K n)) = some (decide (c = n) || decide (n = "GrantError"))) (kitV : ∀ c ∈ excs, PySem.W.kitOne K (.ref (He.ga K c)) (.type "ValueError") = some true)
    (a : Addr) (ε : Exn) (ds : List D) (A : Ah) (q : D → Ah → Prop) (x : AX) : hsp__law_toldof a ε ds A q x → has__law_toldof K a ε (endsA q x) (startA ["e", "found"] ds) A := by
  obtain ⟨cl, d⟩ := ε
  rintro ⟨rfl, hh⟩
  rcases hh with ⟨v0, hc, hA, h⟩ | ⟨v0, hc, hA, h⟩ | ⟨v0, hc, hA, h⟩ | ⟨v0, v1, hc, hA, h⟩ | ⟨v0, hc, hA, h⟩
  · dsimp only at hc hA
    subst hc
    have hm : ("BadName" : Str) ∈ excs := by decide
    have k1 : ∀ n ∈ kits, PySem.W.kitOne K (exC K ⟨"BadName", d⟩) (.ref (He.ga K n)) = some (decide ("BadName" = n) || decide (n = "GrantError")) := kit _ hm
    (conv => whnf)
    refine ⟨Nat.le_of_ble_eq_true rfl, fun p hp => ?_⟩
    have hp1 : updA A p (.lst []) p = some (.lst []) := updA_same
    have hA1 : updA A p (.lst []) d = some (.xd [("name", v0)]) := Ext.new hp _ _ hA
    have G1 : Ext A (updA A p (.lst [])) := .new hp
    have hpd : d ≠ p := neA hA hp
    generalize updA A p (.lst []) = A1 at hp1 hA1 G1 ⊢
    (conv => whnf)
    refine ⟨⟨_, hA1⟩, rfl, true, k1 "BadName" (by decide), ?_⟩
    (conv => whnf)
    refine ⟨fun _ => ?_, nofun⟩
    (conv => whnf)
    refine ⟨⟨_, hp1⟩, ?_⟩
    (conv => whnf)
    refine ⟨rfl, _, hA1, _, rfl, ?_⟩
    (conv => whnf)
    refine ⟨Nat.le_of_ble_eq_true rfl, ?_⟩
    (conv => whnf)
    refine ⟨Nat.le_of_ble_eq_true rfl, ?_⟩
    (conv => whnf)
    refine ⟨_, hp1, Nat.lt_of_lt_of_le Nat.zero_lt_one (Nat.le_of_ble_eq_true rfl), ?_⟩
    have hp2 : updA A1 p (.lst ([] ++ [.tup [.str (tl "BadName"), .tup [v0]]])) p = some (.lst [.tup [.str (tl "BadName"), .tup [v0]]]) := updA_same
    have hA2 : updA A1 p (.lst ([] ++ [.tup [.str (tl "BadName"), .tup [v0]]])) d = some (.xd [("name", v0)]) := by rw [updA_ne hpd]; exact hA1
    have G2 : Ext A (updA A1 p (.lst ([] ++ [.tup [.str (tl "BadName"), .tup [v0]]]))) := G1.upd hp
    generalize updA A1 p (.lst ([] ++ [.tup [.str (tl "BadName"), .tup [v0]]])) = A2 at hp2 hA2 G2 ⊢
    (conv => whnf)
    refine ⟨⟨_, hA2⟩, rfl, false, k1 "TooMany" (by decide), ?_⟩
    (conv => whnf)
    refine ⟨nofun, fun _ => ?_⟩
    (conv => whnf)
    refine ⟨⟨_, hA2⟩, rfl, false, k1 "BadLot" (by decide), ?_⟩
    (conv => whnf)
    refine ⟨nofun, fun _ => ?_⟩
    (conv => whnf)
    refine ⟨⟨_, hA2⟩, rfl, false, k1 "NoSuchLine" (by decide), ?_⟩
    (conv => whnf)
    refine ⟨nofun, fun _ => ?_⟩
    (conv => whnf)
    refine ⟨⟨_, hA2⟩, rfl, false, k1 "BadNumber" (by decide), ?_⟩
    (conv => whnf)
    refine ⟨nofun, fun _ => ?_⟩
    (conv => whnf)
    refine ⟨Nat.le_of_ble_eq_true rfl, ?_⟩
    (conv => whnf)
    refine ⟨⟨_, hA2⟩, rfl, ([("BadKind" : Str), ("BadLog" : Str), ("BadMachine" : Str), ("BadMatrix" : Str), ("BadMove" : Str), ("BadTable" : Str), ("BadText" : Str), ("BadTree" : Str), ("BadWish" : Str), ("Barred" : Str), ("LastLine" : Str), ("Mismatch" : Str), ("NoCover" : Str), ("NoEdit" : Str), ("NoGrant" : Str), ("NoSubtree" : Str), ("NoTree" : Str), ("Twice" : Str)]).map (He.ga K), false, rfl, ?_, ?_⟩
    · refine kitAny_no fun D hD => ?_
      obtain ⟨D1, h1, rfl⟩ := List.mem_map.mp hD
      obtain ⟨n, h2, rfl⟩ := List.mem_map.mp h1
      have hk : ∀ n ∈ [("BadKind" : Str), ("BadLog" : Str), ("BadMachine" : Str), ("BadMatrix" : Str), ("BadMove" : Str), ("BadTable" : Str), ("BadText" : Str), ("BadTree" : Str), ("BadWish" : Str), ("Barred" : Str), ("LastLine" : Str), ("Mismatch" : Str), ("NoCover" : Str), ("NoEdit" : Str), ("NoGrant" : Str), ("NoSubtree" : Str), ("NoTree" : Str), ("Twice" : Str)], n ∈ kits := by decide
      rw [k1 n (hk n h2)]
      have : ∀ n ∈ [("BadKind" : Str), ("BadLog" : Str), ("BadMachine" : Str), ("BadMatrix" : Str), ("BadMove" : Str), ("BadTable" : Str), ("BadText" : Str), ("BadTree" : Str), ("BadWish" : Str), ("Barred" : Str), ("LastLine" : Str), ("Mismatch" : Str), ("NoCover" : Str), ("NoEdit" : Str), ("NoGrant" : Str), ("NoSubtree" : Str), ("NoTree" : Str), ("Twice" : Str)], (decide (("BadName" : Str) = n) || decide (n = ("GrantError" : Str))) = false := by decide
      rw [this n h2]
    (conv => whnf)
    refine ⟨nofun, fun _ => ?_⟩
    (conv => whnf)
    refine ⟨_, hp2, ?_⟩
    (conv => whnf)
    refine ⟨nofun, fun _ => ?_⟩
    (conv => whnf)
    refine ⟨⟨_, hA2⟩, rfl, true, k1 "GrantError" (by decide), ?_⟩
    (conv => whnf)
    refine ⟨nofun, fun _ => ?_⟩
    (conv => whnf)
    refine ⟨⟨_, hA2⟩, rfl, true, kitV _ hm, ?_⟩
    (conv => whnf)
    refine ⟨nofun, fun _ => ?_⟩
    (conv => whnf)
    refine ⟨_, hp2, _, atI_zero, ?_⟩
    exact h _ G2
  · dsimp only at hc hA
    subst hc
    have hm : ("BadLot" : Str) ∈ excs := by decide
    have k1 : ∀ n ∈ kits, PySem.W.kitOne K (exC K ⟨"BadLot", d⟩) (.ref (He.ga K n)) = some (decide ("BadLot" = n) || decide (n = "GrantError")) := kit _ hm
    (conv => whnf)
    refine ⟨Nat.le_of_ble_eq_true rfl, fun p hp => ?_⟩
    have hp1 : updA A p (.lst []) p = some (.lst []) := updA_same
    have hA1 : updA A p (.lst []) d = some (.xd [("at", v0)]) := Ext.new hp _ _ hA
    have G1 : Ext A (updA A p (.lst [])) := .new hp
    have hpd : d ≠ p := neA hA hp
    generalize updA A p (.lst []) = A1 at hp1 hA1 G1 ⊢
    (conv => whnf)
    refine ⟨⟨_, hA1⟩, rfl, false, k1 "BadName" (by decide), ?_⟩
    (conv => whnf)
    refine ⟨nofun, fun _ => ?_⟩
    (conv => whnf)
    refine ⟨⟨_, hA1⟩, rfl, false, k1 "TooMany" (by decide), ?_⟩
    (conv => whnf)
    refine ⟨nofun, fun _ => ?_⟩
    (conv => whnf)
    refine ⟨⟨_, hA1⟩, rfl, true, k1 "BadLot" (by decide), ?_⟩
    (conv => whnf)
    refine ⟨fun _ => ?_, nofun⟩
    (conv => whnf)
    refine ⟨⟨_, hp1⟩, ?_⟩
    (conv => whnf)
    refine ⟨rfl, _, hA1, _, rfl, ?_⟩
    (conv => whnf)
    refine ⟨Nat.le_of_ble_eq_true rfl, ?_⟩
    (conv => whnf)
    refine ⟨Nat.le_of_ble_eq_true rfl, ?_⟩
    (conv => whnf)
    refine ⟨_, hp1, Nat.lt_of_lt_of_le Nat.zero_lt_one (Nat.le_of_ble_eq_true rfl), ?_⟩
    have hp2 : updA A1 p (.lst ([] ++ [.tup [.str (tl "BadLot"), .tup [v0]]])) p = some (.lst [.tup [.str (tl "BadLot"), .tup [v0]]]) := updA_same
    have hA2 : updA A1 p (.lst ([] ++ [.tup [.str (tl "BadLot"), .tup [v0]]])) d = some (.xd [("at", v0)]) := by rw [updA_ne hpd]; exact hA1
    have G2 : Ext A (updA A1 p (.lst ([] ++ [.tup [.str (tl "BadLot"), .tup [v0]]]))) := G1.upd hp
    generalize updA A1 p (.lst ([] ++ [.tup [.str (tl "BadLot"), .tup [v0]]])) = A2 at hp2 hA2 G2 ⊢
    (conv => whnf)
    refine ⟨⟨_, hA2⟩, rfl, false, k1 "NoSuchLine" (by decide), ?_⟩
    (conv => whnf)
    refine ⟨nofun, fun _ => ?_⟩
    (conv => whnf)
    refine ⟨⟨_, hA2⟩, rfl, false, k1 "BadNumber" (by decide), ?_⟩
    (conv => whnf)
    refine ⟨nofun, fun _ => ?_⟩
    (conv => whnf)
    refine ⟨Nat.le_of_ble_eq_true rfl, ?_⟩
    (conv => whnf)
    refine ⟨⟨_, hA2⟩, rfl, ([("BadKind" : Str), ("BadLog" : Str), ("BadMachine" : Str), ("BadMatrix" : Str), ("BadMove" : Str), ("BadTable" : Str), ("BadText" : Str), ("BadTree" : Str), ("BadWish" : Str), ("Barred" : Str), ("LastLine" : Str), ("Mismatch" : Str), ("NoCover" : Str), ("NoEdit" : Str), ("NoGrant" : Str), ("NoSubtree" : Str), ("NoTree" : Str), ("Twice" : Str)]).map (He.ga K), false, rfl, ?_, ?_⟩
    · refine kitAny_no fun D hD => ?_
      obtain ⟨D1, h1, rfl⟩ := List.mem_map.mp hD
      obtain ⟨n, h2, rfl⟩ := List.mem_map.mp h1
      have hk : ∀ n ∈ [("BadKind" : Str), ("BadLog" : Str), ("BadMachine" : Str), ("BadMatrix" : Str), ("BadMove" : Str), ("BadTable" : Str), ("BadText" : Str), ("BadTree" : Str), ("BadWish" : Str), ("Barred" : Str), ("LastLine" : Str), ("Mismatch" : Str), ("NoCover" : Str), ("NoEdit" : Str), ("NoGrant" : Str), ("NoSubtree" : Str), ("NoTree" : Str), ("Twice" : Str)], n ∈ kits := by decide
      rw [k1 n (hk n h2)]
      have : ∀ n ∈ [("BadKind" : Str), ("BadLog" : Str), ("BadMachine" : Str), ("BadMatrix" : Str), ("BadMove" : Str), ("BadTable" : Str), ("BadText" : Str), ("BadTree" : Str), ("BadWish" : Str), ("Barred" : Str), ("LastLine" : Str), ("Mismatch" : Str), ("NoCover" : Str), ("NoEdit" : Str), ("NoGrant" : Str), ("NoSubtree" : Str), ("NoTree" : Str), ("Twice" : Str)], (decide (("BadLot" : Str) = n) || decide (n = ("GrantError" : Str))) = false := by decide
      rw [this n h2]
    (conv => whnf)
    refine ⟨nofun, fun _ => ?_⟩
    (conv => whnf)
    refine ⟨_, hp2, ?_⟩
    (conv => whnf)
    refine ⟨nofun, fun _ => ?_⟩
    (conv => whnf)
    refine ⟨⟨_, hA2⟩, rfl, true, k1 "GrantError" (by decide), ?_⟩
    (conv => whnf)
    refine ⟨nofun, fun _ => ?_⟩
    (conv => whnf)
    refine ⟨⟨_, hA2⟩, rfl, true, kitV _ hm, ?_⟩
    (conv => whnf)
    refine ⟨nofun, fun _ => ?_⟩
    (conv => whnf)
    refine ⟨_, hp2, _, atI_zero, ?_⟩
    exact h _ G2
  · dsimp only at hc hA
    subst hc
    have hm : ("NoSuchLine" : Str) ∈ excs := by decide
    have k1 : ∀ n ∈ kits, PySem.W.kitOne K (exC K ⟨"NoSuchLine", d⟩) (.ref (He.ga K n)) = some (decide ("NoSuchLine" = n) || decide (n = "GrantError")) := kit _ hm
    (conv => whnf)
    refine ⟨Nat.le_of_ble_eq_true rfl, fun p hp => ?_⟩
    have hp1 : updA A p (.lst []) p = some (.lst []) := updA_same
    have hA1 : updA A p (.lst []) d = some (.xd [("name", v0)]) := Ext.new hp _ _ hA
    have G1 : Ext A (updA A p (.lst [])) := .new hp
    have hpd : d ≠ p := neA hA hp
    generalize updA A p (.lst []) = A1 at hp1 hA1 G1 ⊢
    (conv => whnf)
    refine ⟨⟨_, hA1⟩, rfl, false, k1 "BadName" (by decide), ?_⟩
    (conv => whnf)
    refine ⟨nofun, fun _ => ?_⟩
    (conv => whnf)
    refine ⟨⟨_, hA1⟩, rfl, false, k1 "TooMany" (by decide), ?_⟩
    (conv => whnf)
    refine ⟨nofun, fun _ => ?_⟩
    (conv => whnf)
    refine ⟨⟨_, hA1⟩, rfl, false, k1 "BadLot" (by decide), ?_⟩
    (conv => whnf)
    refine ⟨nofun, fun _ => ?_⟩
    (conv => whnf)
    refine ⟨⟨_, hA1⟩, rfl, true, k1 "NoSuchLine" (by decide), ?_⟩
    (conv => whnf)
    refine ⟨fun _ => ?_, nofun⟩
    (conv => whnf)
    refine ⟨⟨_, hp1⟩, ?_⟩
    (conv => whnf)
    refine ⟨rfl, _, hA1, _, rfl, ?_⟩
    (conv => whnf)
    refine ⟨Nat.le_of_ble_eq_true rfl, ?_⟩
    (conv => whnf)
    refine ⟨Nat.le_of_ble_eq_true rfl, ?_⟩
    (conv => whnf)
    refine ⟨_, hp1, Nat.lt_of_lt_of_le Nat.zero_lt_one (Nat.le_of_ble_eq_true rfl), ?_⟩
    have hp2 : updA A1 p (.lst ([] ++ [.tup [.str (tl "NoSuchLine"), .tup [v0]]])) p = some (.lst [.tup [.str (tl "NoSuchLine"), .tup [v0]]]) := updA_same
    have hA2 : updA A1 p (.lst ([] ++ [.tup [.str (tl "NoSuchLine"), .tup [v0]]])) d = some (.xd [("name", v0)]) := by rw [updA_ne hpd]; exact hA1
    have G2 : Ext A (updA A1 p (.lst ([] ++ [.tup [.str (tl "NoSuchLine"), .tup [v0]]]))) := G1.upd hp
    generalize updA A1 p (.lst ([] ++ [.tup [.str (tl "NoSuchLine"), .tup [v0]]])) = A2 at hp2 hA2 G2 ⊢
    (conv => whnf)
    refine ⟨⟨_, hA2⟩, rfl, false, k1 "BadNumber" (by decide), ?_⟩
    (conv => whnf)
    refine ⟨nofun, fun _ => ?_⟩
    (conv => whnf)
    refine ⟨Nat.le_of_ble_eq_true rfl, ?_⟩
    (conv => whnf)
    refine ⟨⟨_, hA2⟩, rfl, ([("BadKind" : Str), ("BadLog" : Str), ("BadMachine" : Str), ("BadMatrix" : Str), ("BadMove" : Str), ("BadTable" : Str), ("BadText" : Str), ("BadTree" : Str), ("BadWish" : Str), ("Barred" : Str), ("LastLine" : Str), ("Mismatch" : Str), ("NoCover" : Str), ("NoEdit" : Str), ("NoGrant" : Str), ("NoSubtree" : Str), ("NoTree" : Str), ("Twice" : Str)]).map (He.ga K), false, rfl, ?_, ?_⟩
    · refine kitAny_no fun D hD => ?_
      obtain ⟨D1, h1, rfl⟩ := List.mem_map.mp hD
      obtain ⟨n, h2, rfl⟩ := List.mem_map.mp h1
      have hk : ∀ n ∈ [("BadKind" : Str), ("BadLog" : Str), ("BadMachine" : Str), ("BadMatrix" : Str), ("BadMove" : Str), ("BadTable" : Str), ("BadText" : Str), ("BadTree" : Str), ("BadWish" : Str), ("Barred" : Str), ("LastLine" : Str), ("Mismatch" : Str), ("NoCover" : Str), ("NoEdit" : Str), ("NoGrant" : Str), ("NoSubtree" : Str), ("NoTree" : Str), ("Twice" : Str)], n ∈ kits := by decide
      rw [k1 n (hk n h2)]
      have : ∀ n ∈ [("BadKind" : Str), ("BadLog" : Str), ("BadMachine" : Str), ("BadMatrix" : Str), ("BadMove" : Str), ("BadTable" : Str), ("BadText" : Str), ("BadTree" : Str), ("BadWish" : Str), ("Barred" : Str), ("LastLine" : Str), ("Mismatch" : Str), ("NoCover" : Str), ("NoEdit" : Str), ("NoGrant" : Str), ("NoSubtree" : Str), ("NoTree" : Str), ("Twice" : Str)], (decide (("NoSuchLine" : Str) = n) || decide (n = ("GrantError" : Str))) = false := by decide
      rw [this n h2]
    (conv => whnf)
    refine ⟨nofun, fun _ => ?_⟩
    (conv => whnf)
    refine ⟨_, hp2, ?_⟩
    (conv => whnf)
    refine ⟨nofun, fun _ => ?_⟩
    (conv => whnf)
    refine ⟨⟨_, hA2⟩, rfl, true, k1 "GrantError" (by decide), ?_⟩
    (conv => whnf)
    refine ⟨nofun, fun _ => ?_⟩
    (conv => whnf)
    refine ⟨⟨_, hA2⟩, rfl, true, kitV _ hm, ?_⟩
    (conv => whnf)
    refine ⟨nofun, fun _ => ?_⟩
    (conv => whnf)
    refine ⟨_, hp2, _, atI_zero, ?_⟩
    exact h _ G2
  · dsimp only at hc hA
    subst hc
    have hm : ("TooMany" : Str) ∈ excs := by decide
    have k1 : ∀ n ∈ kits, PySem.W.kitOne K (exC K ⟨"TooMany", d⟩) (.ref (He.ga K n)) = some (decide ("TooMany" = n) || decide (n = "GrantError")) := kit _ hm
    (conv => whnf)
    refine ⟨Nat.le_of_ble_eq_true rfl, fun p hp => ?_⟩
    have hp1 : updA A p (.lst []) p = some (.lst []) := updA_same
    have hA1 : updA A p (.lst []) d = some (.xd [("limit", v1), ("what", v0)]) := Ext.new hp _ _ hA
    have G1 : Ext A (updA A p (.lst [])) := .new hp
    have hpd : d ≠ p := neA hA hp
    generalize updA A p (.lst []) = A1 at hp1 hA1 G1 ⊢
    (conv => whnf)
    refine ⟨⟨_, hA1⟩, rfl, false, k1 "BadName" (by decide), ?_⟩
    (conv => whnf)
    refine ⟨nofun, fun _ => ?_⟩
    (conv => whnf)
    refine ⟨⟨_, hA1⟩, rfl, true, k1 "TooMany" (by decide), ?_⟩
    (conv => whnf)
    refine ⟨fun _ => ?_, nofun⟩
    (conv => whnf)
    refine ⟨⟨_, hp1⟩, ?_⟩
    (conv => whnf)
    refine ⟨rfl, _, hA1, _, rfl, ?_⟩
    (conv => whnf)
    refine ⟨rfl, _, hA1, _, rfl, ?_⟩
    (conv => whnf)
    refine ⟨Nat.le_of_ble_eq_true rfl, ?_⟩
    (conv => whnf)
    refine ⟨Nat.le_of_ble_eq_true rfl, ?_⟩
    (conv => whnf)
    refine ⟨_, hp1, Nat.lt_of_lt_of_le Nat.zero_lt_one (Nat.le_of_ble_eq_true rfl), ?_⟩
    have hp2 : updA A1 p (.lst ([] ++ [.tup [.str (tl "TooMany"), .tup [v0, v1]]])) p = some (.lst [.tup [.str (tl "TooMany"), .tup [v0, v1]]]) := updA_same
    have hA2 : updA A1 p (.lst ([] ++ [.tup [.str (tl "TooMany"), .tup [v0, v1]]])) d = some (.xd [("limit", v1), ("what", v0)]) := by rw [updA_ne hpd]; exact hA1
    have G2 : Ext A (updA A1 p (.lst ([] ++ [.tup [.str (tl "TooMany"), .tup [v0, v1]]]))) := G1.upd hp
    generalize updA A1 p (.lst ([] ++ [.tup [.str (tl "TooMany"), .tup [v0, v1]]])) = A2 at hp2 hA2 G2 ⊢
    (conv => whnf)
    refine ⟨⟨_, hA2⟩, rfl, false, k1 "BadLot" (by decide), ?_⟩
    (conv => whnf)
    refine ⟨nofun, fun _ => ?_⟩
    (conv => whnf)
    refine ⟨⟨_, hA2⟩, rfl, false, k1 "NoSuchLine" (by decide), ?_⟩
    (conv => whnf)
    refine ⟨nofun, fun _ => ?_⟩
    (conv => whnf)
    refine ⟨⟨_, hA2⟩, rfl, false, k1 "BadNumber" (by decide), ?_⟩
    (conv => whnf)
    refine ⟨nofun, fun _ => ?_⟩
    (conv => whnf)
    refine ⟨Nat.le_of_ble_eq_true rfl, ?_⟩
    (conv => whnf)
    refine ⟨⟨_, hA2⟩, rfl, ([("BadKind" : Str), ("BadLog" : Str), ("BadMachine" : Str), ("BadMatrix" : Str), ("BadMove" : Str), ("BadTable" : Str), ("BadText" : Str), ("BadTree" : Str), ("BadWish" : Str), ("Barred" : Str), ("LastLine" : Str), ("Mismatch" : Str), ("NoCover" : Str), ("NoEdit" : Str), ("NoGrant" : Str), ("NoSubtree" : Str), ("NoTree" : Str), ("Twice" : Str)]).map (He.ga K), false, rfl, ?_, ?_⟩
    · refine kitAny_no fun D hD => ?_
      obtain ⟨D1, h1, rfl⟩ := List.mem_map.mp hD
      obtain ⟨n, h2, rfl⟩ := List.mem_map.mp h1
      have hk : ∀ n ∈ [("BadKind" : Str), ("BadLog" : Str), ("BadMachine" : Str), ("BadMatrix" : Str), ("BadMove" : Str), ("BadTable" : Str), ("BadText" : Str), ("BadTree" : Str), ("BadWish" : Str), ("Barred" : Str), ("LastLine" : Str), ("Mismatch" : Str), ("NoCover" : Str), ("NoEdit" : Str), ("NoGrant" : Str), ("NoSubtree" : Str), ("NoTree" : Str), ("Twice" : Str)], n ∈ kits := by decide
      rw [k1 n (hk n h2)]
      have : ∀ n ∈ [("BadKind" : Str), ("BadLog" : Str), ("BadMachine" : Str), ("BadMatrix" : Str), ("BadMove" : Str), ("BadTable" : Str), ("BadText" : Str), ("BadTree" : Str), ("BadWish" : Str), ("Barred" : Str), ("LastLine" : Str), ("Mismatch" : Str), ("NoCover" : Str), ("NoEdit" : Str), ("NoGrant" : Str), ("NoSubtree" : Str), ("NoTree" : Str), ("Twice" : Str)], (decide (("TooMany" : Str) = n) || decide (n = ("GrantError" : Str))) = false := by decide
      rw [this n h2]
    (conv => whnf)
    refine ⟨nofun, fun _ => ?_⟩
    (conv => whnf)
    refine ⟨_, hp2, ?_⟩
    (conv => whnf)
    refine ⟨nofun, fun _ => ?_⟩
    (conv => whnf)
    refine ⟨⟨_, hA2⟩, rfl, true, k1 "GrantError" (by decide), ?_⟩
    (conv => whnf)
    refine ⟨nofun, fun _ => ?_⟩
    (conv => whnf)
    refine ⟨⟨_, hA2⟩, rfl, true, kitV _ hm, ?_⟩
    (conv => whnf)
    refine ⟨nofun, fun _ => ?_⟩
    (conv => whnf)
    refine ⟨_, hp2, _, atI_zero, ?_⟩
    exact h _ G2
  · dsimp only at hc hA
    subst hc
    have hm : ("BadNumber" : Str) ∈ excs := by decide
    have k1 : ∀ n ∈ kits, PySem.W.kitOne K (exC K ⟨"BadNumber", d⟩) (.ref (He.ga K n)) = some (decide ("BadNumber" = n) || decide (n = "GrantError")) := kit _ hm
    (conv => whnf)
    refine ⟨Nat.le_of_ble_eq_true rfl, fun p hp => ?_⟩
    have hp1 : updA A p (.lst []) p = some (.lst []) := updA_same
    have hA1 : updA A p (.lst []) d = some (.xd [("number", v0)]) := Ext.new hp _ _ hA
    have G1 : Ext A (updA A p (.lst [])) := .new hp
    have hpd : d ≠ p := neA hA hp
    generalize updA A p (.lst []) = A1 at hp1 hA1 G1 ⊢
    (conv => whnf)
    refine ⟨⟨_, hA1⟩, rfl, false, k1 "BadName" (by decide), ?_⟩
    (conv => whnf)
    refine ⟨nofun, fun _ => ?_⟩
    (conv => whnf)
    refine ⟨⟨_, hA1⟩, rfl, false, k1 "TooMany" (by decide), ?_⟩
    (conv => whnf)
    refine ⟨nofun, fun _ => ?_⟩
    (conv => whnf)
    refine ⟨⟨_, hA1⟩, rfl, false, k1 "BadLot" (by decide), ?_⟩
    (conv => whnf)
    refine ⟨nofun, fun _ => ?_⟩
    (conv => whnf)
    refine ⟨⟨_, hA1⟩, rfl, false, k1 "NoSuchLine" (by decide), ?_⟩
    (conv => whnf)
    refine ⟨nofun, fun _ => ?_⟩
    (conv => whnf)
    refine ⟨⟨_, hA1⟩, rfl, true, k1 "BadNumber" (by decide), ?_⟩
    (conv => whnf)
    refine ⟨fun _ => ?_, nofun⟩
    (conv => whnf)
    refine ⟨⟨_, hp1⟩, ?_⟩
    (conv => whnf)
    refine ⟨rfl, _, hA1, _, rfl, ?_⟩
    (conv => whnf)
    refine ⟨Nat.le_of_ble_eq_true rfl, ?_⟩
    (conv => whnf)
    refine ⟨Nat.le_of_ble_eq_true rfl, ?_⟩
    (conv => whnf)
    refine ⟨_, hp1, Nat.lt_of_lt_of_le Nat.zero_lt_one (Nat.le_of_ble_eq_true rfl), ?_⟩
    have hp2 : updA A1 p (.lst ([] ++ [.tup [.str (tl "BadNumber"), .tup [v0]]])) p = some (.lst [.tup [.str (tl "BadNumber"), .tup [v0]]]) := updA_same
    have hA2 : updA A1 p (.lst ([] ++ [.tup [.str (tl "BadNumber"), .tup [v0]]])) d = some (.xd [("number", v0)]) := by rw [updA_ne hpd]; exact hA1
    have G2 : Ext A (updA A1 p (.lst ([] ++ [.tup [.str (tl "BadNumber"), .tup [v0]]]))) := G1.upd hp
    generalize updA A1 p (.lst ([] ++ [.tup [.str (tl "BadNumber"), .tup [v0]]])) = A2 at hp2 hA2 G2 ⊢
    (conv => whnf)
    refine ⟨Nat.le_of_ble_eq_true rfl, ?_⟩
    (conv => whnf)
    refine ⟨⟨_, hA2⟩, rfl, ([("BadKind" : Str), ("BadLog" : Str), ("BadMachine" : Str), ("BadMatrix" : Str), ("BadMove" : Str), ("BadTable" : Str), ("BadText" : Str), ("BadTree" : Str), ("BadWish" : Str), ("Barred" : Str), ("LastLine" : Str), ("Mismatch" : Str), ("NoCover" : Str), ("NoEdit" : Str), ("NoGrant" : Str), ("NoSubtree" : Str), ("NoTree" : Str), ("Twice" : Str)]).map (He.ga K), false, rfl, ?_, ?_⟩
    · refine kitAny_no fun D hD => ?_
      obtain ⟨D1, h1, rfl⟩ := List.mem_map.mp hD
      obtain ⟨n, h2, rfl⟩ := List.mem_map.mp h1
      have hk : ∀ n ∈ [("BadKind" : Str), ("BadLog" : Str), ("BadMachine" : Str), ("BadMatrix" : Str), ("BadMove" : Str), ("BadTable" : Str), ("BadText" : Str), ("BadTree" : Str), ("BadWish" : Str), ("Barred" : Str), ("LastLine" : Str), ("Mismatch" : Str), ("NoCover" : Str), ("NoEdit" : Str), ("NoGrant" : Str), ("NoSubtree" : Str), ("NoTree" : Str), ("Twice" : Str)], n ∈ kits := by decide
      rw [k1 n (hk n h2)]
      have : ∀ n ∈ [("BadKind" : Str), ("BadLog" : Str), ("BadMachine" : Str), ("BadMatrix" : Str), ("BadMove" : Str), ("BadTable" : Str), ("BadText" : Str), ("BadTree" : Str), ("BadWish" : Str), ("Barred" : Str), ("LastLine" : Str), ("Mismatch" : Str), ("NoCover" : Str), ("NoEdit" : Str), ("NoGrant" : Str), ("NoSubtree" : Str), ("NoTree" : Str), ("Twice" : Str)], (decide (("BadNumber" : Str) = n) || decide (n = ("GrantError" : Str))) = false := by decide
      rw [this n h2]
    (conv => whnf)
    refine ⟨nofun, fun _ => ?_⟩
    (conv => whnf)
    refine ⟨_, hp2, ?_⟩
    (conv => whnf)
    refine ⟨nofun, fun _ => ?_⟩
    (conv => whnf)
    refine ⟨⟨_, hA2⟩, rfl, true, k1 "GrantError" (by decide), ?_⟩
    (conv => whnf)
    refine ⟨nofun, fun _ => ?_⟩
    (conv => whnf)
    refine ⟨⟨_, hA2⟩, rfl, true, kitV _ hm, ?_⟩
    (conv => whnf)
    refine ⟨nofun, fun _ => ?_⟩
    (conv => whnf)
    refine ⟨_, hp2, _, atI_zero, ?_⟩
    exact h _ G2
theorem lenh__law_toldof (a : Addr) (ε : Exn) (ds : List D) (A : Ah) (q : D → Ah → Prop) (x : AX) : hsp__law_toldof a ε ds A q x → ds.length = 1 := by
  rintro ⟨rfl, _⟩; rfl
def as__law_equal_10 : AS := (aDrop (aMethL aAppend (aVar 2) (aCons (aTup (aCons (aOp aIx (aOp aIx (aVar 4) (aC (.int 0))) (aVar 5)) (aCons (aOp aIx (aOp aIx (aVar 4) (aC (.int 1))) (aVar 5)) aNil))) aNil)))
def as__law_equal_9 : AS := (aFor (aRng1 (aCons (aBlt aLen (aCons (aOp aIx (aVar 4) (aC (.int 1))) aNil)) aNil)) (agName 5) as__law_equal_10)
def as__law_equal_6 : AS := (aIf (aTest (aBlt aIsi (aCons (aOp aIx (aVar 4) (aC (.int 1))) (aCons (aC (.ty "tuple")) aNil)))) (aSeq (aIf (aOrT (aNotT (aTest (aBlt aIsi (aCons (aOp aIx (aVar 4) (aC (.int 0))) (aCons (aC (.ty "tuple")) aNil))))) (aTest (aOp aNe (aBlt aLen (aCons (aOp aIx (aVar 4) (aC (.int 0))) aNil)) (aBlt aLen (aCons (aOp aIx (aVar 4) (aC (.int 1))) aNil))))) (aRet (aC (.bl false))) aNext) as__law_equal_9) (aIf (aOrT (aTest (aOp aNe (aOp aIx (aVar 4) (aC (.int 0))) (aOp aIx (aVar 4) (aC (.int 1))))) (aTest (aOp aNe (aBlt aIsi (aCons (aOp aIx (aVar 4) (aC (.int 0))) (aCons (aC (.ty "bool")) aNil))) (aBlt aIsi (aCons (aOp aIx (aVar 4) (aC (.int 1))) (aCons (aC (.ty "bool")) aNil)))))) (aRet (aC (.bl false))) aNext))
def as__law_equal_5 : AS := (aSeq (aAsg (aMethL aPop (aVar 2) aNil) (agName 4)) as__law_equal_6)
def as__law_equal_3 : AS := (aSeq (aIf (aTest (aOp aEq (aBlt aLen (aCons (aVar 2) aNil)) (aC (.int 0)))) (aRet (aC (.bl true))) aNext) as__law_equal_5)
def as__law_equal_2 : AS := (aSeq (aFor (aRng1 (aCons (aC (.int 400000)) aNil)) (agName 3) as__law_equal_3) (aRet (aC (.bl false))))
def as__law_equal : AS := (aSeq (aAsg (aLst (aCons (aTup (aCons (aVar 0) (aCons (aVar 1) aNil))) aNil)) (agName 2)) as__law_equal_2)

theorem pure__law_equal (ds : List D) (A : Ah) (q : D → Ah → Prop) (x : AX) : sp__law_equal ds A q x → as__law_equal (endsA q x) (startA ["got", "due", "stack", "k", "pair", "i"] ds) A := by
  rintro ⟨g, n, rfl, hsm, hn, h⟩
  (conv => whnf)
  refine ⟨Nat.le_of_ble_eq_true rfl, ?_⟩
  (conv => whnf)
  refine ⟨Nat.le_of_ble_eq_true rfl, fun p hp => ?_⟩
  (conv => whnf)
  refine ⟨by decide, fun i Γ A' => ∃ k pr ii, Γ = [some g, some g, some (.ref p), k, pr, ii] ∧ Ext A A' ∧ ∃ T S, A' p = some (.lst S) ∧ PSt T S ∧ T + i < 400000, ?_, fun _ _ _ _ _ => trivial, ?_, ?_⟩
  · exact ⟨none, none, none, rfl, .new hp, n, _, updA_same, by simpa using PSt.snoc .nil hsm, hn⟩
  · rintro i Γ A' (hi : i < 400000) ⟨k, pr, ii, rfl, hA, T, S, hS, hst, hT⟩
    (conv => whnf)
    refine ⟨S, hS, ?_⟩
    (conv => whnf)
    refine ⟨fun _ => h A' hA, fun hne => ?_⟩
    cases hst with
    | nil => cases hne
    | @snoc m n S d hst hsm =>
    have hn1 := hsm.pos
    (conv => whnf)
    refine ⟨⟨_, hS⟩, ?_⟩
    (conv => whnf)
    refine ⟨_, hS, .tup [d, d], by simp, ?_⟩
    have hA2 : Ext A (updA A' p (.lst (S ++ [D.tup [d, d]]).dropLast)) := hA.upd hp
    have hS2 : updA A' p (.lst (S ++ [D.tup [d, d]]).dropLast) p = some (.lst S) := by rw [updA_same, List.dropLast_concat]
    generalize updA A' p (.lst (S ++ [D.tup [d, d]]).dropLast) = A2 at hA2 hS2 ⊢
    clear hS hA hne
    have i1 : L2.atI [d, d] 1 = some d := atI_of (i := 1) rfl
    have fin : ∀ T' S' A3 ii, Ext A A3 → A3 p = some (.lst S') → PSt T' S' → T' + (i + 1) < 400000 → ∃ k' pr' ii', [some g, some g, some (.ref p), some (.int (0 + (i : Int))), some (.tup [d, d]), ii] = [some g, some g, some (.ref p), k', pr', ii'] ∧ Ext A A3 ∧ ∃ T S, A3 p = some (.lst S) ∧ PSt T S ∧ T + (i + 1) < 400000 :=
      fun T' S' A3 ii h1 h2 h3 h4 => ⟨_, _, _, rfl, h1, T', S', h2, h3, h4⟩
    have fin0 := fin m S A2 ii hA2 hS2 hst (by omega)
    (conv => whnf)
    refine ⟨d, i1, ?_⟩
    cases hsm with
    | non =>
      (conv => whnf)
      refine ⟨_, rfl, by decide, ?_⟩
      (conv => whnf)
      refine ⟨fun z => absurd z (by decide), fun _ => ?_⟩
      (conv => whnf)
      refine ⟨_, atI_zero, ?_⟩
      (conv => whnf)
      refine ⟨_, i1, ?_⟩
      (conv => whnf)
      refine ⟨rfl, rfl, ?_⟩
      (conv => whnf)
      refine ⟨nofun, fun _ => ?_⟩
      (conv => whnf)
      refine ⟨_, atI_zero, ?_⟩
      (conv => whnf)
      refine ⟨_, rfl, by decide, ?_⟩
      (conv => whnf)
      refine ⟨_, i1, ?_⟩
      (conv => whnf)
      refine ⟨_, rfl, by decide, ?_⟩
      (conv => whnf)
      exact ⟨fun z => absurd z (by decide), fun _ => fin0⟩
    | bl b =>
      (conv => whnf)
      refine ⟨_, rfl, by decide, ?_⟩
      (conv => whnf)
      refine ⟨fun z => absurd z (by decide), fun _ => ?_⟩
      (conv => whnf)
      refine ⟨_, atI_zero, ?_⟩
      (conv => whnf)
      refine ⟨_, i1, ?_⟩
      (conv => whnf)
      refine ⟨fun z => absurd z (by simp), fun _ => ?_⟩
      (conv => whnf)
      refine ⟨_, atI_zero, ?_⟩
      (conv => whnf)
      refine ⟨_, rfl, by decide, ?_⟩
      (conv => whnf)
      refine ⟨_, i1, ?_⟩
      (conv => whnf)
      refine ⟨_, rfl, by decide, ?_⟩
      (conv => whnf)
      exact ⟨fun z => absurd z (by decide), fun _ => fin0⟩
    | int j =>
      (conv => whnf)
      refine ⟨_, rfl, by decide, ?_⟩
      (conv => whnf)
      refine ⟨fun z => absurd z (by decide), fun _ => ?_⟩
      (conv => whnf)
      refine ⟨_, atI_zero, ?_⟩
      (conv => whnf)
      refine ⟨_, i1, ?_⟩
      (conv => whnf)
      refine ⟨fun z => absurd z (by simp), fun _ => ?_⟩
      (conv => whnf)
      refine ⟨_, atI_zero, ?_⟩
      (conv => whnf)
      refine ⟨_, rfl, by decide, ?_⟩
      (conv => whnf)
      refine ⟨_, i1, ?_⟩
      (conv => whnf)
      refine ⟨_, rfl, by decide, ?_⟩
      (conv => whnf)
      exact ⟨fun z => absurd z (by decide), fun _ => fin0⟩
    | str cs =>
      (conv => whnf)
      refine ⟨_, rfl, by decide, ?_⟩
      (conv => whnf)
      refine ⟨fun z => absurd z (by decide), fun _ => ?_⟩
      (conv => whnf)
      refine ⟨_, atI_zero, ?_⟩
      (conv => whnf)
      refine ⟨_, i1, ?_⟩
      (conv => whnf)
      refine ⟨fun z => absurd z (by simp), fun _ => ?_⟩
      (conv => whnf)
      refine ⟨_, atI_zero, ?_⟩
      (conv => whnf)
      refine ⟨_, rfl, by decide, ?_⟩
      (conv => whnf)
      refine ⟨_, i1, ?_⟩
      (conv => whnf)
      refine ⟨_, rfl, by decide, ?_⟩
      (conv => whnf)
      exact ⟨fun z => absurd z (by decide), fun _ => fin0⟩
    | @tup n ds hss =>
      (conv => whnf)
      refine ⟨_, rfl, by decide, ?_⟩
      (conv => whnf)
      refine ⟨fun _ => ?_, fun z => absurd z (by decide)⟩
      (conv => whnf)
      refine ⟨_, atI_zero, ?_⟩
      (conv => whnf)
      refine ⟨_, rfl, by decide, ?_⟩
      (conv => whnf)
      refine ⟨fun z => absurd z (by decide), fun _ => ?_⟩
      (conv => whnf)
      refine ⟨_, atI_zero, ?_⟩
      (conv => whnf)
      refine ⟨_, i1, ?_⟩
      have hl2 := hss.len
      (conv => whnf)
      refine ⟨fun z => absurd z (by simp), fun _ => ?_⟩
      (conv => whnf)
      refine ⟨_, i1, ?_⟩
      (conv => whnf)
      refine ⟨by omega, fun j Γ A3 => ∃ ii m1 m2 S', Γ = [some g, some g, some (.ref p), some (.int (0 + (i : Int))), some (.tup [.tup ds, .tup ds]), ii] ∧ Ext A A3 ∧ A3 p = some (.lst S') ∧ PSt (m + m1) S' ∧ PlsAt ds j m2 ∧ n = m1 + m2, ?_, fun _ _ _ _ _ => trivial, ?_, ?_⟩
      · exact ⟨ii, 0, n, S, rfl, hA2, hS2, hst, ⟨hss⟩, by omega⟩
      · rintro j Γ A3 (hj : j < (ds.length : Int).toNat) ⟨ii, m1, m2, S', rfl, hA3, hS3, hst3, hat, hnm⟩
        obtain ⟨n1, m3, d, h1, h3, h4, h5⟩ := hat.step (by omega)
        have hi1 : L2.atI ds (0 + (j : Int)) = some d := by rw [Int.zero_add]; exact atI_of h1
        (conv => whnf)
        refine ⟨⟨_, hS3⟩, ?_⟩
        (conv => whnf)
        refine ⟨_, atI_zero, ?_⟩
        (conv => whnf)
        refine ⟨d, hi1, ?_⟩
        (conv => whnf)
        refine ⟨_, i1, ?_⟩
        (conv => whnf)
        refine ⟨d, hi1, ?_⟩
        (conv => whnf)
        refine ⟨Nat.le_of_ble_eq_true rfl, ?_⟩
        (conv => whnf)
        refine ⟨_, hS3, by have := hst3.len; rw [big_eq]; omega, ?_⟩
        exact ⟨_, m1 + n1, m3, _, rfl, hA3.upd hp, updA_same, by rw [← Nat.add_assoc]; exact .snoc hst3 h3, h5, by omega⟩
      · rintro Γ A3 ⟨ii, m1, m2, S', rfl, hA3, hS3, hst3, hat, hnm⟩
        exact fin _ S' A3 ii hA3 hS3 hst3 (by omega)
  · rintro Γ A' ⟨k, pr, ii, rfl, hA, T, S, hS, hst, hT⟩
    have hT : T + 400000 < 400000 := hT
    omega
theorem len__law_equal (ds : List D) (A : Ah) (q : D → Ah → Prop) (x : AX) : sp__law_equal ds A q x → ds.length = 2 := by
  rintro ⟨g, n, rfl, _⟩; rfl
def has__law_equal_10 (K : Fg) (a : Addr) (ε : Exn) : AS := (aDrop (aMethL aAppend (aVar 2) (aCons (aTup (aCons (aOp aIx (aOp aIx (aVar 4) (aC (.int 0))) (aVar 5)) (aCons (aOp aIx (aOp aIx (aVar 4) (aC (.int 1))) (aVar 5)) aNil))) aNil)))
def has__law_equal_9 (K : Fg) (a : Addr) (ε : Exn) : AS := (aFor (aRng1 (aCons (aBlt aLen (aCons (aOp aIx (aVar 4) (aC (.int 1))) aNil)) aNil)) (agName 5) (has__law_equal_10 K a ε))
def has__law_equal_6 (K : Fg) (a : Addr) (ε : Exn) : AS := (aIf (aTest (aBlt aIsi (aCons (aOp aIx (aVar 4) (aC (.int 1))) (aCons (aC (.ty "tuple")) aNil)))) (aSeq (aIf (aOrT (aNotT (aTest (aBlt aIsi (aCons (aOp aIx (aVar 4) (aC (.int 0))) (aCons (aC (.ty "tuple")) aNil))))) (aTest (aOp aNe (aBlt aLen (aCons (aOp aIx (aVar 4) (aC (.int 0))) aNil)) (aBlt aLen (aCons (aOp aIx (aVar 4) (aC (.int 1))) aNil))))) (aRet (aC (.bl false))) aNext) (has__law_equal_9 K a ε)) (aIf (aOrT (aTest (aOp aNe (aOp aIx (aVar 4) (aC (.int 0))) (aOp aIx (aVar 4) (aC (.int 1))))) (aTest (aOp aNe (aBlt aIsi (aCons (aOp aIx (aVar 4) (aC (.int 0))) (aCons (aC (.ty "bool")) aNil))) (aBlt aIsi (aCons (aOp aIx (aVar 4) (aC (.int 1))) (aCons (aC (.ty "bool")) aNil)))))) (aRet (aC (.bl false))) aNext))
def has__law_equal_5 (K : Fg) (a : Addr) (ε : Exn) : AS := (aSeq (aAsg (aMethL aPop (aVar 2) aNil) (agName 4)) (has__law_equal_6 K a ε))
def has__law_equal_3 (K : Fg) (a : Addr) (ε : Exn) : AS := (aSeq (aIf (aTest (aOp aEq (aBlt aLen (aCons (aVar 2) aNil)) (aC (.int 0)))) (aRet (aC (.bl true))) aNext) (has__law_equal_5 K a ε))
def has__law_equal_2 (K : Fg) (a : Addr) (ε : Exn) : AS := (aSeq (aFor (aRng1 (aCons (aC (.int 400000)) aNil)) (agName 3) (has__law_equal_3 K a ε)) (aRet (aC (.bl false))))
def has__law_equal (K : Fg) (a : Addr) (ε : Exn) : AS := (aSeq (aAsg (aLst (aCons (aTup (aCons (aVar 0) (aCons (aVar 1) aNil))) aNil)) (agName 2)) (has__law_equal_2 K a ε))

theorem pureh__law_equal (K : Fg) (a : Addr) (ε : Exn) (ds : List D) (A : Ah) (q : D → Ah → Prop) (x : AX) : hsp__law_equal a ε ds A q x → has__law_equal K a ε (endsA q x) (startA ["got", "due", "stack", "k", "pair", "i"] ds) A := pure__law_equal ds A q x
theorem lenh__law_equal (a : Addr) (ε : Exn) (ds : List D) (A : Ah) (q : D → Ah → Prop) (x : AX) : hsp__law_equal a ε ds A q x → ds.length = 2 := len__law_equal ds A q x
def as__law_doubled_3 : AS := (aAsg (aOp aAdd (aVar 1) (aLc (aIter (aVar 1)) (agName 3) aYes (aOp aAdd (aVar 3) (aTup (aCons (aVar 2) aNil))) [3])) (agName 1))
def as__law_doubled_4 : AS := (aRet (aSl (aVar 1) (aPart (aC (.int 1))) aNoP))
def as__law_doubled_2 : AS := (aSeq (aFor (aIter (aBlt aList (aCons (aVar 0) aNil))) (agName 2) as__law_doubled_3) as__law_doubled_4)
def as__law_doubled : AS := (aSeq (aAsg (aLst (aCons (aTup aNil) aNil)) (agName 1)) as__law_doubled_2)

theorem pure__law_doubled (ds : List D) (A : Ah) (q : D → Ah → Prop) (x : AX) : sp__law_doubled ds A q x → as__law_doubled (endsA q x) (startA ["lines", "found", "line", "lot"] ds) A := by
  rintro ⟨L, rfl, hl, h⟩
  (conv => whnf)
  refine ⟨Nat.le_of_ble_eq_true rfl, ?_⟩
  (conv => whnf)
  refine ⟨Nat.le_of_ble_eq_true rfl, fun p hp => ?_⟩
  have ep : updA A p (.lst [.tup []]) p = some (.lst ((allL []).map tupS)) := updA_same
  have G := Ext.new (c := .lst [.tup []]) hp
  generalize updA A p (.lst [.tup []]) = A1 at ep G ⊢
  (conv => whnf)
  intro r hr
  have hpr : p ≠ r := neA ep hr
  have ep := Ext.new (c := .lst (L.map D.str)) hr _ _ ep
  have er : updA A1 r (.lst (L.map D.str)) r = some (.lst (L.map D.str)) := updA_same
  have G := G.trans (Ext.new (c := .lst (L.map D.str)) hr)
  generalize updA A1 r (.lst (L.map D.str)) = A2 at ep er G ⊢
  refine ⟨_, er, ?_⟩
  refine ⟨fun i Γ A' => ∃ (p : Addr) (a : Option D), Γ = [some (.tup (L.map D.str)), some (.ref p), a, none] ∧ A' p = some (.lst ((allL (L.take i)).map tupS)) ∧ A' r = some (.lst (L.map D.str)) ∧ Ext A A', ⟨p, _, rfl, ep, er, G⟩, fun i Γ A' _ => fun ⟨_, _, _, _, e, _⟩ => e, ?_, ?_⟩
  · rintro i Γ A3 (hi : i < (L.map D.str).length) ⟨p, a, rfl, ep, er, G3⟩
    rw [List.length_map] at hi
    show agName 2 ((L.map D.str).getD i .non) _ _ _
    rw [map_getD _ hi]
    have ht : L.take (i + 1) = L.take i ++ [L[i]] := by rw [List.take_succ, List.getElem?_eq_getElem hi]; rfl
    have hz : (L.take i).length ≤ 8 := by rw [List.length_take]; omega
    generalize L[i] = c at ht ⊢
    have hst := all_snoc (L.take i) c
    rw [← ht] at hst
    have hEl := all_len (L.take i)
    have hE8 := pow8d _ hz
    have hEs : ∀ s ∈ allL (L.take i), s.length ≤ 8 := fun s hs => by
      obtain ⟨m, _, rfl⟩ := List.mem_map.mp hs
      exact Nat.le_trans (pk_len _ _) hz
    generalize allL (L.take i) = E at ep hEl hEs hst
    (conv => whnf)
    refine ⟨_, ep, ?_⟩
    refine lc_ofS (it := ⟨some (p, E.map tupS), (E.map tupS).length, fun i => (E.map tupS).getD i .non⟩) (fun t => tupS (E.getD t [] ++ [c])) (fun A' G' => G' p _ ep) (by show (E.map tupS).length ≤ _; rw [List.length_map, big_eq]; omega) ?_ ?_
    · intro t A' κ sk ht2 G' hk
      have ht2 : t < E.length := by rw [show _ = (E.map tupS).length from rfl, List.length_map] at ht2; exact ht2
      show agName 3 ((E.map tupS).getD t .non) _ _ _
      rw [map_getD _ ht2]
      rw [List.getD_eq_getElem?_getD, List.getElem?_eq_getElem ht2] at hk
      have hs := hEs _ (List.getElem_mem ht2)
      generalize E[t] = s at hk hs ⊢
      have hk : κ (tupS (s ++ [c])) A' := hk
      (repeat ((conv => whnf); first | (refine ⟨?_, fun _ => ?_⟩; · (intro z; cases z)) | (refine ⟨fun _ => ?_, ?_⟩; rotate_left; · (intro z; cases z)) | (refine ⟨?_, fun _ => ?_⟩; · (intro z; exact absurd z (by decide))) | (refine ⟨fun _ => ?_, ?_⟩; rotate_left; · (intro z; exact absurd z (by decide)))))
      (conv => whnf)
      refine ⟨Nat.le_of_ble_eq_true rfl, ?_⟩
      (conv => whnf)
      refine ⟨by rw [List.length_map, big_eq]; show s.length + 1 ≤ _; omega, ?_⟩
      have e2 : D.tup (s.map D.str ++ [.str c]) = tupS (s ++ [c]) := by simp
      rw [e2]
      exact hk
    · intro g hg
      have eq1 : (List.range (E.map tupS).length).map (fun t => tupS (E.getD t [] ++ [c])) = (E.map (· ++ [c])).map tupS := by
        rw [List.length_map, range_map (g := fun s => tupS (s ++ [c])), List.map_map]; rfl
      show (fun d A' => _) (D.ref g) (updA A3 g (.lst ((List.range (E.map tupS).length).map (fun t => tupS (E.getD t [] ++ [c])))))
      rw [eq1]
      have ep := Ext.new (c := .lst ((E.map (· ++ [c])).map tupS)) hg _ _ ep
      have er := Ext.new (c := .lst ((E.map (· ++ [c])).map tupS)) hg _ _ er
      have eg : updA A3 g (.lst ((E.map (· ++ [c])).map tupS)) g = some (.lst ((E.map (· ++ [c])).map tupS)) := updA_same
      have G4 := G3.trans (Ext.new (c := .lst ((E.map (· ++ [c])).map tupS)) hg)
      generalize updA A3 g (.lst ((E.map (· ++ [c])).map tupS)) = A4 at ep er eg G4 ⊢
      (conv => whnf)
      refine ⟨_, ep, _, eg, by rw [List.length_map, List.length_map, List.length_map, big_eq]; omega, fun r2 hr2 => ?_⟩
      exact ⟨r2, _, rfl, by rw [updA_same, hst, List.map_append], Ext.new hr2 _ _ er, G4.trans (.new hr2)⟩
  · rintro Γ A3 ⟨p, a, rfl, ep, er, G3⟩
    have ep : A3 p = some (.lst ((allL (L.take (L.map D.str).length)).map tupS)) := ep
    rw [List.length_map, List.take_length] at ep
    (conv => whnf)
    refine ⟨_, ep, ?_⟩
    have hc : GA.cutD ((allL L).map tupS) (some 1) none = ((allL L).drop 1).map tupS := by rw [cut_map]; congr 1; exact cut_from (k := 1)
    (conv => whnf)
    rw [hc]
    intro g hg
    refine h g _ ?_ (G3.trans (.new hg)) updA_same
    cases z : A g with
    | none => rfl
    | some c => rw [G3 g c z] at hg; cases hg
theorem len__law_doubled (ds : List D) (A : Ah) (q : D → Ah → Prop) (x : AX) : sp__law_doubled ds A q x → ds.length = 1 := by
  rintro ⟨L, rfl, _⟩; rfl
def as__law_store_7 : AS := (aIf (aTest (aOp aGe (aVar 4) (aOp aPow (aC (.int 10)) (aC (.int 18))))) (aDrop (aMethL aAppend (aVar 2) (aCons (aVar 4) aNil))) (aDrop (aMethL aAppend (aVar 2) (aCons (aOp aMod (aBlt aInt (aCons (aCall sp__law_mix (aCons (aOp aSub (aOp aAdd (aOp aAdd (aOp aMul (aVar 4) (aC (.int 128))) (aOp aMul (aVar 5) (aC (.int 64)))) (aBlt aLen (aCons (aVar 2) aNil))) (aC (.int 6))) aNil)) aNil)) (aOp aPow (aC (.int 10)) (aC (.int 18)))) aNil))))
def as__law_store_6 : AS := (aSeq (aAsg (aCall sp__law_mix (aCons (aOp aAdd (aOp aAdd (aOp aIx (aVar 2) (aC (.int 5))) (aOp aMul (aVar 4) (aC (.int 2)))) (aVar 5)) aNil)) (agSubL (aVar 2) (aC (.int 5)))) as__law_store_7)
def as__law_store_5 : AS := (aSeq (aAsg (aBlt aInt (aCons (aOp aLt (aVar 3) (aC (.int 0))) aNil)) (agName 5)) as__law_store_6)
def as__law_store_4 : AS := (aSeq (aAsg (aOp aMod (aBlt aInt (aCons (aBlt aAbs (aCons (aBlt aInt (aCons (aVar 3) aNil)) aNil)) aNil)) (aVar 1)) (agName 4)) as__law_store_5)
def as__law_store_3 : AS := (aSeq (aFor (aIter (aSl (aBlt aList (aCons (aVar 0) aNil)) aNoP (aPart (aC (.int 63))))) (agName 3) as__law_store_4) (aRet (aVar 2)))
def as__law_store_2 : AS := (aSeq (aAsg (aLst (aCons (aC (.int 6)) (aCons (aC (.int 0)) (aCons (aC (.int 0)) (aCons (aC (.int 0)) (aCons (aC (.int 0)) (aCons (aC (.int 7)) aNil))))))) (agName 2)) as__law_store_3)
def as__law_store : AS := (aSeq (aAsg (aOp aMul (aOp aMul (aOp aMul (aOp aPow (aC (.int 10)) (aC (.int 64))) (aOp aPow (aC (.int 10)) (aC (.int 64)))) (aOp aPow (aC (.int 10)) (aC (.int 64)))) (aOp aPow (aC (.int 10)) (aC (.int 64)))) (agName 1)) as__law_store_2)

theorem wide_eq : (10 : Int) ^ (64 : Int).toNat * 10 ^ (64 : Int).toNat * 10 ^ (64 : Int).toNat * 10 ^ (64 : Int).toNat = Wd := by decide +kernel
theorem wide1 : SmallI ((10 : Int) ^ (64 : Int).toNat) := by unfold SmallI lim; decide +kernel
theorem wide2 : SmallI ((10 : Int) ^ (64 : Int).toNat * 10 ^ (64 : Int).toNat) := by unfold SmallI lim; decide +kernel
theorem wide3 : SmallI ((10 : Int) ^ (64 : Int).toNat * 10 ^ (64 : Int).toNat * 10 ^ (64 : Int).toNat) := by unfold SmallI lim; decide +kernel
theorem Wd_pos : 0 < Wd := by decide +kernel
theorem Wd_18 : (1000000000000000000 : Int) ≤ Wd := by decide +kernel
theorem Wd_mix : (18446744073709551557 : Int) ≤ Wd := by decide +kernel
theorem stL_app {c0 c1 c2 c3 c4 c5 z : Int} {r : List Int} : stL c0 c1 c2 c3 c4 c5 r ++ [.int z] = stL c0 c1 c2 c3 c4 c5 (r ++ [z]) := by simp [stL]
theorem pure__law_store (ds : List D) (A : Ah) (q : D → Ah → Prop) (x : AX) : sp__law_store ds A q x → as__law_store (endsA q x) (startA ["script", "wide", "store", "cell", "amount", "sign"] ds) A := by
  rintro ⟨is, rfl, h⟩
  (conv => whnf)
  refine ⟨by decide, ?_⟩
  (conv => whnf)
  refine ⟨by decide, ?_⟩
  (conv => whnf)
  refine ⟨wide1, wide1, ?_⟩
  (conv => whnf)
  refine ⟨by decide, ?_⟩
  (conv => whnf)
  refine ⟨wide2, wide1, ?_⟩
  (conv => whnf)
  refine ⟨by decide, ?_⟩
  (conv => whnf)
  refine ⟨wide3, wide1, ?_⟩
  have key : ∀ wd : Int, wd = Wd → as__law_store_2 (endsA q x) [some (.lof (is.map D.int)), some (.int wd), none, none, none, none] A := by
    rintro wd hwd
    (conv => whnf)
    refine ⟨by decide, fun l hl => ?_⟩
    have h1 : updA A l (.lst [.int 6, .int 0, .int 0, .int 0, .int 0, .int 7]) l = some (.lst (stL 6 0 0 0 0 7 [])) := updA_same
    generalize updA A l (.lst [.int 6, .int 0, .int 0, .int 0, .int 0, .int 7]) = A1 at h1 ⊢
    (conv => whnf)
    intro p hp
    (conv => whnf)
    refine ⟨_, updA_same, ?_⟩
    (conv => whnf)
    intro p2 hp2
    have h2 : updA (updA A1 p (.lst (is.map D.int))) p2 (.lst (GA.cutD (is.map D.int) none (some 63))) l = some (.lst (stL 6 0 0 0 0 7 [])) := Ext.new hp2 _ _ (Ext.new hp _ _ h1)
    have h3 : updA (updA A1 p (.lst (is.map D.int))) p2 (.lst (GA.cutD (is.map D.int) none (some 63))) p2 = some (.lst (GA.cutD (is.map D.int) none (some 63))) := updA_same
    have hlp : p2 ≠ l := fun z => by rw [z, Ext.new hp _ _ h1] at hp2; cases hp2
    generalize updA (updA A1 p (.lst (is.map D.int))) p2 (.lst (GA.cutD (is.map D.int) none (some 63))) = A2 at h2 h3 ⊢
    have hcut : ∃ js : List Int, GA.cutD (is.map D.int) none (some 63) = js.map D.int ∧ js.length ≤ 63 := by
      refine ⟨GA.cutD is none (some 63), by unfold GA.cutD; simp [HT.sIx], ?_⟩
      unfold GA.cutD
      rw [List.length_take]
      refine Nat.le_trans (Nat.min_le_left ..) ?_
      simp only [HT.sIx]
      rw [if_neg (by decide)]
      have : Int.toNat 63 = 63 := rfl
      omega
    obtain ⟨js, e, hjs⟩ := hcut
    rw [e] at h3
    (conv => whnf)
    refine ⟨_, h3, fun i Γ A' => ∃ (c5 : Int) (r : List Int) (a b c : Option D), Γ = [some (.lof (is.map D.int)), some (.int wd), some (.ref l), a, b, c] ∧ A' l = some (.lst (stL 6 0 0 0 0 c5 r)) ∧ A' p2 = some (.lst (js.map D.int)) ∧ r.length ≤ i ∧ (0 ≤ c5 ∧ c5 ≤ Wd) ∧ ∀ i ∈ r, 0 ≤ i ∧ i ≤ Wd, ?_, ?_, ?_, ?_⟩
    · exact ⟨7, [], _, _, _, rfl, h2, h3, Nat.zero_le _, ⟨by decide, by have := Wd_18; omega⟩, nofun⟩
    · rintro i Γ A' _ ⟨c5, r, a, b, c, rfl, g1, g2, _⟩; exact g2
    · rintro i Γ A' (hi : i < (js.map D.int).length) ⟨c5, r, a, b, c, rfl, g1, g2, g3, g4, g5⟩
      rw [List.length_map] at hi
      have hd : ∃ z : Int, (js.map D.int).getD i .non = .int z := by
        rw [List.getD_eq_getElem?_getD, List.getElem?_map, List.getElem?_eq_getElem hi]; exact ⟨_, rfl⟩
      obtain ⟨z, hz⟩ := hd
      show agName 3 ((js.map D.int).getD i .non) _ _ _
      rw [hz]
      have hwp := Wd_pos
      (conv => whnf)
      refine ⟨by omega, ?_⟩
      have a0 : 0 ≤ (if z < 0 then -z else z) % wd := Int.emod_nonneg _ (by omega)
      have a1 : (if z < 0 then -z else z) % wd < wd := Int.emod_lt_of_pos _ (by omega)
      generalize (if z < 0 then -z else z) % wd = am at a0 a1
      rw [hwd] at a1
      have b0 : 0 ≤ (if decide (z < 0) = true then (1 : Int) else 0) ∧ (if decide (z < 0) = true then (1 : Int) else 0) ≤ 1 := by split <;> decide
      ((conv => whnf); refine ⟨_, g1, _, atI_c5, ?_⟩)
      (conv => whnf)
      refine ⟨smallW a0 (by omega), small128 (by decide) (by decide), ?_⟩
      (conv => whnf)
      refine ⟨_, rfl, fun m m0 m1 => ?_⟩
      ((conv => whnf); refine ⟨_, g1, _, ixN_c5, ?_⟩; generalize E2 : updA A' l _ = A3; have e3 : A3 l = some (.lst (stL 6 0 0 0 0 m r)) := (by rw [← E2]; exact updA_same); have KA3 : Kp l A' A3 := (by rw [← E2]; exact .set); clear E2)
      have g2 := KA3 _ _ hlp g2
      have hm : 0 ≤ m ∧ m ≤ Wd := ⟨m0, by have := Wd_mix; omega⟩
      have fin : ∀ (sgo : Option D) y A4, Kp l A3 A4 → 0 ≤ y → y ≤ Wd → A4 l = some (.lst (stL 6 0 0 0 0 m r ++ [.int y])) → ∃ (c5 : Int) (r : List Int) (a b c : Option D), [some (.lof (is.map D.int)), some (.int wd), some (.ref l), some (.int z), some (.int am), sgo] = [some (.lof (is.map D.int)), some (.int wd), some (.ref l), a, b, c] ∧ A4 l = some (.lst (stL 6 0 0 0 0 c5 r)) ∧ A4 p2 = some (.lst (js.map D.int)) ∧ r.length ≤ i + 1 ∧ (0 ≤ c5 ∧ c5 ≤ Wd) ∧ ∀ i ∈ r, 0 ≤ i ∧ i ≤ Wd := by
        intro sgo y A4 K4 y0 y1 e4
        refine ⟨m, r ++ [y], _, _, _, rfl, by rw [e4, stL_app], K4 _ _ hlp g2, by simp; omega, hm, fun j hj => ?_⟩
        rcases List.mem_append.mp hj with hj | hj
        · exact g5 j hj
        · rw [List.mem_singleton.mp hj]; exact ⟨y0, y1⟩
      have hlen : (stL 6 0 0 0 0 m r).length < big := by rw [stL_len, big_eq]; omega
      (conv => whnf)
      refine ⟨by decide, ?_⟩
      (conv => whnf)
      refine ⟨fun _ => ?_, fun _ => ?_⟩
      · (conv => whnf)
        refine ⟨⟨_, e3⟩, ?_⟩
        (conv => whnf)
        refine ⟨_, e3, hlen, ?_⟩
        exact fin _ am _ .set a0 (by omega) updA_same
      · (conv => whnf)
        refine ⟨⟨_, e3⟩, ?_⟩
        (conv => whnf)
        refine ⟨smallW a0 (by omega), small128 (by decide) (by decide), ?_⟩
        (conv => whnf)
        refine ⟨small128 (by omega) (by omega), small128 (by decide) (by decide), ?_⟩
        (conv => whnf)
        refine ⟨_, e3, ?_⟩
        (conv => whnf)
        refine ⟨_, rfl, fun y y0 y1 => ?_⟩
        (conv => whnf)
        refine ⟨by decide, ?_⟩
        (conv => whnf)
        refine ⟨by decide, ?_⟩
        have w18 : (10 : Int) ^ (18 : Int).toNat = 1000000000000000000 := by decide
        have v0 : 0 ≤ y % 10 ^ (18 : Int).toNat := Int.emod_nonneg _ (by rw [w18]; decide)
        have v1 : y % 10 ^ (18 : Int).toNat ≤ Wd := by
          have := Int.emod_lt_of_pos y (show 0 < (10 : Int) ^ (18 : Int).toNat by rw [w18]; decide)
          have := Wd_18
          rw [w18] at *
          omega
        (conv => whnf)
        refine ⟨_, e3, hlen, ?_⟩
        exact fin _ _ _ .set v0 v1 updA_same
    · rintro Γ A' ⟨c5, r, a, b, c, rfl, g1, g2, g3, g4, g5⟩
      have g3 : r.length ≤ (js.map D.int).length := g3
      rw [List.length_map] at g3
      exact h l A' ⟨_, _, _, _, _, _, _, g1, ⟨by omega, by decide, ⟨by decide, by have := Wd_18; omega⟩, by decide, by decide, by decide, g4, g5⟩⟩
  exact key _ wide_eq
theorem len__law_store (ds : List D) (A : Ah) (q : D → Ah → Prop) (x : AX) : sp__law_store ds A q x → ds.length = 1 := by
  rintro ⟨is, rfl, _⟩; rfl
def as__law_take_7 : AS := (aAsg (aOp aAdd (aC (.int 4)) (aOp aMul (aC (.int 56)) (aOp aIx (aVar 0) (aC (.int 3))))) (agSubL (aVar 0) (aC (.int 2))))
def as__law_take_6 : AS := (aSeq (aAsg (aBlt aInt (aCons (aOp aGe (aOp aIx (aVar 0) (aC (.int 1))) (aOp aPow (aC (.int 10)) (aC (.int 18)))) aNil)) (agSubL (aVar 0) (aC (.int 3)))) as__law_take_7)
def as__law_take_5 : AS := (aSeq (aAsg (aOp aAdd (aOp aIx (aVar 0) (aC (.int 0))) (aC (.int 1))) (agSubL (aVar 0) (aC (.int 0)))) as__law_take_6)
def as__law_take_16 : AS := (aSeq (aIf (aTest (aOp aEq (aOp aIx (aVar 0) (aC (.int 1))) (aC (.int 0)))) (aAsg (aC (.int 0)) (agSubL (aVar 0) (aC (.int 2)))) aNext) (aRet (aVar 2)))
def as__law_take_15 : AS := (aSeq (aAsg (aOp aDiv (aOp aIx (aVar 0) (aC (.int 1))) (aVar 1)) (agSubL (aVar 0) (aC (.int 1)))) as__law_take_16)
def as__law_take_14 : AS := (aSeq (aAsg (aOp aMod (aBlt aInt (aCons (aOp aIx (aVar 0) (aC (.int 1))) aNil)) (aVar 1)) (agName 2)) as__law_take_15)
def as__law_take_12 : AS := (aSeq (aIf (aTest (aOp aEq (aOp aIx (aVar 0) (aC (.int 3))) (aC (.int 0)))) (aRet (aOp aMod (aBlt aInt (aCons (aCall sp__law_mix (aCons (aCall sp__law_mix (aCons (aOp aAdd (aOp aMul (aOp aIx (aVar 0) (aC (.int 1))) (aC (.int 8))) (aOp aIx (aVar 0) (aC (.int 2)))) aNil)) aNil)) aNil)) (aVar 1))) aNext) as__law_take_14)
def as__law_take_11 : AS := (aSeq (aAsg (aOp aSub (aOp aIx (aVar 0) (aC (.int 2))) (aC (.int 1))) (agSubL (aVar 0) (aC (.int 2)))) as__law_take_12)
def as__law_take_9 : AS := (aSeq (aIf (aTest (aOp aEq (aOp aIx (aVar 0) (aC (.int 2))) (aC (.int 0)))) (aRet (aOp aMod (aBlt aInt (aCons (aCall sp__law_mix (aCons (aCall sp__law_mix (aCons (aOp aAdd (aOp aIx (aVar 0) (aC (.int 5))) (aOp aMul (aOp aIx (aVar 0) (aC (.int 4))) (aC (.int 2654435761)))) aNil)) aNil)) aNil)) (aVar 1))) aNext) as__law_take_11)
def as__law_take_8 : AS := (aSeq (aAsg (aOp aAdd (aOp aIx (aVar 0) (aC (.int 4))) (aC (.int 1))) (agSubL (aVar 0) (aC (.int 4)))) as__law_take_9)
def as__law_take_3 : AS := (aSeq (aIf (aAndT (aTest (aOp aEq (aOp aIx (aVar 0) (aC (.int 2))) (aC (.int 0)))) (aTest (aOp aLt (aOp aIx (aVar 0) (aC (.int 0))) (aBlt aLen (aCons (aVar 0) aNil))))) (aSeq (aAsg (aOp aIx (aVar 0) (aOp aIx (aVar 0) (aC (.int 0)))) (agSubL (aVar 0) (aC (.int 1)))) as__law_take_5) aNext) as__law_take_8)
def as__law_take : AS := (aSeq (aIf (aTest (aOp aLt (aVar 1) (aC (.int 2)))) (aRet (aC (.int 0))) aNext) as__law_take_3)

theorem pure__law_take (ds : List D) (A : Ah) (q : D → Ah → Prop) (x : AX) : sp__law_take ds A q x → as__law_take (endsA q x) (startA ["store", "many", "found"] ds) A := by
  rintro ⟨l, n, many, rfl, ⟨c0, c1, c2, c3, c4, c5, r, e, I⟩, hn, hm, h⟩
  (conv => whnf)
  refine ⟨fun h1 => ?_, fun h1 => ?_⟩
  · exact h 0 A (by decide) (.inr rfl) .rfl ⟨c0, c1, c2, c3, c4, c5, r, e, ⟨I.len, I.h0, I.h1, I.h2, I.h3, by have := I.h4; omega, I.h5, I.hr⟩⟩
  have hm2 : 2 ≤ many := by have := of_decide_eq_false h1; omega
  clear h1
  have rest : ∀ (A1 : Ah) c0 c1 c2 c3, A1 l = some (.lst (stL c0 c1 c2 c3 c4 c5 r)) → StI c0 c1 c2 c3 c4 c5 r n → Kp l A A1 → as__law_take_8 (endsA q x) [some (.ref l), some (.int many), none] A1 := by
    clear e I c0 c1 c2 c3
    intro A1 c0 c1 c2 c3 e I K1
    ((conv => whnf); refine ⟨_, e, _, atI_c4, ?_⟩)
    ((conv => whnf); refine ⟨_, e, _, ixN_c4, ?_⟩; generalize E2 : updA A1 l _ = A2; have e2 : A2 l = some (.lst (stL c0 c1 c2 c3 (c4 + 1) c5 r)) := (by rw [← E2]; exact updA_same); have KA2 : Kp l A1 A2 := (by rw [← E2]; exact .set); clear E2)
    have I2 : StI c0 c1 c2 c3 (c4 + 1) c5 r (n + 1) := ⟨I.len, I.h0, I.h1, I.h2, I.h3, by have := I.h4; omega, I.h5, I.hr⟩
    have S4 : SmallI (c4 + 1) := small128 (by have := I.h4; omega) (by have := I.h4; omega)
    have KA2 := K1.trans KA2
    have hq : ∀ j, 0 ≤ j → q (.int (j % many)) A2 := fun j _ => h _ A2 (Int.emod_nonneg _ (by omega)) (.inl (Int.emod_lt_of_pos _ (by omega))) KA2 ⟨_, _, _, _, _, _, _, e2, I2⟩
    ((conv => whnf); refine ⟨_, e2, _, atI_c2, ?_⟩)
    (conv => whnf)
    refine ⟨fun h1 => ?_, fun h1 => ?_⟩
    · ((conv => whnf); refine ⟨_, e2, _, atI_c5, ?_⟩)
      ((conv => whnf); refine ⟨_, e2, _, atI_c4, ?_⟩)
      (conv => whnf)
      refine ⟨S4, small128 (by decide) (by decide), ?_⟩
      (conv => whnf)
      refine ⟨_, rfl, fun j hj _ => ?_⟩
      (conv => whnf)
      refine ⟨_, rfl, fun j hj _ => ?_⟩
      (conv => whnf)
      refine ⟨by omega, hq _ hj⟩
    have hc2 : 1 ≤ c2 := by have := of_decide_eq_false h1; have := I.h2; omega
    clear h1
    ((conv => whnf); refine ⟨_, e2, _, atI_c2, ?_⟩)
    ((conv => whnf); refine ⟨_, e2, _, ixN_c2, ?_⟩; generalize E2 : updA A2 l _ = A3; have e3 : A3 l = some (.lst (stL c0 c1 (c2 - 1) c3 (c4 + 1) c5 r)) := (by rw [← E2]; exact updA_same); have KA3 : Kp l A2 A3 := (by rw [← E2]; exact .set); clear E2)
    have I3 : StI c0 c1 (c2 - 1) c3 (c4 + 1) c5 r (n + 1) := ⟨I2.len, I2.h0, I2.h1, by have := I.h2; omega, I.h3, I2.h4, I.h5, I.hr⟩
    have KA3 := KA2.trans KA3
    ((conv => whnf); refine ⟨_, e3, _, atI_c3, ?_⟩)
    (conv => whnf)
    refine ⟨fun h1 => ?_, fun h1 => ?_⟩
    · ((conv => whnf); refine ⟨_, e3, _, atI_c1, ?_⟩)
      (conv => whnf)
      refine ⟨smallW I.h1.1 I.h1.2, small128 (by decide) (by decide), ?_⟩
      ((conv => whnf); refine ⟨_, e3, _, atI_c2, ?_⟩)
      (conv => whnf)
      refine ⟨_, rfl, fun j hj _ => ?_⟩
      (conv => whnf)
      refine ⟨_, rfl, fun j hj _ => ?_⟩
      (conv => whnf)
      exact ⟨by omega, h _ A3 (Int.emod_nonneg _ (by omega)) (.inl (Int.emod_lt_of_pos _ (by omega))) KA3 ⟨_, _, _, _, _, _, _, e3, I3⟩⟩
    clear h1
    ((conv => whnf); refine ⟨_, e3, _, atI_c1, ?_⟩)
    (conv => whnf)
    refine ⟨by omega, ?_⟩
    ((conv => whnf); refine ⟨_, e3, _, atI_c1, ?_⟩)
    (conv => whnf)
    refine ⟨by omega, small128 (by omega) (by omega), ?_⟩
    ((conv => whnf); refine ⟨_, e3, _, ixN_c1, ?_⟩; generalize E2 : updA A3 l _ = A4; have e4 : A4 l = some (.lst (stL c0 (c1 / many) (c2 - 1) c3 (c4 + 1) c5 r)) := (by rw [← E2]; exact updA_same); have KA4 : Kp l A3 A4 := (by rw [← E2]; exact .set); clear E2)
    have I4 : StI c0 (c1 / many) (c2 - 1) c3 (c4 + 1) c5 r (n + 1) := ⟨I2.len, I2.h0, ⟨Int.ediv_nonneg I.h1.1 (by omega), Int.le_trans (Int.ediv_le_self _ I.h1.1) I.h1.2⟩, I3.h2, I.h3, I2.h4, I.h5, I.hr⟩
    have KA4 := KA3.trans KA4
    ((conv => whnf); refine ⟨_, e4, _, atI_c1, ?_⟩)
    (conv => whnf)
    refine ⟨fun h1 => ?_, fun h1 => ?_⟩
    · ((conv => whnf); refine ⟨_, e4, _, ixN_c2, ?_⟩; generalize E2 : updA A4 l _ = A5; have e5 : A5 l = some (.lst (stL c0 (c1 / many) 0 c3 (c4 + 1) c5 r)) := (by rw [← E2]; exact updA_same); have KA5 : Kp l A4 A5 := (by rw [← E2]; exact .set); clear E2)
      (conv => whnf)
      exact h _ A5 (Int.emod_nonneg _ (by omega)) (.inl (Int.emod_lt_of_pos _ (by omega))) (KA4.trans KA5) ⟨_, _, _, _, _, _, _, e5, ⟨I4.len, I4.h0, I4.h1, by decide, I.h3, I4.h4, I.h5, I.hr⟩⟩
    · (conv => whnf)
      exact h _ A4 (Int.emod_nonneg _ (by omega)) (.inl (Int.emod_lt_of_pos _ (by omega))) KA4 ⟨_, _, _, _, _, _, _, e4, I4⟩
  ((conv => whnf); refine ⟨_, e, _, atI_c2, ?_⟩)
  (conv => whnf)
  refine ⟨fun h1 => ?_, fun _ => ?_⟩
  · ((conv => whnf); refine ⟨_, e, _, atI_c0, ?_⟩)
    (conv => whnf)
    refine ⟨_, e, ?_⟩
    (conv => whnf)
    refine ⟨fun h2 => ?_, fun _ => rest A _ _ _ _ e I .rfl⟩
    obtain ⟨z, hz, ez⟩ := atI_cr (r := r) (c1 := c1) (c2 := c2) (c3 := c3) (c4 := c4) (c5 := c5) I.h0 (of_decide_eq_true h2)
    ((conv => whnf); refine ⟨_, e, _, atI_c0, ?_⟩)
    (conv => whnf)
    refine ⟨_, e, _, ez, ?_⟩
    ((conv => whnf); refine ⟨_, e, _, ixN_c1, ?_⟩; generalize E2 : updA A l _ = A2; have e2 : A2 l = some (.lst (stL c0 z c2 c3 c4 c5 r)) := (by rw [← E2]; exact updA_same); have KA2 : Kp l A A2 := (by rw [← E2]; exact .set); clear E2)
    ((conv => whnf); refine ⟨_, e2, _, atI_c0, ?_⟩)
    ((conv => whnf); refine ⟨_, e2, _, ixN_c0, ?_⟩; generalize E2 : updA A2 l _ = A3; have e3 : A3 l = some (.lst (stL (c0 + 1) z c2 c3 c4 c5 r)) := (by rw [← E2]; exact updA_same); have KA3 : Kp l A2 A3 := (by rw [← E2]; exact .set); clear E2)
    ((conv => whnf); refine ⟨_, e3, _, atI_c1, ?_⟩)
    (conv => whnf)
    refine ⟨by decide, ?_⟩
    ((conv => whnf); refine ⟨_, e3, _, ixN_c3, ?_⟩; generalize E2 : updA A3 l _ = A4; have e4 : A4 l = some (.lst (stL (c0 + 1) z c2 (if decide (10 ^ 18 ≤ z) = true then 1 else 0) c4 c5 r)) := (by rw [← E2]; exact updA_same); have KA4 : Kp l A3 A4 := (by rw [← E2]; exact .set); clear E2)
    have hb : 0 ≤ (if decide (10 ^ 18 ≤ z) = true then (1 : Int) else 0) ∧ (if decide (10 ^ 18 ≤ z) = true then (1 : Int) else 0) ≤ 1 := by split <;> decide
    generalize (if decide (10 ^ 18 ≤ z) = true then (1 : Int) else 0) = b at e4 hb
    ((conv => whnf); refine ⟨_, e4, _, atI_c3, ?_⟩)
    (conv => whnf)
    refine ⟨small128 (by decide) (by decide), small128 (by omega) (by omega), ?_⟩
    ((conv => whnf); refine ⟨_, e4, _, ixN_c2, ?_⟩; generalize E2 : updA A4 l _ = A5; have e5 : A5 l = some (.lst (stL (c0 + 1) z (4 + 56 * b) b c4 c5 r)) := (by rw [← E2]; exact updA_same); have KA5 : Kp l A4 A5 := (by rw [← E2]; exact .set); clear E2)
    exact rest A5 _ _ _ _ e5 ⟨I.len, by have := I.h0; omega, I.hr z hz, by omega, hb, I.h4, I.h5, I.hr⟩ (((KA2.trans KA3).trans KA4).trans KA5)
  · (conv => whnf)
    exact ⟨fun z => (by cases z), fun _ => rest A _ _ _ _ e I .rfl⟩
theorem len__law_take (ds : List D) (A : Ah) (q : D → Ah → Prop) (x : AX) : sp__law_take ds A q x → ds.length = 2 := by
  rintro ⟨l, n, many, rfl, _⟩; rfl
def as_check_name : AS := (aSeq (aIf (aNotT (aTest (aCall sp_is_name (aCons (aVar 0) aNil)))) (aRaise "BadName" ["name"] (aCons (aVar 0) aNil)) aNext) (aRet (aVar 0)))

theorem pure_check_name (ds : List D) (A : Ah) (q : D → Ah → Prop) (x : AX) : sp_check_name ds A q x → as_check_name (endsA q x) (startA ["name"] ds) A := by
  rintro ⟨cs, rfl, hb, h1, h2⟩
  (conv => whnf)
  refine ⟨cs, rfl, hb, ?_⟩
  (conv => whnf)
  refine ⟨fun e => ?_, fun e => ?_⟩
  · have e : isNm cs = false := by simpa using e
    (conv => whnf)
    refine ⟨rfl, fun d hd => h2 e d _ (.new hd) updA_same⟩
  · exact h1 (by simpa using e)
theorem len_check_name (ds : List D) (A : Ah) (q : D → Ah → Prop) (x : AX) : sp_check_name ds A q x → ds.length = 1 := by
  rintro ⟨cs, rfl, _⟩; rfl
def as_check_known_lot_6 : AS := (aIf (aAndT (aTest (aOp aGt (aVar 2) (aC (.int 0)))) (aTest (aOp aLe (aOp aIx (aVar 1) (aVar 2)) (aOp aIx (aVar 1) (aOp aSub (aVar 2) (aC (.int 1))))))) (aRaise "BadLot" ["at"] (aCons (aVar 2) aNil)) aNext)
def as_check_known_lot_4 : AS := (aSeq (aIf (aTest (aOp aNiS (aOp aIx (aVar 1) (aVar 2)) (aVar 0))) (aRaise "NoSuchLine" ["name"] (aCons (aOp aIx (aVar 1) (aVar 2)) aNil)) aNext) as_check_known_lot_6)
def as_check_known_lot_3 : AS := (aSeq (aFor (aRng1 (aCons (aBlt aLen (aCons (aVar 1) aNil)) aNil)) (agName 2) as_check_known_lot_4) (aRet (aVar 1)))
def as_check_known_lot : AS := (aSeq (aIf (aTest (aOp aEq (aBlt aLen (aCons (aVar 1) aNil)) (aC (.int 0)))) (aRaise "BadLot" ["at"] (aCons (aC (.int 0)) aNil)) aNext) as_check_known_lot_3)

theorem pure_check_known_lot (ds : List D) (A : Ah) (q : D → Ah → Prop) (x : AX) : sp_check_known_lot ds A q x → as_check_known_lot (endsA q x) (startA ["lines", "lot", "index"] ds) A := by
  rintro ⟨K, L, rfl, hl, h1, h2, h3⟩
  (conv => whnf)
  refine ⟨fun he => ?_, fun he => ?_⟩
  · have he : L = [] := by
      have := of_decide_eq_true he
      rw [List.length_map] at this
      exact List.eq_nil_of_length_eq_zero (by omega)
    subst he
    (conv => whnf)
    exact ⟨rfl, fun d hd => h3 0 rfl d _ (.new hd) updA_same⟩
  have hne : L ≠ [] := by
    intro z; subst z; exact absurd he (by decide)
  have hF : knoF K L = knoG K none 0 L := by unfold knoF; rw [if_neg hne]
  rw [hF] at h1 h2 h3
  (conv => whnf)
  refine ⟨by rw [List.length_map]; omega, fun i Γ A' => A' = A ∧ (∃ a, Γ = [some (.tup (K.map D.str)), some (.tup (L.map D.str)), a]) ∧ knoG K none 0 L = knoG K (if i = 0 then none else L[i - 1]?) i (L.drop i), ⟨rfl, ⟨_, rfl⟩, rfl⟩, fun _ _ _ _ _ => trivial, ?_, ?_⟩
  · rintro i Γ A' (hi : i < ((L.map D.str).length : Int).toNat) ⟨rfl, ⟨a, rfl⟩, hg⟩
    rw [List.length_map] at hi
    have hi : i < L.length := by omega
    have z0 : (0 + (i : Int)) = (i : Int) := Int.zero_add _
    have hx : L2.atI (L.map D.str) (0 + (i : Int)) = some (.str L[i]) := by rw [z0]; exact atI_map _ hi
    have hc : L[i]? = some L[i] := List.getElem?_eq_getElem hi
    have hd : L.drop i = L[i] :: L.drop (i + 1) := List.drop_eq_getElem_cons hi
    generalize L[i] = c at hx hc hd
    rw [hd, knoG_cons] at hg
    (conv => whnf)
    refine ⟨_, hx, rfl, sc_strs K, ?_⟩
    (conv => whnf)
    refine ⟨fun hn => ?_, fun hn => ?_⟩
    · have hn : inD (.str c) (K.map D.str) = false := by simpa using hn
      rw [if_pos (inD_strF.mp hn)] at hg
      (conv => whnf)
      refine ⟨_, hx, ?_⟩
      (conv => whnf)
      exact ⟨rfl, fun d hd => h2 c hg d _ (.new hd) updA_same⟩
    · have hn : inD (.str c) (K.map D.str) = true := by simpa using hn
      rw [if_neg (fun z => z (inD_str.mp hn))] at hg
      have next : lowP (if i = 0 then none else L[i - 1]?) c = false → knoG K none 0 L = knoG K (if i + 1 = 0 then none else L[i + 1 - 1]?) (i + 1) (L.drop (i + 1)) := by
        intro hx
        rw [hg, hx, if_neg Bool.false_ne_true, if_neg (by omega), Nat.add_sub_cancel, hc]
      (conv => whnf)
      refine ⟨fun hp => ?_, fun hp => ?_⟩
      · have hp : 0 < i := by have := of_decide_eq_true hp; omega
        have hp1 : L[i - 1]? = some (L[i - 1]'(by omega)) := List.getElem?_eq_getElem _
        have hy : L2.atI (L.map D.str) (0 + (i : Int) - 1) = some (.str (L[i - 1]'(by omega))) := by rw [show (0 + (i : Int) - 1) = ((i - 1 : Nat) : Int) by omega]; exact atI_map _ _
        generalize L[i - 1]'(by omega) = p at hp1 hy
        have e0 : (if i = 0 then (none : Option (List Nat)) else L[i - 1]?) = L[i - 1]? := if_neg (by omega)
        rw [e0, hp1] at hg next
        (conv => whnf)
        refine ⟨_, hx, ?_⟩
        (conv => whnf)
        refine ⟨_, hy, ?_⟩
        (conv => whnf)
        refine ⟨fun hlt => ?_, fun hlt => ?_⟩
        · have hlt : lowP (some p) c = true := hlt
          rw [if_pos hlt] at hg
          (conv => whnf)
          refine ⟨rfl, fun d hd => h3 i hg d _ (.new hd) ?_⟩
          rw [updA_same]
          show some (Cell.xd [("at", .int (0 + (i : Int)))]) = _
          rw [z0]
        · have hlt : lowP (some p) c = false := hlt
          exact ⟨rfl, ⟨_, rfl⟩, next hlt⟩
      · have hp : i = 0 := by have := of_decide_eq_false hp; omega
        subst hp
        (conv => whnf)
        refine ⟨fun z => Bool.noConfusion z, fun _ => ?_⟩
        exact ⟨rfl, ⟨_, rfl⟩, next rfl⟩
  · rintro Γ A' ⟨rfl, ⟨a, rfl⟩, hg⟩
    have hg : knoG K none 0 L = knoG K (if ((L.map D.str).length : Int).toNat = 0 then none else L[((L.map D.str).length : Int).toNat - 1]?) ((L.map D.str).length : Int).toNat (L.drop ((L.map D.str).length : Int).toNat) := hg
    rw [List.length_map, Int.toNat_natCast, List.drop_length] at hg
    exact h1 (by rw [hg]; rfl)
theorem len_check_known_lot (ds : List D) (A : Ah) (q : D → Ah → Prop) (x : AX) : sp_check_known_lot ds A q x → ds.length = 2 := by
  rintro ⟨K, L, rfl, _⟩; rfl
def as__law_pick : AS := (aRet (aOp aIx (aVar 1) (aCall sp__law_take (aCons (aVar 0) (aCons (aBlt aLen (aCons (aVar 1) aNil)) aNil)))))

theorem pure__law_pick (ds : List D) (A : Ah) (q : D → Ah → Prop) (x : AX) : sp__law_pick ds A q x → as__law_pick (endsA q x) (startA ["store", "items"] ds) A := by
  rintro ⟨l, n, d, xs, rfl, hs, hn, it, hd, hx, hb, h⟩
  have hl : 0 < xs.length := List.length_pos_iff.mpr hx
  have key : ∀ (j : Int), 0 ≤ j → (j < xs.length ∨ j = 0) → ∃ y, L2.atI xs j = some y ∧ y ∈ xs := by
    intro j h0 h1
    refine ⟨xs[j.toNat]'(by omega), ?_, List.getElem_mem _⟩
    unfold L2.atI L2.ixN
    rw [if_pos h0, if_pos (by omega)]
    exact List.getElem?_eq_getElem _
  rcases it with ⟨cs, rfl, rfl⟩ | ⟨p, rfl, e⟩ | rfl
  · rw [List.length_map] at hb key hl
    (conv => whnf)
    refine ⟨hb, ?_⟩
    (conv => whnf)
    refine ⟨l, n, cs.length, rfl, hs, hn, by have : big = 16777216 := rfl; omega, fun j A' h0 h1 K1 S1 => ?_⟩
    (conv => whnf)
    refine ⟨hb, ?_⟩
    obtain ⟨y, e, hy⟩ := key j h0 h1
    have : ∃ c, L2.atI cs j = some c ∧ y = .str [c] := by
      unfold L2.atI at e ⊢
      rw [List.length_map] at e
      cases hx : L2.ixN cs.length j with
      | none => rw [hx] at e; cases e
      | some i =>
        rw [hx] at e
        rw [Option.bind_some, List.getElem?_map] at e
        rw [Option.bind_some]
        cases hc : cs[i]? with
        | none => rw [hc] at e; cases e
        | some c => rw [hc] at e; cases e; exact ⟨c, rfl, rfl⟩
    obtain ⟨c, ec, rfl⟩ := this
    exact ⟨c, ec, h _ A' hy K1 S1⟩
  · (conv => whnf)
    refine ⟨_, e, ?_⟩
    (conv => whnf)
    refine ⟨l, n, xs.length, rfl, hs, hn, by have : big = 16777216 := rfl; omega, fun j A' h0 h1 K1 S1 => ?_⟩
    (conv => whnf)
    obtain ⟨y, e2, hy⟩ := key j h0 h1
    exact ⟨_, K1 _ _ (fun z => hd (by rw [z])) e, _, e2, h _ A' hy K1 S1⟩
  · (conv => whnf)
    refine ⟨l, n, xs.length, rfl, hs, hn, by have : big = 16777216 := rfl; omega, fun j A' h0 h1 K1 S1 => ?_⟩
    (conv => whnf)
    obtain ⟨y, e2, hy⟩ := key j h0 h1
    exact ⟨_, e2, h _ A' hy K1 S1⟩
theorem len__law_pick (ds : List D) (A : Ah) (q : D → Ah → Prop) (x : AX) : sp__law_pick ds A q x → ds.length = 2 := by
  rintro ⟨l, n, d, xs, rfl, _⟩; rfl
def as__law_number_13 : AS := (aAsg (aOp aAdd (aOp aMul (aVar 5) (aOp aPow (aC (.int 10)) (aC (.int 13)))) (aCall sp__law_take (aCons (aVar 0) (aCons (aOp aPow (aC (.int 10)) (aC (.int 13))) aNil)))) (agName 5))
def as__law_number_14 : AS := (aRet (aOp aAdd (aVar 1) (aOp aMod (aBlt aInt (aCons (aVar 5) aNil)) (aVar 3))))
def as__law_number_12 : AS := (aSeq (aFor (aRng1 (aCons (aC (.int 4)) aNil)) (agName 6) as__law_number_13) as__law_number_14)
def as__law_number_11 : AS := (aSeq (aAsg (aC (.int 0)) (agName 5)) as__law_number_12)
def as__law_number_9 : AS := (aSeq (aIf (aTest (aOp aLe (aVar 3) (aOp aPow (aC (.int 10)) (aC (.int 13))))) (aRet (aOp aAdd (aVar 1) (aCall sp__law_take (aCons (aVar 0) (aCons (aVar 3) aNil))))) aNext) as__law_number_11)
def as__law_number_7 : AS := (aSeq (aIf (aTest (aOp aEq (aVar 4) (aC (.int 2)))) (aRet (aOp aAdd (aVar 1) (aCall sp__law_take (aCons (aVar 0) (aCons (aBlt aMin2 (aCons (aVar 3) (aCons (aC (.int 12)) aNil))) aNil))))) aNext) as__law_number_9)
def as__law_number_5 : AS := (aSeq (aIf (aTest (aOp aEq (aVar 4) (aC (.int 1)))) (aRet (aVar 2)) aNext) as__law_number_7)
def as__law_number_3 : AS := (aSeq (aIf (aTest (aOp aEq (aVar 4) (aC (.int 0)))) (aRet (aVar 1)) aNext) as__law_number_5)
def as__law_number_2 : AS := (aSeq (aAsg (aCall sp__law_take (aCons (aVar 0) (aCons (aC (.int 6)) aNil))) (agName 4)) as__law_number_3)
def as__law_number : AS := (aSeq (aAsg (aOp aAdd (aOp aSub (aVar 2) (aVar 1)) (aC (.int 1))) (agName 3)) as__law_number_2)

theorem pure__law_number (ds : List D) (A : Ah) (q : D → Ah → Prop) (x : AX) : sp__law_number ds A q x → as__law_number (endsA q x) (startA ["store", "least", "most", "span", "way", "value", "k"] ds) A := by
  rintro ⟨l, n, lo, hi, rfl, hs, hn, hlh, h⟩
  (conv => whnf)
  refine ⟨l, n, 6, rfl, hs, by omega, by decide, fun way A1 w0 w1 K1 S1 => ?_⟩
  have hs1 : 0 < hi - lo + 1 := by omega
  (conv => whnf)
  refine ⟨fun _ => h _ A1 (by omega) hlh K1 (S1.mono (by omega)), fun _ => ?_⟩
  (conv => whnf)
  refine ⟨fun _ => h _ A1 hlh (by omega) K1 (S1.mono (by omega)), fun _ => ?_⟩
  (conv => whnf)
  refine ⟨fun _ => ?_, fun _ => ?_⟩
  · (conv => whnf)
    refine ⟨l, n + 1, _, rfl, S1, by omega, by split <;> omega, fun j A2 j0 j1 K2 S2 => ?_⟩
    exact h _ A2 (by omega) (by split at j1 <;> omega) (K1.trans K2) (S2.mono (by omega))
  (conv => whnf)
  refine ⟨by decide, ?_⟩
  (conv => whnf)
  refine ⟨fun hb => ?_, fun _ => ?_⟩
  · have hb : hi - lo + 1 ≤ 10000000000000 := of_decide_eq_true hb
    (conv => whnf)
    refine ⟨l, n + 1, _, rfl, S1, by omega, by omega, fun j A2 j0 j1 K2 S2 => ?_⟩
    exact h _ A2 (by omega) (by omega) (K1.trans K2) (S2.mono (by omega))
  (conv => whnf)
  refine ⟨by decide, fun i Γ A' => ∃ (v : Int) (kk : Option D), Γ = [some (.ref l), some (.int lo), some (.int hi), some (.int (hi - lo + 1)), some (.int way), some (.int v), kk] ∧ 0 ≤ v ∧ v < 10000000000000 ^ i ∧ Kp l A1 A' ∧ St A' l (n + 1 + i), ?_, ?_, ?_, ?_⟩
  · exact ⟨0, _, rfl, by decide, by decide, .rfl, S1⟩
  · intros; exact trivial
  · rintro i Γ A' (hi4 : i < 4) ⟨v, kk, rfl, v0, v1, K2, S2⟩
    (conv => whnf)
    refine ⟨by decide, ?_⟩
    (conv => whnf)
    have hp : (10000000000000 : Int) ^ i ≤ 10000000000000 ^ 3 := by
      rcases i with _ | _ | _ | _ | i <;> first | decide | omega
    have hv : v < 1000000000000000000000000000000000000000 := by omega
    refine ⟨small60 (by omega) (by omega), small128 (by decide) (by decide), ?_⟩
    (conv => whnf)
    refine ⟨by decide, ?_⟩
    (conv => whnf)
    refine ⟨l, n + 1 + i, 10000000000000, rfl, S2, by omega, by decide, fun j A3 j0 j1 K3 S3 => ?_⟩
    (conv => whnf)
    refine ⟨v * 10000000000000 + j, _, rfl, by omega, ?_, K2.trans K3, S3⟩
    rw [Int.pow_succ]
    omega
  · rintro Γ A' ⟨v, kk, rfl, v0, v1, K2, S2⟩
    (conv => whnf)
    refine ⟨hs1, ?_⟩
    have m0 := Int.emod_nonneg v (show hi - lo + 1 ≠ 0 by omega)
    have m1 := Int.emod_lt_of_pos v hs1
    exact h _ A' (by omega) (by omega) (K1.trans K2) (S2.mono (show n + 1 + 4 ≤ n + 6 by omega))
theorem len__law_number (ds : List D) (A : Ah) (q : D → Ah → Prop) (x : AX) : sp__law_number ds A q x → ds.length = 3 := by
  rintro ⟨l, n, lo, hi, rfl, _⟩; rfl
def as_check_free_lot_5 : AS := (aIf (aAndT (aTest (aOp aGt (aVar 1) (aC (.int 0)))) (aTest (aOp aLe (aOp aIx (aVar 0) (aVar 1)) (aOp aIx (aVar 0) (aOp aSub (aVar 1) (aC (.int 1))))))) (aRaise "BadLot" ["at"] (aCons (aVar 1) aNil)) aNext)
def as_check_free_lot_4 : AS := (aSeq (aDrop (aCall sp_check_name (aCons (aOp aIx (aVar 0) (aVar 1)) aNil))) as_check_free_lot_5)
def as_check_free_lot_3 : AS := (aSeq (aFor (aRng1 (aCons (aBlt aLen (aCons (aVar 0) aNil)) aNil)) (agName 1) as_check_free_lot_4) (aRet (aVar 0)))
def as_check_free_lot : AS := (aSeq (aIf (aTest (aOp aEq (aBlt aLen (aCons (aVar 0) aNil)) (aC (.int 0)))) (aRaise "BadLot" ["at"] (aCons (aC (.int 0)) aNil)) aNext) as_check_free_lot_3)

theorem lotG_cons (p : Option (List Nat)) (i : Nat) (c : List Nat) (r : List (List Nat)) : lotG p i (c :: r) = if isNm c = false then some (.inl c) else if (match p with | some p => !lexL p c | none => false) = true then some (.inr i) else lotG (some c) (i + 1) r := by cases p <;> rfl
theorem pure_check_free_lot (ds : List D) (A : Ah) (q : D → Ah → Prop) (x : AX) : sp_check_free_lot ds A q x → as_check_free_lot (endsA q x) (startA ["lot", "index"] ds) A := by
  rintro ⟨L, rfl, hl, hb, h1, h2, h3⟩
  (conv => whnf)
  refine ⟨fun he => ?_, fun he => ?_⟩
  · have he : L = [] := by
      have := of_decide_eq_true he
      rw [List.length_map] at this
      exact List.eq_nil_of_length_eq_zero (by omega)
    subst he
    (conv => whnf)
    exact ⟨rfl, fun d hd => h3 0 rfl d _ (.new hd) updA_same⟩
  have hne : L ≠ [] := by
    intro z; subst z; exact absurd he (by decide)
  have hF : lotF L = lotG none 0 L := by unfold lotF; rw [if_neg hne]
  rw [hF] at h1 h2 h3
  have hix : ∀ {i : Nat} {c : List Nat}, L[i]? = some c → L2.atI (L.map D.str) (i : Int) = some (.str c) := fun h => atI_of (by rw [List.getElem?_map, h]; rfl)
  (conv => whnf)
  refine ⟨by rw [List.length_map]; omega, fun i Γ A' => A' = A ∧ (∃ a, Γ = [some (.tup (L.map D.str)), a]) ∧ lotG none 0 L = lotG (if i = 0 then none else L[i - 1]?) i (L.drop i), ⟨rfl, ⟨_, rfl⟩, rfl⟩, fun _ _ _ _ _ => trivial, ?_, ?_⟩
  · rintro i Γ A' (hi : i < ((L.map D.str).length : Int).toNat) ⟨rfl, ⟨a, rfl⟩, hg⟩
    rw [List.length_map] at hi
    have hi : i < L.length := by omega
    have hc : L[i]? = some L[i] := List.getElem?_eq_getElem hi
    have hd : L.drop i = L[i] :: L.drop (i + 1) := List.drop_eq_getElem_cons hi
    have hm : L[i] ∈ L := List.getElem_mem hi
    generalize L[i] = c at hc hd hm
    rw [hd, lotG_cons] at hg
    have z0 : (0 + (i : Int)) = (i : Int) := Int.zero_add _
    (conv => whnf)
    refine ⟨_, by rw [z0]; exact hix hc, ?_⟩
    (conv => whnf)
    refine ⟨c, rfl, hb c hm, fun hn => ?_, fun hn d A2 G e => ?_⟩
    · rw [if_neg (by rw [hn]; decide)] at hg
      have next : (match (if i = 0 then none else L[i - 1]?) with | some p => !lexL p c | none => false) = false → lotG none 0 L = lotG (if i + 1 = 0 then none else L[i + 1 - 1]?) (i + 1) (L.drop (i + 1)) := by
        intro hx
        rw [hg, if_neg (by rw [hx]; decide), if_neg (by omega), Nat.add_sub_cancel, hc]
      (conv => whnf)
      refine ⟨fun hp => ?_, fun hp => ?_⟩
      · have hp : 0 < i := by have := of_decide_eq_true hp; omega
        have hp1 : L[i - 1]? = some (L[i - 1]'(by omega)) := List.getElem?_eq_getElem _
        generalize L[i - 1]'(by omega) = p at hp1
        have e0 : (if i = 0 then (none : Option (List Nat)) else L[i - 1]?) = L[i - 1]? := if_neg (by omega)
        rw [e0, hp1] at hg next
        (conv => whnf)
        refine ⟨_, by rw [z0]; exact hix hc, ?_⟩
        (conv => whnf)
        refine ⟨_, by rw [show (0 + (i : Int) - 1) = ((i - 1 : Nat) : Int) by omega]; exact hix hp1, ?_⟩
        (conv => whnf)
        refine ⟨fun hlt => ?_, fun hlt => ?_⟩
        · have hlt : (!lexL p c) = true := hlt
          rw [if_pos hlt] at hg
          (conv => whnf)
          refine ⟨rfl, fun d hd => h3 i hg d _ (.new hd) ?_⟩
          rw [updA_same]
          show some (Cell.xd [("at", .int (0 + (i : Int)))]) = _
          rw [z0]
        · have hlt : (!lexL p c) = false := hlt
          exact ⟨rfl, ⟨_, rfl⟩, next hlt⟩
      · have hp : i = 0 := by have := of_decide_eq_false hp; omega
        subst hp
        (conv => whnf)
        refine ⟨nofun, fun _ => ?_⟩
        exact ⟨rfl, ⟨_, rfl⟩, next rfl⟩
    · rw [if_pos hn] at hg
      exact h2 c hg d A2 G e
  · rintro Γ A' ⟨rfl, ⟨a, rfl⟩, hg⟩
    have hg : lotG none 0 L = lotG (if ((L.map D.str).length : Int).toNat = 0 then none else L[((L.map D.str).length : Int).toNat - 1]?) ((L.map D.str).length : Int).toNat (L.drop ((L.map D.str).length : Int).toNat) := hg
    rw [List.length_map, Int.toNat_natCast, List.drop_length] at hg
    exact h1 (by rw [hg]; rfl)
theorem len_check_free_lot (ds : List D) (A : Ah) (q : D → Ah → Prop) (x : AX) : sp_check_free_lot ds A q x → ds.length = 1 := by
  rintro ⟨L, rfl, _⟩; rfl
def as_lot_of_6 : AS := (aDPut (aVar 1) (aVar 2) (aC (.bl true)))
def as_lot_of_5 : AS := (aSeq (aDrop (aCall sp_check_name (aCons (aVar 2) aNil))) as_lot_of_6)
def as_lot_of_7 : AS := (aRet (aBlt aTuple (aCons (aBlt aSortK (aCons (aVar 1) aNil)) aNil)))
def as_lot_of_4 : AS := (aSeq (aFor (aIter (aVar 0)) (agName 2) as_lot_of_5) as_lot_of_7)
def as_lot_of_3 : AS := (aSeq (aAsg aDNew (agName 1)) as_lot_of_4)
def as_lot_of : AS := (aSeq (aIf (aTest (aOp aEq (aBlt aLen (aCons (aVar 0) aNil)) (aC (.int 0)))) (aRaise "BadLot" ["at"] (aCons (aC (.int 0)) aNil)) aNext) as_lot_of_3)

theorem pure_lot_of (ds : List D) (A : Ah) (q : D → Ah → Prop) (x : AX) : sp_lot_of ds A q x → as_lot_of (endsA q x) (startA ["names", "found", "name"] ds) A := by
  rintro ⟨L, rfl, hb, ⟨K, hK, hLK⟩, h0, h1, h2⟩
  (conv => whnf)
  refine ⟨fun he => ?_, fun he => ?_⟩
  · have he : L = [] := by
      have := of_decide_eq_true he
      rw [List.length_map] at this
      exact List.eq_nil_of_length_eq_zero (by omega)
    subst he
    (conv => whnf)
    exact ⟨rfl, fun d hd => h0 rfl d _ (.new hd) updA_same⟩
  have hne : L ≠ [] := by
    intro z; subst z; exact absurd he (by decide)
  (conv => whnf)
  intro p hp
  (conv => whnf)
  refine ⟨fun i Γ A' => ∃ (a : Option D) (kvs : List (Key × D)) (cs : List (List Nat)), Γ = [some (.tup (L.map D.str)), some (.ref p), a] ∧ Ext A A' ∧ A' p = some (.dic kvs) ∧ kvs.map (·.1) = cs.map kS ∧ cs.Nodup ∧ (∀ c, c ∈ cs ↔ c ∈ L.take i) ∧ wordF L = wordF (L.drop i), ⟨_, [], [], rfl, .new hp, updA_same, rfl, .nil, by simp, rfl⟩, fun _ _ _ _ _ => trivial, ?_, ?_⟩
  · rintro i Γ A1 (hi : i < (L.map D.str).length) ⟨a, kvs, cs, rfl, G, e, hk, hnd, hm, hw⟩
    rw [List.length_map] at hi
    show agName 2 ((L.map D.str).getD i .non) _ _ _
    rw [map_getD _ hi]
    have hd : L.drop i = L[i] :: L.drop (i + 1) := List.drop_eq_getElem_cons hi
    have ht : L.take (i + 1) = L.take i ++ [L[i]] := by rw [List.take_succ, List.getElem?_eq_getElem hi]; rfl
    have hcL : L[i] ∈ L := List.getElem_mem hi
    generalize L[i] = c at hd ht hcL ⊢
    (conv => whnf)
    refine ⟨c, rfl, hb c hcL, fun hc => ?_, fun hc => ?_⟩
    · have hw2 : wordF L = wordF (L.drop (i + 1)) := by
        rw [hw, hd]
        show List.find? _ (c :: _) = _
        rw [List.find?_cons, hc]; rfl
      have hln : kvs.length < 64 := by
        have h3 : kvs.length = cs.length := by have := congrArg List.length hk; rw [List.length_map, List.length_map] at this; exact this
        have := nodup_len hnd (m := K) fun c hc => hLK c (List.mem_of_mem_take ((hm c).mp hc))
        omega
      (conv => whnf)
      refine ⟨kvs, e, _, rfl, by rw [big_eq]; omega, ?_⟩
      rcases putD_keys (kvs := kvs) (k := kS c) (v := .bl true) with ⟨hi1, e1⟩ | ⟨hi1, e1⟩
      · have hcc : c ∈ cs := by
          rw [hk] at hi1
          obtain ⟨d, hd1, hd2⟩ := List.mem_map.mp hi1
          exact kS_inj hd2 ▸ hd1
        refine ⟨_, putD kvs (kS c) (.bl true), cs, rfl, G.upd hp, updA_same, by rw [e1, hk], hnd, fun d => ?_, hw2⟩
        rw [ht, List.mem_append, List.mem_singleton, hm]
        exact ⟨.inl, fun z => z.elim id fun z => z ▸ (hm c).mp hcc⟩
      · have hcc : c ∉ cs := fun z => hi1 (by rw [hk]; exact List.mem_map_of_mem z)
        refine ⟨_, putD kvs (kS c) (.bl true), cs ++ [c], rfl, G.upd hp, updA_same, by rw [e1, hk, List.map_append]; rfl, List.nodup_append.mpr ⟨hnd, by simp, fun a ha b hb => by rw [List.mem_singleton.mp hb]; exact fun z => hcc (z ▸ ha)⟩, fun d => ?_, hw2⟩
        rw [ht, List.mem_append, List.mem_append, hm]
    · have hw2 : wordF L = some c := by
        rw [hw, hd]
        show List.find? _ (c :: _) = _
        rw [List.find?_cons, hc]; rfl
      exact fun d A2 G2 e2 => h1 c hw2 d A2 (G.trans G2) e2
  · rintro Γ A1 ⟨a, kvs, cs, rfl, G, e, hk, hnd, hm, hw⟩
    have hm : ∀ c, c ∈ cs ↔ c ∈ L.take (L.map D.str).length := hm
    have hw : wordF L = wordF (L.drop (L.map D.str).length) := hw
    rw [List.length_map, List.take_length] at hm
    rw [List.length_map, List.drop_length] at hw
    have hln := nodup_len hnd (m := K) fun c hc => hLK c ((hm c).mp hc)
    (conv => whnf)
    refine ⟨kvs, e, cs, hk, by omega, fun ys hys hso p2 hp2 => ?_⟩
    (conv => whnf)
    refine ⟨_, updA_same, h2 hw hne ys _ (G.trans (.new hp2)) (srt_asc hso (hys.nodup_iff.mpr hnd)) fun c => ?_⟩
    rw [hys.mem_iff, hm]
theorem len_lot_of (ds : List D) (A : Ah) (q : D → Ah → Prop) (x : AX) : sp_lot_of ds A q x → ds.length = 1 := by
  rintro ⟨L, rfl, _⟩; rfl
def as__law_name_17 : AS := (aAsg (aOp aAdd (aVar 4) (aVar 6)) (agName 4))
def as__law_name_15 : AS := (aSeq (aIf (aAndT (aTest (aOp aEq (aVar 6) (aC (.str (tl "."))))) (aOrT (aTest (aOp aEq (aOp aIx (aVar 4) (aNeg (aC (.int 1)))) (aC (.str (tl "."))))) (aTest (aOp aEq (aVar 5) (aOp aSub (aVar 3) (aC (.int 2))))))) (aAsg (aC (.str (tl "z"))) (agName 6)) aNext) as__law_name_17)
def as__law_name_14 : AS := (aSeq (aAsg (aCall sp__law_pick (aCons (aVar 0) (aCons (aOp aAdd (aVar 1) (aC (.str (tl "0123456789....")))) aNil))) (agName 6)) as__law_name_15)
def as__law_name_18 : AS := (aSeq (aIf (aTest (aOp aInS (aVar 4) (aLst (aCons (aC (.str (tl "first"))) (aCons (aC (.str (tl "back"))) (aCons (aC (.str (tl "round"))) (aCons (aC (.str (tl "let"))) (aCons (aC (.str (tl "tree"))) aNil)))))))) (aAsg (aOp aAdd (aVar 4) (aC (.str (tl "0")))) (agName 4)) aNext) (aRet (aVar 4)))
def as__law_name_13 : AS := (aSeq (aFor (aRng1 (aCons (aOp aSub (aVar 3) (aC (.int 1))) aNil)) (agName 5) as__law_name_14) as__law_name_18)
def as__law_name_12 : AS := (aSeq (aAsg (aCall sp__law_pick (aCons (aVar 0) (aCons (aVar 1) aNil))) (agName 4)) as__law_name_13)
def as__law_name_10 : AS := (aSeq (aIf (aTest (aOp aGt (aVar 2) (aC (.int 3)))) (aAsg (aOp aAdd (aC (.int 1)) (aCall sp__law_take (aCons (aVar 0) (aCons (aC (.int 12)) aNil)))) (agName 3)) aNext) as__law_name_12)
def as__law_name_9 : AS := (aSeq (aAsg (aC (.int 12)) (agName 3)) as__law_name_10)
def as__law_name_7 : AS := (aSeq (aIf (aTest (aOp aEq (aVar 2) (aC (.int 2)))) (aRet (aCall sp__law_pick (aCons (aVar 0) (aCons (aLst (aCons (aC (.str (tl "first1"))) (aCons (aC (.str (tl "backs"))) (aCons (aC (.str (tl "rounds"))) (aCons (aC (.str (tl "let.x"))) (aCons (aC (.str (tl "tree0"))) (aCons (aC (.str (tl "lets"))) (aCons (aC (.str (tl "a.first"))) (aCons (aC (.str (tl "x.tree"))) (aCons (aC (.str (tl "b.back"))) aNil)))))))))) aNil)))) aNext) as__law_name_9)
def as__law_name_5 : AS := (aSeq (aIf (aTest (aOp aEq (aVar 2) (aC (.int 1)))) (aRet (aOp aAdd (aCall sp__law_pick (aCons (aVar 0) (aCons (aVar 1) aNil))) (aBlt aStr (aCons (aCall sp__law_take (aCons (aVar 0) (aCons (aC (.int 120)) aNil))) aNil)))) aNext) as__law_name_7)
def as__law_name_3 : AS := (aSeq (aIf (aTest (aOp aEq (aVar 2) (aC (.int 0)))) (aRet (aCall sp__law_pick (aCons (aVar 0) (aCons (aVar 1) aNil)))) aNext) as__law_name_5)
def as__law_name_2 : AS := (aSeq (aAsg (aCall sp__law_take (aCons (aVar 0) (aCons (aC (.int 8)) aNil))) (agName 2)) as__law_name_3)
def as__law_name : AS := (aSeq (aAsg (aC (.str (tl "abcdefghijklmnopqrstuvwxyz"))) (agName 1)) as__law_name_2)

theorem pure__law_name (ds : List D) (A : Ah) (q : D → Ah → Prop) (x : AX) : sp__law_name ds A q x → as__law_name (endsA q x) (startA ["store", "letters", "way", "size", "name", "k", "sign"] ds) A := by
  rintro ⟨l, n, rfl, hs, hn, h⟩
  have rest : ∀ (size way : Int) (A1 : Ah), 1 ≤ size → size ≤ 12 → Kp l A A1 → St A1 l (n + 2) → as__law_name_12 (endsA q x) [some (.ref l), some (.str (tl "abcdefghijklmnopqrstuvwxyz")), some (.int way), some (.int size), none, none, none] A1 := by
    intro size way A1 s0 s1 K1 S1
    (conv => whnf)
    refine ⟨l, n + 2, _, _, rfl, S1, by omega, .inl ⟨_, rfl, rfl⟩, by rintro ⟨⟩, map_ne (by decide), map_big (by decide), fun y A2 hy K2 S2 => ?_⟩
    obtain ⟨c, hc, rfl⟩ := str_of hy
    (conv => whnf)
    refine ⟨by omega, fun i Γ A' => ∃ (cs : List Nat) (k s : Option D), Γ = [some (.ref l), some (.str (tl "abcdefghijklmnopqrstuvwxyz")), some (.int way), some (.int size), some (.str cs), k, s] ∧ cs.length = i + 1 ∧ NmI (i = (size - 1).toNat) cs ∧ Kp l A2 A' ∧ St A' l (n + 3 + i), ?_, ?_, ?_, ?_⟩
    · exact ⟨[c], none, none, rfl, rfl, ⟨decide_eq_true hc, fun d hd => by rw [List.mem_singleton.mp hd]; exact lets_sg c hc, rfl, fun _ => lets_46 c hc⟩, .rfl, S2⟩
    · intros; exact trivial
    · rintro i Γ A' (hi : i < (size - 1).toNat) ⟨cs, k, s, rfl, hl, ha, K3, S3⟩
      have fin : ∀ (c : Nat) (A4 : Ah), c ∈ signsD → (c ≠ 46 ∨ lstN cs = true ∧ i + 1 ≠ (size - 1).toNat) → Kp l A' A4 → St A4 l (n + 3 + (i + 1)) → as__law_name_17 { nx := fun Γ A' => ∃ (cs : List Nat) (k s : Option D), Γ = [some (.ref l), some (.str (tl "abcdefghijklmnopqrstuvwxyz")), some (.int way), some (.int size), some (.str cs), k, s] ∧ cs.length = (i + 1) + 1 ∧ NmI (i + 1 = (size - 1).toNat) cs ∧ Kp l A2 A' ∧ St A' l (n + 3 + (i + 1)), rt := q, bk := fun _ _ => False, ct := fun _ _ => False, ex := fun e _ A' => x e A' } [some (.ref l), some (.str (tl "abcdefghijklmnopqrstuvwxyz")), some (.int way), some (.int size), some (.str cs), some (.int (0 + (i : Int))), some (.str [c])] A4 := by
        intro c A4 hc hc2 K4 S4
        (conv => whnf)
        refine ⟨by rw [big_eq]; simp; omega, ?_⟩
        (conv => whnf)
        exact ⟨cs ++ [c], _, _, rfl, by simp [hl], ha.snoc (by intro z; rw [z] at hl; cases hl) hc hc2, K3.trans K4, S4⟩
      (conv => whnf)
      refine ⟨by decide, ?_⟩
      (conv => whnf)
      refine ⟨l, n + 3 + i, _, _, rfl, S3, by omega, .inl ⟨_, rfl, rfl⟩, by rintro ⟨⟩, map_ne (by decide), map_big (by decide), fun y A4 hy K4 S4 => ?_⟩
      obtain ⟨c, hc, rfl⟩ := str_of hy
      have hc : c ∈ signsD := (show ∀ c ∈ tl "abcdefghijklmnopqrstuvwxyz" ++ tl "0123456789....", c ∈ signsD by decide) c hc
      (conv => whnf)
      refine ⟨fun _ => ?_, fun _ => ?_⟩
      · (conv => whnf)
        obtain ⟨z, e1, hz⟩ := atI_lst (cs := cs) (by intro z; rw [z] at hl; cases hl)
        refine ⟨by rw [big_eq]; omega, z, e1, ?_⟩
        (conv => whnf)
        refine ⟨fun _ => ?_, fun _ => ?_⟩
        · (conv => whnf)
          refine ⟨fun _ => ?_, nofun⟩
          exact fin 122 A4 (by decide) (.inl (by decide)) K4 S4
        · rename_i h1 h2
          (conv => whnf)
          refine ⟨fun _ => ?_, fun h3 => ?_⟩
          · exact fin 122 A4 (by decide) (.inl (by decide)) K4 S4
          · have h2 : [z] ≠ [46] := of_decide_eq_false h2
            have h3 : ¬ (0 + (i : Int)) = size - 2 := of_decide_eq_false h3
            exact fin c A4 hc (.inr ⟨by rw [hz]; simpa using h2, by omega⟩) K4 S4
      · rename_i h1
        (conv => whnf)
        have h1 : [c] ≠ [46] := of_decide_eq_false h1
        refine ⟨nofun, fun _ => fin c A4 hc (.inl (by simpa using h1)) K4 S4⟩
    · rintro Γ A' ⟨cs, k, s, rfl, hl, ha, K3, S3⟩
      have hl : cs.length = (size - 1).toNat + 1 := hl
      have ha : NmI ((size - 1).toNat = (size - 1).toNat) cs := ha
      obtain ⟨n1, n2, n3, n4⟩ := ha
      have S3 := S3.mono (show n + 3 + (size - 1).toNat ≤ n + 20 by omega)
      (conv => whnf)
      refine ⟨by decide, fun p hp => ?_⟩
      (conv => whnf)
      refine ⟨_, updA_same, rfl, by decide, ?_⟩
      (conv => whnf)
      have K4 := ((K1.trans K2).trans K3).new (c := .lst [.str (tl "first"), .str (tl "back"), .str (tl "round"), .str (tl "let"), .str (tl "tree")]) hp
      refine ⟨fun hk => ?_, fun hk => ?_⟩
      · (conv => whnf)
        refine ⟨by rw [big_eq]; have : (tl "0").length = 1 := rfl; omega, ?_⟩
        (conv => whnf)
        exact h _ _ (kept_of hk) K4 (S3.ext (.new hp))
      · exact h _ _ (nm_mk (by omega) (by omega) hk n1 (n4 rfl) n2 n3) K4 (S3.ext (.new hp))
  (conv => whnf)
  refine ⟨l, n, 8, rfl, hs, by omega, by decide, fun way A1 _ _ K1 S1 => ?_⟩
  (conv => whnf)
  refine ⟨fun _ => ?_, fun _ => ?_⟩
  · (conv => whnf)
    refine ⟨l, n + 1, _, _, rfl, S1, by omega, .inl ⟨_, rfl, rfl⟩, by rintro ⟨⟩, map_ne (by decide), map_big (by decide), fun y A2 hy K2 S2 => ?_⟩
    obtain ⟨c, hc, rfl⟩ := str_of hy
    exact h _ _ (nm_one c hc) (K1.trans K2) (S2.mono (by omega))
  (conv => whnf)
  refine ⟨fun _ => ?_, fun _ => ?_⟩
  · (conv => whnf)
    refine ⟨l, n + 1, _, _, rfl, S1, by omega, .inl ⟨_, rfl, rfl⟩, by rintro ⟨⟩, map_ne (by decide), map_big (by decide), fun y A2 hy K2 S2 => ?_⟩
    obtain ⟨c, hc, rfl⟩ := str_of hy
    (conv => whnf)
    refine ⟨l, n + 2, 120, rfl, S2, by omega, by decide, fun j A3 j0 j1 K3 S3 => ?_⟩
    (conv => whnf)
    refine ⟨?_, ?_⟩
    · have : j.natAbs < 128 := by omega
      by_cases hz : j.natAbs = 0
      · rw [hz]; decide
      · have := (Nat.log2_lt (n := j.natAbs) (k := 7) hz).mpr this
        omega
    have := decN_int (i := j) j0 (by omega)
    (conv => whnf)
    refine ⟨by rw [big_eq]; simp; omega, ?_⟩
    exact h _ _ (nm_numI hc j0 (by omega)) ((K1.trans K2).trans K3) (S3.mono (by omega))
  (conv => whnf)
  refine ⟨fun _ => ?_, fun _ => ?_⟩
  · (conv => whnf)
    refine ⟨by decide, fun p hp => ?_⟩
    (conv => whnf)
    refine ⟨l, n + 1, _, _, rfl, S1.ext (.new hp), by omega, .inr (.inl ⟨p, rfl, updA_same⟩), ?_, by decide, by decide, fun y A2 hy K2 S2 => ?_⟩
    · rintro ⟨⟩; exact S1.ne hp rfl
    obtain ⟨cs, rfl, hc⟩ := isS_of (p := isNm) (by decide +kernel) hy
    exact h _ _ hc ((K1.new hp).trans K2) (S2.mono (by omega))
  (conv => whnf)
  refine ⟨fun _ => ?_, fun _ => ?_⟩
  · (conv => whnf)
    refine ⟨l, n + 1, 12, rfl, S1, by omega, by decide, fun j A2 j0 j1 K2 S2 => ?_⟩
    exact rest (1 + j) way A2 (by omega) (by omega) (K1.trans K2) S2
  · exact rest 12 way A1 (by decide) (by decide) K1 (S1.mono (by omega))
theorem len__law_name (ds : List D) (A : Ah) (q : D → Ah → Prop) (x : AX) : sp__law_name ds A q x → ds.length = 1 := by
  rintro ⟨l, n, rfl, _⟩; rfl
def as__law_nonname_15 : AS := (aRet (aOp aIx (aLst (aCons (aC (.str (tl ""))) (aCons (aC (.str (tl ""))) (aCons (aOp aAdd (aVar 2) (aC (.str (tl "0123456789a")))) (aCons (aOp aAdd (aVar 4) (aVar 2)) (aCons (aOp aAdd (aC (.str (tl "."))) (aVar 2)) (aCons (aOp aAdd (aVar 2) (aC (.str (tl ".")))) (aCons (aOp aAdd (aOp aAdd (aVar 2) (aC (.str (tl "..")))) (aVar 2)) (aCons (aOp aMul (aVar 2) (aC (.int 7))) aNil))))))))) (aVar 3)))
def as__law_nonname_14 : AS := (aSeq (aAsg (aBlt aStr (aCons (aCall sp__law_take (aCons (aVar 0) (aCons (aC (.int 10)) aNil))) aNil)) (agName 4)) as__law_nonname_15)
def as__law_nonname_12 : AS := (aSeq (aIf (aTest (aOp aEq (aVar 3) (aC (.int 10)))) (aRet (aOp aAdd (aOp aAdd (aOp aIx (aVar 2) (aC (.int 0))) (aCall sp__law_pick (aCons (aVar 0) (aCons (aC (.str (tl "ABCDEFGHIJKLMNOPQRSTUVWXYZ"))) aNil)))) (aOp aIx (aVar 2) (aC (.int 1))))) aNext) as__law_nonname_14)
def as__law_nonname_10 : AS := (aSeq (aIf (aTest (aOp aEq (aVar 3) (aC (.int 9)))) (aRet (aCall sp__law_pick (aCons (aVar 0) (aCons (aLst (aCons (aOp aAdd (aC (.str (tl " "))) (aVar 2)) (aCons (aOp aAdd (aVar 2) (aC (.str (tl " ")))) (aCons (aOp aAdd (aVar 2) (aC (.str (tl "\n")))) (aCons (aOp aAdd (aC (.str (tl "\n"))) (aVar 2)) aNil))))) aNil)))) aNext) as__law_nonname_12)
def as__law_nonname_8 : AS := (aSeq (aIf (aTest (aOp aEq (aVar 3) (aC (.int 8)))) (aRet (aOp aAdd (aOp aAdd (aVar 2) (aCall sp__law_pick (aCons (aVar 0) (aCons (aC (.str (tl "_-+;:, >(/~\n[=!'\""))) aNil)))) (aVar 2))) aNext) as__law_nonname_10)
def as__law_nonname_6 : AS := (aSeq (aIf (aTest (aOp aEq (aVar 3) (aC (.int 1)))) (aRet (aCall sp__law_pick (aCons (aVar 0) (aCons (aLst (aCons (aC (.str (tl "first"))) (aCons (aC (.str (tl "back"))) (aCons (aC (.str (tl "round"))) (aCons (aC (.str (tl "let"))) (aCons (aC (.str (tl "tree"))) aNil)))))) aNil)))) aNext) as__law_nonname_8)
def as__law_nonname_4 : AS := (aSeq (aIf (aTest (aOp aEq (aVar 3) (aC (.int 0)))) (aRet (aC (.str (tl "")))) aNext) as__law_nonname_6)
def as__law_nonname_3 : AS := (aSeq (aAsg (aCall sp__law_take (aCons (aVar 0) (aCons (aC (.int 11)) aNil))) (agName 3)) as__law_nonname_4)
def as__law_nonname_2 : AS := (aSeq (aAsg (aOp aAdd (aCall sp__law_pick (aCons (aVar 0) (aCons (aVar 1) aNil))) (aCall sp__law_pick (aCons (aVar 0) (aCons (aVar 1) aNil)))) (agName 2)) as__law_nonname_3)
def as__law_nonname : AS := (aSeq (aAsg (aC (.str (tl "abcdefghijklmnopqrstuvwxyz"))) (agName 1)) as__law_nonname_2)

theorem pure__law_nonname (ds : List D) (A : Ah) (q : D → Ah → Prop) (x : AX) : sp__law_nonname ds A q x → as__law_nonname (endsA q x) (startA ["store", "letters", "base", "way", "figure"] ds) A := by
  rintro ⟨l, n, rfl, hs, hn, h⟩
  (conv => whnf)
  refine ⟨l, n, _, _, rfl, hs, by omega, .inl ⟨_, rfl, rfl⟩, by rintro ⟨⟩, map_ne (by decide), map_big (by decide), fun y A1 hy K1 S1 => ?_⟩
  obtain ⟨c, hc, rfl⟩ := str_of hy
  (conv => whnf)
  refine ⟨l, n + 1, _, _, rfl, S1, by omega, .inl ⟨_, rfl, rfl⟩, by rintro ⟨⟩, map_ne (by decide), map_big (by decide), fun y A2 hy K2 S2 => ?_⟩
  obtain ⟨d, hd, rfl⟩ := str_of hy
  have hc : asc [c] = true := asc_one (by decide) hc
  have hd : asc [d] = true := asc_one (by decide) hd
  have hb : asc [c, d] = true := asc_app hc hd
  (conv => whnf)
  refine ⟨Nat.le_of_ble_eq_true rfl, ?_⟩
  (conv => whnf)
  refine ⟨l, n + 2, 11, rfl, S2, by omega, by decide, fun way A3 w0 w1 K3 S3 => ?_⟩
  have K3 := (K1.trans K2).trans K3
  (conv => whnf)
  refine ⟨fun _ => h _ _ (by decide) (by decide) (by decide) K3 (S3.mono (by omega)), fun hw1 => ?_⟩
  (conv => whnf)
  refine ⟨fun _ => ?_, fun hw2 => ?_⟩
  · (conv => whnf)
    refine ⟨by decide, fun p hp => ?_⟩
    (conv => whnf)
    refine ⟨l, n + 3, _, _, rfl, S3.ext (.new hp), by omega, .inr (.inl ⟨p, rfl, updA_same⟩), ?_, by decide, by decide, fun y A4 hy K4 S4 => ?_⟩
    · rintro ⟨⟩; exact S3.ne hp rfl
    obtain ⟨cs, rfl, hc⟩ := isS_of (p := fun cs => decide (cs.length ≤ 14) && asc cs && !isNm cs) (by decide +kernel) hy
    simp only [Bool.and_eq_true, decide_eq_true_eq, Bool.not_eq_true'] at hc
    exact h _ _ hc.1.1 hc.1.2 hc.2 ((K3.new hp).trans K4) (S4.mono (by omega))
  (conv => whnf)
  refine ⟨fun _ => ?_, fun hw3 => ?_⟩
  · (conv => whnf)
    refine ⟨l, n + 3, _, _, rfl, S3, by omega, .inl ⟨_, rfl, rfl⟩, by rintro ⟨⟩, map_ne (by decide), map_big (by decide), fun y A4 hy K4 S4 => ?_⟩
    obtain ⟨e, he, rfl⟩ := str_of hy
    have hm : e ∉ signsD := (show ∀ e ∈ tl "_-+;:, >(/~\n[=!'\"", e ∉ signsD by decide) e he
    have he : asc [e] = true := asc_one (by decide) he
    (conv => whnf)
    refine ⟨Nat.le_of_ble_eq_true rfl, ?_⟩
    (conv => whnf)
    refine ⟨Nat.le_of_ble_eq_true rfl, ?_⟩
    exact h _ _ (by simp) (asc_app (asc_app hb he) hb) (nm_sign (e := e) (by simp) hm) (K3.trans K4) (S4.mono (by omega))
  (conv => whnf)
  refine ⟨fun _ => ?_, fun hw4 => ?_⟩
  · (conv => whnf)
    refine ⟨Nat.le_of_ble_eq_true rfl, ?_⟩
    (conv => whnf)
    refine ⟨Nat.le_of_ble_eq_true rfl, ?_⟩
    (conv => whnf)
    refine ⟨Nat.le_of_ble_eq_true rfl, ?_⟩
    (conv => whnf)
    refine ⟨Nat.le_of_ble_eq_true rfl, ?_⟩
    (conv => whnf)
    refine ⟨Nat.le_of_ble_eq_true rfl, fun p hp => ?_⟩
    (conv => whnf)
    refine ⟨l, n + 3, _, _, rfl, S3.ext (.new hp), by omega, .inr (.inl ⟨p, rfl, updA_same⟩), ?_, by simp, by simp [big_eq], fun y A4 hy K4 S4 => ?_⟩
    · rintro ⟨⟩; exact S3.ne hp rfl
    have K5 := (K3.new hp).trans K4
    have S5 := S4.mono (show n + 3 + 1 ≤ n + 20 by omega)
    simp only [List.mem_cons, List.not_mem_nil, or_false] at hy
    rcases hy with rfl | rfl | rfl | rfl
    · exact h _ _ (Nat.le_of_ble_eq_true rfl) (asc_app (by decide) hb) (nm_sign (e := 32) (by simp [tl_blank]) (by decide)) K5 S5
    · exact h _ _ (Nat.le_of_ble_eq_true rfl) (asc_app hb (by decide)) (nm_sign (e := 32) (by simp [tl_blank]) (by decide)) K5 S5
    · exact h _ _ (Nat.le_of_ble_eq_true rfl) (asc_app hb (by decide)) (nm_sign (e := 10) (by simp [tl_feed]) (by decide)) K5 S5
    · exact h _ _ (Nat.le_of_ble_eq_true rfl) (asc_app (by decide) hb) (nm_sign (e := 10) (by simp [tl_feed]) (by decide)) K5 S5
  (conv => whnf)
  refine ⟨fun _ => ?_, fun hw5 => ?_⟩
  · (conv => whnf)
    refine ⟨by simp [big_eq], c, rfl, ?_⟩
    (conv => whnf)
    refine ⟨l, n + 3, _, _, rfl, S3, by omega, .inl ⟨_, rfl, rfl⟩, by rintro ⟨⟩, map_ne (by decide), map_big (by decide), fun y A4 hy K4 S4 => ?_⟩
    obtain ⟨e, he, rfl⟩ := str_of hy
    have hm : e ∉ signsD := (show ∀ e ∈ tl "ABCDEFGHIJKLMNOPQRSTUVWXYZ", e ∉ signsD by decide) e he
    have he : asc [e] = true := asc_one (by decide) he
    (conv => whnf)
    refine ⟨Nat.le_of_ble_eq_true rfl, ?_⟩
    (conv => whnf)
    refine ⟨by simp [big_eq], d, rfl, ?_⟩
    (conv => whnf)
    refine ⟨Nat.le_of_ble_eq_true rfl, ?_⟩
    exact h _ _ (by simp) (asc_app (asc_app hc he) hd) (nm_sign (e := e) (by simp) hm) (K3.trans K4) (S4.mono (by omega))
  (conv => whnf)
  refine ⟨l, n + 3, 10, rfl, S3, by omega, by decide, fun j A4 j0 j1 K4 S4 => ?_⟩
  have hj := decN_int (i := j) j0 (by omega)
  (conv => whnf)
  refine ⟨?_, ?_⟩
  · have : j.natAbs < 128 := by omega
    by_cases hz : j.natAbs = 0
    · rw [hz]; decide
    · have := (Nat.log2_lt (n := j.natAbs) (k := 7) hz).mpr this
      omega
  have hfg : isNm (decN j ++ ([c] ++ [d])) = false := fig_no j0 (by omega)
  generalize decN j = fg at hj hfg
  (conv => whnf)
  refine ⟨Nat.le_of_ble_eq_true rfl, ?_⟩
  (conv => whnf)
  refine ⟨by have := hj.1; rw [big_eq]; simp; omega, ?_⟩
  (conv => whnf)
  refine ⟨Nat.le_of_ble_eq_true rfl, ?_⟩
  (conv => whnf)
  refine ⟨Nat.le_of_ble_eq_true rfl, ?_⟩
  (conv => whnf)
  refine ⟨Nat.le_of_ble_eq_true rfl, ?_⟩
  (conv => whnf)
  refine ⟨Nat.le_of_ble_eq_true rfl, ?_⟩
  (conv => whnf)
  refine ⟨by decide, by decide, Nat.le_of_ble_eq_true rfl, ?_⟩
  (conv => whnf)
  refine ⟨Nat.le_of_ble_eq_true rfl, fun p hp => ?_⟩
  (conv => whnf)
  have K5 := (K3.trans K4).new (c := .lst [.str (tl ""), .str (tl ""), .str ([c] ++ [d] ++ tl "0123456789a"), .str (fg ++ ([c] ++ [d])), .str (tl "." ++ ([c] ++ [d])), .str ([c] ++ [d] ++ tl "."), .str ([c] ++ [d] ++ tl ".." ++ ([c] ++ [d])), .str (List.replicate 7 ([c] ++ [d])).flatten]) hp
  have S5 := (S4.mono (show n + 3 + 1 ≤ n + 20 by omega)).ext (Ext.new (c := .lst [.str (tl ""), .str (tl ""), .str ([c] ++ [d] ++ tl "0123456789a"), .str (fg ++ ([c] ++ [d])), .str (tl "." ++ ([c] ++ [d])), .str ([c] ++ [d] ++ tl "."), .str ([c] ++ [d] ++ tl ".." ++ ([c] ++ [d])), .str (List.replicate 7 ([c] ++ [d])).flatten]) hp)
  have n8 : way ≠ 8 := of_decide_eq_false hw3
  have n9 : way ≠ 9 := of_decide_eq_false hw4
  have n10 : way ≠ 10 := of_decide_eq_false hw5
  have w8 : way.toNat < 8 := by omega
  refine ⟨_, updA_same, ?_⟩
  obtain ⟨f, e, hy⟩ := atI_nat (cs := [D.str (tl ""), .str (tl ""), .str ([c] ++ [d] ++ tl "0123456789a"), .str (fg ++ ([c] ++ [d])), .str (tl "." ++ ([c] ++ [d])), .str ([c] ++ [d] ++ tl "."), .str ([c] ++ [d] ++ tl ".." ++ ([c] ++ [d])), .str (List.replicate 7 ([c] ++ [d])).flatten]) w0 w8
  refine ⟨f, e, ?_⟩
  simp only [List.mem_cons, List.not_mem_nil, or_false] at hy
  rcases hy with rfl | rfl | rfl | rfl | rfl | rfl | rfl | rfl
  · exact h _ _ (by decide) (by decide) (by decide) K5 S5
  · exact h _ _ (by decide) (by decide) (by decide) K5 S5
  · exact h _ _ (Nat.le_of_ble_eq_true rfl) (asc_app hb (by decide)) (isNm_long _ (Nat.le_of_ble_eq_true rfl)) K5 S5
  · exact h _ _ (by have := hj.1; simp; omega) (asc_app hj.2 hb) hfg K5 S5
  · exact h _ _ (Nat.le_of_ble_eq_true rfl) (asc_app (by decide) hb) (nm_hd rfl) K5 S5
  · exact h _ _ (Nat.le_of_ble_eq_true rfl) (asc_app hb (by decide)) (nm_lst rfl) K5 S5
  · exact h _ _ (Nat.le_of_ble_eq_true rfl) (asc_app (asc_app hb (by decide)) hb) (nm_dd (by show hasDD [c, d, 46, 46, c, d] = true; simp [hasDD])) K5 S5
  · exact h _ _ (Nat.le_of_ble_eq_true rfl) (asc_app hb (asc_app hb (asc_app hb (asc_app hb (asc_app hb (asc_app hb hb)))))) (isNm_long _ (Nat.le_of_ble_eq_true rfl)) K5 S5
theorem len__law_nonname (ds : List D) (A : Ah) (q : D → Ah → Prop) (x : AX) : sp__law_nonname ds A q x → ds.length = 1 := by
  rintro ⟨l, n, rfl, _⟩; rfl
def as__law_word_7 : AS := (aDrop (aMethL aAppend (aVar 5) (aCons (aVar 4) aNil)))
def as__law_word_5 : AS := (aSeq (aIf (aTest (aOp aGt (aVar 3) (aC (.int 0)))) (aAsg (aCall sp__law_pick (aCons (aVar 0) (aCons (aVar 1) aNil))) (agName 4)) aNext) as__law_word_7)
def as__law_word_8 : AS := (aRet (aBlt aTuple (aCons (aVar 5) aNil)))
def as__law_word_4 : AS := (aSeq (aFor (aRng1 (aCons (aCall sp__law_number (aCons (aVar 0) (aCons (aC (.int 0)) (aCons (aVar 2) aNil)))) aNil)) (agName 6) as__law_word_5) as__law_word_8)
def as__law_word_3 : AS := (aSeq (aAsg (aLst aNil) (agName 5)) as__law_word_4)
def as__law_word_2 : AS := (aSeq (aAsg (aCall sp__law_pick (aCons (aVar 0) (aCons (aVar 1) aNil))) (agName 4)) as__law_word_3)
def as__law_word : AS := (aSeq (aAsg (aCall sp__law_take (aCons (aVar 0) (aCons (aC (.int 6)) aNil))) (agName 3)) as__law_word_2)

theorem pure__law_word (ds : List D) (A : Ah) (q : D → Ah → Prop) (x : AX) : sp__law_word ds A q x → as__law_word (endsA q x) (startA ["store", "lines", "most", "way", "line", "found", "k"] ds) A := by
  rintro ⟨l, n, L, m, rfl, S, hn, hne, hl, hm, h⟩
  have K : Kp l A A := .rfl
  have hne2 : L.map D.str ≠ [] := by intro z; exact hne (List.map_eq_nil_iff.mp z)
  have pick : ∀ (n2 : Nat) (B : Ah) (q2 : D → Ah → Prop), St B l n2 → n2 ≤ 1000000000000000 → (∀ c A', c ∈ L → Kp l B A' → St A' l (n2 + 1) → q2 (.str c) A') → sp__law_pick [.ref l, .tup (L.map D.str)] B q2 (fun _ _ => True) := fun n2 B q2 S2 h2 hq => by
    refine ⟨l, n2, _, L.map D.str, rfl, S2, by omega, .inr (.inr rfl), nofun, hne2, by rw [List.length_map, show big = 16777216 from rfl]; omega, fun y A' hy K2 S2 => ?_⟩
    obtain ⟨c, hc, rfl⟩ := List.mem_map.mp hy
    exact hq c A' hc K2 S2
  (conv => whnf)
  refine ⟨l, n, 6, rfl, S, by omega, by decide, fun way A1 w0 w1 K2 S2 => ?_⟩
  have K := K.trans K2; have S := S2
  (conv => whnf)
  refine pick _ _ _ S (by omega) fun c0 A2 hc0 K2 S2 => ?_
  have K := K.trans K2; have S := S2
  (conv => whnf)
  refine ⟨Nat.le_of_ble_eq_true rfl, ?_⟩
  intro p hp; have hep := S.ne hp; have hAp := K.none hp hep; have ep : updA A2 p (.lst []) p = some (.lst []) := updA_same; have K := K.new (c := .lst []) hp; have S := S.ext (Ext.new (c := .lst []) hp); generalize updA A2 p (.lst []) = A3 at ep K S ⊢
  (conv => whnf)
  refine ⟨l, _, 0, m, rfl, S, by omega, by omega, fun j A4 j0 j1 K2 S2 => ?_⟩
  have ep := K2 _ _ hep ep; have K := K.trans K2; have S := S2
  obtain ⟨j, rfl⟩ := toN j0
  (conv => whnf)
  refine ⟨by omega, ?_⟩
  refine ⟨fun i Γ A' => ∃ (c : List Nat) (W : List (List Nat)) (a : Option D), Γ = [some (.ref l), some (.tup (L.map D.str)), some (.int m), some (.int way), some (.str c), some (.ref p), a] ∧ A' p = some (.lst (W.map D.str)) ∧ c ∈ L ∧ W.length = i ∧ (∀ c ∈ W, c ∈ L) ∧ Kp l A A' ∧ St A' l (n + 10 + i), ⟨c0, [], _, rfl, ep, hc0, rfl, nofun, K, S.mono (by omega)⟩, fun _ _ _ _ _ => trivial, ?_, ?_⟩
  · rintro i Γ A5 (hi : i < ((j : Int)).toNat) ⟨c, W, a, rfl, ep, hc, hW, hWL, K, S⟩
    have last : ∀ (c : List Nat) (A6 : Ah) (ε : AEnds), c ∈ L → A6 p = some (.lst (W.map D.str)) → Kp l A A6 → St A6 l (n + 10 + (i + 1)) → as__law_word_7 ⟨fun Γ A' => ∃ (c : List Nat) (W : List (List Nat)) (a : Option D), Γ = [some (.ref l), some (.tup (L.map D.str)), some (.int m), some (.int way), some (.str c), some (.ref p), a] ∧ A' p = some (.lst (W.map D.str)) ∧ c ∈ L ∧ W.length = i + 1 ∧ (∀ c ∈ W, c ∈ L) ∧ Kp l A A' ∧ St A' l (n + 10 + (i + 1)), ε.rt, ε.bk, ε.ct, ε.ex⟩ [some (.ref l), some (.tup (L.map D.str)), some (.int m), some (.int way), some (.str c), some (.ref p), some (.int (0 + (i : Int)))] A6 := fun c A6 ε hc e6 K6 S6 => by
      (conv => whnf)
      refine ⟨⟨_, e6⟩, ?_⟩
      (conv => whnf)
      refine ⟨_, e6, by rw [List.length_map, big_eq]; omega, ?_⟩
      exact ⟨c, W ++ [c], _, rfl, by rw [updA_same]; simp, hc, by simp [hW], fun d hd => (List.mem_append.mp hd).elim (hWL d) fun z => List.mem_singleton.mp z ▸ hc, K6.upd hAp, S6.upd hep⟩
    (conv => whnf)
    refine ⟨fun hw => ?_, fun hw => ?_⟩
    · (conv => whnf)
      refine pick _ _ _ S (by omega) fun c1 A6 hc1 K2 S2 => ?_
      have ep := K2 _ _ hep ep; have K := K.trans K2; have S := S2
      exact last c1 A6 _ hc1 ep K (S.mono (by omega))
    · exact last c A5 _ hc ep K (S.mono (by omega))
  · rintro Γ A5 ⟨c, W, a, rfl, ep, hc, hW, hWL, K, S⟩
    have hW : W.length = ((j : Int)).toNat := hW
    have S : St A5 l (n + 10 + ((j : Int)).toNat) := S
    (conv => whnf)
    exact ⟨_, ep, h W A5 (by omega) hWL K (S.mono (by omega))⟩
theorem len__law_word (ds : List D) (A : Ah) (q : D → Ah → Prop) (x : AX) : sp__law_word ds A q x → ds.length = 3 := by
  rintro ⟨l, n, L, m, rfl, _⟩; rfl
def as__law_badnumber_2 : AS := (aRet (aLst (aCons (aVar 3) (aCons (aC (.str (tl "BadNumber"))) (aCons (aTup (aCons (aVar 3) aNil)) aNil)))))
def as__law_badnumber : AS := (aSeq (aAsg (aCall sp__law_pick (aCons (aVar 0) (aCons (aLst (aCons (aOp aSub (aVar 1) (aC (.int 1))) (aCons (aOp aAdd (aVar 2) (aC (.int 1))) (aCons (aOp aSub (aVar 1) (aC (.int 2))) (aCons (aOp aAdd (aVar 2) (aC (.int 2))) (aCons (aNeg (aOp aPow (aC (.int 10)) (aC (.int 39)))) (aCons (aOp aPow (aC (.int 10)) (aC (.int 39))) aNil))))))) aNil))) (agName 3)) as__law_badnumber_2)

theorem pure__law_badnumber (ds : List D) (A : Ah) (q : D → Ah → Prop) (x : AX) : sp__law_badnumber ds A q x → as__law_badnumber (endsA q x) (startA ["store", "least", "most", "bad"] ds) A := by
  rintro ⟨l, n, lo, hi, rfl, S, hn, h1, h2, h3, h⟩
  have K : Kp l A A := .rfl
  (conv => whnf)
  refine ⟨by decide, ?_⟩
  (conv => whnf)
  refine ⟨by decide, ?_⟩
  (conv => whnf)
  refine ⟨Nat.le_of_ble_eq_true rfl, ?_⟩
  have hxs : ∀ y ∈ ([.int (lo - 1), .int (hi + 1), .int (lo - 2), .int (hi + 2), .int (-10 ^ (39 : Int).toNat), .int (10 ^ (39 : Int).toNat)] : List D), ∃ j, y = .int j ∧ ¬ (lo ≤ j ∧ j ≤ hi) := by
    have e1 : ((10 : Int) ^ (39 : Int).toNat) = 1000000000000000000000000000000000000000 := rfl
    rw [e1]
    intro y hy
    simp only [List.mem_cons, List.not_mem_nil, or_false] at hy
    rcases hy with rfl | rfl | rfl | rfl | rfl | rfl
    all_goals exact ⟨_, rfl, by omega⟩
  have hxl : ([.int (lo - 1), .int (hi + 1), .int (lo - 2), .int (hi + 2), .int (-10 ^ (39 : Int).toNat), .int (10 ^ (39 : Int).toNat)] : List D).length = 6 := rfl
  generalize ([.int (lo - 1), .int (hi + 1), .int (lo - 2), .int (hi + 2), .int (-10 ^ (39 : Int).toNat), .int (10 ^ (39 : Int).toNat)] : List D) = xs at hxs hxl ⊢
  intro p hp; have hep := S.ne hp; have hAp := K.none hp hep; have ep : updA A p (.lst xs) p = some (.lst xs) := updA_same; have K := K.new (c := .lst xs) hp; have S := S.ext (Ext.new (c := .lst xs) hp); generalize updA A p (.lst xs) = A1 at ep K S ⊢
  (conv => whnf)
  refine ⟨l, n, _, xs, rfl, S, by omega, .inr (.inl ⟨_, rfl, ep⟩), fun z => hep (D.ref.inj z), fun z => (by rw [z] at hxl; cases hxl), by rw [hxl]; decide, fun y A2 hy K2 S2 => ?_⟩
  obtain ⟨j, rfl, hj⟩ := hxs y hy
  have K := K.trans K2; have S := S2
  (conv => whnf)
  refine ⟨Nat.le_of_ble_eq_true rfl, ?_⟩
  (conv => whnf)
  refine ⟨Nat.le_of_ble_eq_true rfl, ?_⟩
  intro r hr
  exact h r j _ (S.ne hr) updA_same hj (K.new hr) (S.ext (.new hr))
theorem len__law_badnumber (ds : List D) (A : Ah) (q : D → Ah → Prop) (x : AX) : sp__law_badnumber ds A q x → ds.length = 3 := by
  rintro ⟨l, n, lo, hi, rfl, _⟩; rfl
def as_check_lines_5 : AS := (aRet (aCall sp_check_free_lot (aCons (aVar 0) aNil)))
def as_check_lines_3 : AS := (aSeq (aIf (aTest (aOp aGt (aBlt aLen (aCons (aVar 0) aNil)) (aVar 1))) (aRaise "TooMany" ["what", "limit"] (aCons (aC (.str (tl "lines"))) (aCons (aVar 1) aNil))) aNext) as_check_lines_5)
def as_check_lines : AS := (aSeq (aIf (aTest (aOp aEq (aBlt aLen (aCons (aVar 0) aNil)) (aC (.int 0)))) (aRaise "BadLot" ["at"] (aCons (aC (.int 0)) aNil)) aNext) as_check_lines_3)

theorem pure_check_lines (ds : List D) (A : Ah) (q : D → Ah → Prop) (x : AX) : sp_check_lines ds A q x → as_check_lines (endsA q x) (startA ["lines", "most"] ds) A := by
  rintro ⟨L, m, rfl, hl, hb, h0, h1, h2⟩
  (conv => whnf)
  refine ⟨fun he => ?_, fun he => ?_⟩
  · have he : L = [] := by
      have := of_decide_eq_true he
      rw [List.length_map] at this
      exact List.eq_nil_of_length_eq_zero (by omega)
    (conv => whnf)
    exact ⟨rfl, fun d hd => h0 he d _ (.new hd) updA_same⟩
  · have he : L ≠ [] := by
      rintro rfl
      exact absurd he (by decide)
    (conv => whnf)
    refine ⟨fun hm => ?_, fun hm => ?_⟩
    · have hm := of_decide_eq_true hm
      rw [List.length_map] at hm
      (conv => whnf)
      exact ⟨rfl, fun d hd => h1 he hm d _ (.new hd) updA_same⟩
    · have hm := of_decide_eq_false hm
      rw [List.length_map] at hm
      obtain ⟨g1, g2, g3⟩ := h2 he (by omega)
      (conv => whnf)
      exact ⟨L, rfl, hl, hb, g1, g2, g3⟩
theorem len_check_lines (ds : List D) (A : Ah) (q : D → Ah → Prop) (x : AX) : sp_check_lines ds A q x → ds.length = 2 := by
  rintro ⟨L, m, rfl, _⟩; rfl
def as__law_lines_6 : AS := (aIf (aTest (aOp aEq (aVar 3) (aC (.int 0)))) (aDrop (aMethL aAppend (aVar 5) (aCons (aOp aIx (aVar 2) (aOp aAdd (aOp aMod (aVar 4) (aC (.int 3))) (aVar 6))) aNil))) (aIf (aTest (aOp aEq (aVar 3) (aC (.int 1)))) (aDrop (aMethL aAppend (aVar 5) (aCons (aOp aAdd (aC (.str (tl "w"))) (aBlt aStr (aCons (aOp aAdd (aOp aIx (aLst (aCons (aC (.int 0)) (aCons (aC (.int 1)) (aCons (aC (.int 8)) (aCons (aC (.int 97)) aNil))))) (aOp aMod (aVar 4) (aC (.int 4)))) (aOp aMul (aVar 6) (aOp aAdd (aOp aDiv (aVar 4) (aC (.int 4))) (aC (.int 1))))) aNil))) aNil))) (aIf (aTest (aOp aEq (aVar 3) (aC (.int 2)))) (aDrop (aMethL aAppend (aVar 5) (aCons (aOp aAdd (aOp aAdd (aSl (aC (.str (tl "mmmmmmmmmmm"))) aNoP (aPart (aVar 4))) (aOp aIx (aVar 2) (aVar 6))) (aSl (aC (.str (tl "mmmmmmmmmmm"))) (aPart (aVar 4)) aNoP)) aNil))) (aIf (aTest (aOp aEq (aVar 3) (aC (.int 3)))) (aDrop (aMethL aAppend (aVar 5) (aCons (aOp aMul (aOp aIx (aVar 2) (aOp aAdd (aVar 4) (aOp aDiv (aVar 6) (aC (.int 12))))) (aOp aAdd (aOp aMod (aVar 6) (aC (.int 12))) (aC (.int 1)))) aNil))) (aIf (aTest (aOp aEq (aVar 3) (aC (.int 4)))) (aDrop (aMethL aAppend (aVar 5) (aCons (aOp aAdd (aOp aAdd (aOp aIx (aVar 2) (aOp aAdd (aOp aSub (aC (.int 23)) (aVar 4)) (aOp aDiv (aVar 6) (aC (.int 8))))) (aC (.str (tl ".")))) (aOp aIx (aVar 2) (aOp aMod (aVar 6) (aC (.int 8))))) aNil))) (aDrop (aMethL aAppend (aVar 5) (aCons (aCall sp__law_unlike (aCons (aCall sp__law_name (aCons (aVar 0) aNil)) (aCons (aVar 5) aNil))) aNil))))))))
def as__law_lines_18 : AS := (aRet (aBlt aTuple (aCons (aBlt aSorted (aCons (aVar 5) aNil)) aNil)))
def as__law_lines_5 : AS := (aSeq (aFor (aRng1 (aCons (aVar 1) aNil)) (agName 6) as__law_lines_6) as__law_lines_18)
def as__law_lines_4 : AS := (aSeq (aAsg (aLst aNil) (agName 5)) as__law_lines_5)
def as__law_lines_3 : AS := (aSeq (aAsg (aCall sp__law_take (aCons (aVar 0) (aCons (aC (.int 12)) aNil))) (agName 4)) as__law_lines_4)
def as__law_lines_2 : AS := (aSeq (aAsg (aCall sp__law_take (aCons (aVar 0) (aCons (aC (.int 6)) aNil))) (agName 3)) as__law_lines_3)
def as__law_lines : AS := (aSeq (aAsg (aC (.str (tl "abcdefghijklmnopqrstuvwxyz"))) (agName 2)) as__law_lines_2)

/-- the lines of a law by its way -/
def lnG (way a k : Nat) : List Nat := match way with
  | 0 => [lettersD.getD (a % 3 + k) 0]
  | 1 => tl "w" ++ decN (([0, 1, 8, 97].getD (a % 4) 0 + k * (a / 4 + 1) : Nat) : Int)
  | 2 => (tl "mmmmmmmmmmm").take a ++ [lettersD.getD k 0] ++ (tl "mmmmmmmmmmm").drop a
  | 3 => List.replicate (k % 12 + 1) (lettersD.getD (a + k / 12) 0)
  | _ => [lettersD.getD (23 - a + k / 8) 0] ++ tl "." ++ [lettersD.getD (k % 8) 0]
theorem lnG_nd : ∀ way, way < 5 → ∀ a, a < 12 → ((List.range 24).map (lnG way a)).Nodup := by decide +kernel
theorem lnG_nm : ∀ way, way < 5 → ∀ a : Nat, a < 12 → ∀ k : Nat, k < 24 → isNm (lnG way a k) = true := by decide +kernel
theorem lnG_new {way a i : Nat} (hw : way < 5) (ha : a < 12) (hi : i < 24) {S : List (List Nat)} (h : ∀ c ∈ S, ∃ k, k < i ∧ c = lnG way a k) : lnG way a i ∉ S := by
  intro m
  obtain ⟨k, hk, e⟩ := h _ m
  have := List.nodup_iff_pairwise_ne.mp (lnG_nd way hw a ha)
  rw [List.pairwise_iff_getElem] at this
  have := this k i (by simp; omega) (by simp; omega) hk
  simp at this
  exact this e.symm
theorem w0 : ∀ a : Nat, a < 12 → ∀ k : Nat, k < 24 → L2.atI (tl "abcdefghijklmnopqrstuvwxyz") ((a : Int) % 3 + (0 + (k : Int))) = some (lettersD.getD (a % 3 + k) 0) := by decide +kernel
theorem w3 : ∀ a : Nat, a < 12 → ∀ k : Nat, k < 24 → L2.atI (tl "abcdefghijklmnopqrstuvwxyz") ((a : Int) + (0 + (k : Int)) / 12) = some (lettersD.getD (a + k / 12) 0) := by decide +kernel
theorem w4 : ∀ a : Nat, a < 12 → ∀ k : Nat, k < 24 → L2.atI (tl "abcdefghijklmnopqrstuvwxyz") (23 - (a : Int) + (0 + (k : Int)) / 8) = some (lettersD.getD (23 - a + k / 8) 0) ∧ L2.atI (tl "abcdefghijklmnopqrstuvwxyz") ((0 + (k : Int)) % 8) = some (lettersD.getD (k % 8) 0) := by decide +kernel
theorem w1 : ∀ a : Nat, a < 12 → L2.atI [D.int 0, D.int 1, D.int 8, D.int 97] ((a : Int) % 4) = some (.int ([0, 1, 8, 97].getD (a % 4) 0 : Nat)) := by
  intro a ha
  have : a % 4 = 0 ∨ a % 4 = 1 ∨ a % 4 = 2 ∨ a % 4 = 3 := by omega
  rcases this with h | h | h | h
  · rw [h, show (a : Int) % 4 = 0 by omega]; rfl
  · rw [h, show (a : Int) % 4 = 1 by omega]; rfl
  · rw [h, show (a : Int) % 4 = 2 by omega]; rfl
  · rw [h, show (a : Int) % 4 = 3 by omega]; rfl
theorem w2 : ∀ k : Nat, k < 24 → L2.atI (tl "abcdefghijklmnopqrstuvwxyz") (0 + (k : Int)) = some (lettersD.getD k 0) := by decide +kernel
theorem w2c : ∀ a : Nat, a < 12 → GA.cutD (tl "mmmmmmmmmmm") none (some (a : Int)) = (tl "mmmmmmmmmmm").take a ∧ GA.cutD (tl "mmmmmmmmmmm") (some (a : Int)) none = (tl "mmmmmmmmmmm").drop a := by decide +kernel
theorem w1b : ∀ a : Nat, a < 12 → ∀ k : Nat, k < 24 → ([0, 1, 8, 97].getD (a % 4) 0 + k * (a / 4 + 1)) < 256 := by decide +kernel
theorem pure__law_lines (ds : List D) (A : Ah) (q : D → Ah → Prop) (x : AX) : sp__law_lines ds A q x → as__law_lines (endsA q x) (startA ["store", "many", "letters", "way", "at", "found", "k"] ds) A := by
  rintro ⟨l, n, m, rfl, hs, hn, m1, m24, h⟩
  (conv => whnf)
  refine ⟨l, n, 6, rfl, hs, by omega, by decide, fun way A1 w0_ w1_ K1 S1 => ?_⟩
  obtain ⟨way, rfl⟩ := Int.eq_ofNat_of_zero_le w0_
  (conv => whnf)
  refine ⟨l, n + 1, 12, rfl, S1, by omega, by decide, fun a A2 a0_ a1_ K2 S2 => ?_⟩
  obtain ⟨a, rfl⟩ := Int.eq_ofNat_of_zero_le a0_
  have ha : a < 12 := by omega
  have K2 := K1.trans K2
  (conv => whnf)
  refine ⟨Nat.le_of_ble_eq_true rfl, fun p hp => ?_⟩
  have hpl : p ≠ l := S2.ne hp
  have hpA : A p = none := K2.none hp hpl
  (conv => whnf)
  refine ⟨by omega, fun i Γ A' => ∃ (z : Option D) (S : List (List Nat)), Γ = [some (.ref l), some (.int m), some (.str (tl "abcdefghijklmnopqrstuvwxyz")), some (.int way), some (.int a), some (.ref p), z] ∧ Kp l A A' ∧ St A' l (n + 2 + 20 * i) ∧ A' p = some (.lst (S.map D.str)) ∧ S.length = i ∧ S.Nodup ∧ (∀ c ∈ S, isNm c = true) ∧ (way < 5 → ∀ c ∈ S, ∃ k, k < i ∧ c = lnG way a k), ?_, fun _ _ _ _ _ => trivial, ?_, ?_⟩
  · exact ⟨_, [], rfl, K2.new hp, S2.ext (.new hp), updA_same, rfl, List.nodup_nil, nofun, fun _ => nofun⟩
  · rintro i Γ A3 (hi : i < (m : Int).toNat) ⟨z, S, rfl, K3, S3, e3, hl, hnd, hnm, hg⟩
    have hi : i < 24 := by omega
    have hb : (S.map D.str).length < big := by rw [List.length_map, big_eq]; omega
    have put : ∀ (c : List Nat) A4, way < 5 → c = lnG way a i → Kp l A A4 → St A4 l (n + 2 + 20 * i) → A4 p = some (.lst (S.map D.str)) → ∃ (z : Option D) (S' : List (List Nat)), [some (D.ref l), some (.int m), some (.str (tl "abcdefghijklmnopqrstuvwxyz")), some (.int way), some (.int a), some (.ref p), some (.int (0 + (i : Int)))] = [some (.ref l), some (.int m), some (.str (tl "abcdefghijklmnopqrstuvwxyz")), some (.int way), some (.int a), some (.ref p), z] ∧ Kp l A (updA A4 p (.lst (S.map D.str ++ [.str c]))) ∧ St (updA A4 p (.lst (S.map D.str ++ [.str c]))) l (n + 2 + 20 * (i + 1)) ∧ updA A4 p (.lst (S.map D.str ++ [.str c])) p = some (.lst (S'.map D.str)) ∧ S'.length = i + 1 ∧ S'.Nodup ∧ (∀ c ∈ S', isNm c = true) ∧ (way < 5 → ∀ c ∈ S', ∃ k, k < i + 1 ∧ c = lnG way a k) := by
      intro c A4 hw hc K4 S4 e4
      have hnew : c ∉ S := hc ▸ lnG_new hw ha hi (hg hw)
      refine ⟨_, S ++ [c], rfl, K4.upd hpA, (S4.upd hpl).mono (by omega), by rw [updA_same, List.map_append]; rfl, by simp [hl], ?_, ?_, fun _ d hd => ?_⟩
      · exact List.nodup_append.mpr ⟨hnd, by simp, fun u hu v hv => by rw [List.mem_singleton.mp hv]; exact fun z => hnew (z ▸ hu)⟩
      · intro d hd
        rcases List.mem_append.mp hd with hd | hd
        · exact hnm d hd
        · rw [List.mem_singleton.mp hd, hc]; exact lnG_nm way hw a ha i hi
      · rcases List.mem_append.mp hd with hd | hd
        · obtain ⟨k, hk, e⟩ := hg hw d hd; exact ⟨k, by omega, e⟩
        · exact ⟨i, by omega, by rw [List.mem_singleton.mp hd, hc]⟩
    (conv => whnf)
    refine ⟨fun hw => ?_, fun hw0 => ?_⟩
    · have hw : way = 0 := by have := of_decide_eq_true hw; omega
      subst hw
      (conv => whnf)
      refine ⟨⟨_, e3⟩, ?_⟩
      (conv => whnf)
      refine ⟨by decide, Nat.le_of_ble_eq_true rfl, _, w0 a ha i hi, ?_⟩
      (conv => whnf)
      exact ⟨_, e3, hb, put _ A3 (by decide) rfl K3 S3 e3⟩
    (conv => whnf)
    refine ⟨fun hw => ?_, fun hw1 => ?_⟩
    · have hw : way = 1 := by have := of_decide_eq_true hw; omega
      subst hw
      (conv => whnf)
      refine ⟨⟨_, e3⟩, ?_⟩
      (conv => whnf)
      refine ⟨Nat.le_of_ble_eq_true rfl, fun r hr => ?_⟩
      (conv => whnf)
      refine ⟨by decide, _, updA_same, _, w1 a ha, ?_⟩
      (conv => whnf)
      refine ⟨by decide, small128 (by decide) (by decide), ?_⟩
      (conv => whnf)
      refine ⟨small128 (by omega) (by omega), small128 (by omega) (by omega), ?_⟩
      have hv : ((([0, 1, 8, 97].getD (a % 4) 0 : Nat) : Int) + (0 + (i : Int)) * ((a : Int) / 4 + 1)) = (([0, 1, 8, 97].getD (a % 4) 0 + i * (a / 4 + 1) : Nat) : Int) := by push_cast; rw [Int.zero_add]
      have hlt := w1b a ha i hi
      have hN := (nm_len (lnG_nm 1 (by decide) a ha i hi)).2
      have hN : (tl "w" ++ decN (([0, 1, 8, 97].getD (a % 4) 0 + i * (a / 4 + 1) : Nat) : Int)).length ≤ 12 := hN
      rw [List.length_append] at hN
      (conv => whnf)
      rw [hv]
      refine ⟨?_, ?_⟩
      · rw [Int.natAbs_natCast]
        by_cases hz : ([0, 1, 8, 97].getD (a % 4) 0 + i * (a / 4 + 1)) = 0
        · rw [hz]; decide
        · have := (Nat.log2_lt (n := ([0, 1, 8, 97].getD (a % 4) 0 + i * (a / 4 + 1))) (k := 8) hz).mpr hlt
          omega
      (conv => whnf)
      refine ⟨by rw [big_eq]; omega, ?_⟩
      (conv => whnf)
      have e4 : updA A3 r (.lst [D.int 0, D.int 1, D.int 8, D.int 97]) p = some (.lst (S.map D.str)) := Ext.new hr _ _ e3
      refine ⟨_, e4, hb, put _ _ (by decide) rfl (K3.new hr) (S3.ext (.new hr)) e4⟩
    (conv => whnf)
    refine ⟨fun hw => ?_, fun hw2 => ?_⟩
    · have hw : way = 2 := by have := of_decide_eq_true hw; omega
      subst hw
      (conv => whnf)
      refine ⟨⟨_, e3⟩, ?_⟩
      (conv => whnf)
      refine ⟨Nat.le_of_ble_eq_true rfl, ?_⟩
      (conv => whnf)
      refine ⟨Nat.le_of_ble_eq_true rfl, _, w2 i hi, ?_⟩
      obtain ⟨c1, c2⟩ := w2c a ha
      have hN := (nm_len (lnG_nm 2 (by decide) a ha i hi)).2
      have hN : ((tl "mmmmmmmmmmm").take a ++ [lettersD.getD i 0] ++ (tl "mmmmmmmmmmm").drop a).length ≤ 12 := hN
      rw [List.length_append, List.length_append] at hN
      (conv => whnf)
      rw [c1]
      refine ⟨by rw [big_eq]; omega, ?_⟩
      (conv => whnf)
      refine ⟨Nat.le_of_ble_eq_true rfl, ?_⟩
      (conv => whnf)
      rw [c2, List.length_append]
      refine ⟨by rw [big_eq]; omega, ?_⟩
      (conv => whnf)
      exact ⟨_, e3, hb, put _ A3 (by decide) rfl K3 S3 e3⟩
    (conv => whnf)
    refine ⟨fun hw => ?_, fun hw3 => ?_⟩
    · have hw : way = 3 := by have := of_decide_eq_true hw; omega
      subst hw
      (conv => whnf)
      refine ⟨⟨_, e3⟩, ?_⟩
      (conv => whnf)
      refine ⟨by decide, small128 (by decide) (by decide), ?_⟩
      (conv => whnf)
      refine ⟨Nat.le_of_ble_eq_true rfl, _, w3 a ha i hi, ?_⟩
      (conv => whnf)
      refine ⟨by decide, ?_⟩
      (conv => whnf)
      refine ⟨by omega, by omega, by rw [List.length_singleton, big_eq]; omega, ?_⟩
      (conv => whnf)
      have hv : (List.replicate ((0 + (i : Int)) % 12 + 1).toNat [lettersD.getD (a + i / 12) 0]).flatten = lnG 3 a i := by
        rw [List.flatten_replicate_singleton]
        show _ = List.replicate (i % 12 + 1) _
        congr 1
        omega
      exact ⟨_, e3, hb, put _ A3 (by decide) hv K3 S3 e3⟩
    (conv => whnf)
    refine ⟨fun hw => ?_, fun hw4 => ?_⟩
    · have hw : way = 4 := by have := of_decide_eq_true hw; omega
      subst hw
      (conv => whnf)
      refine ⟨⟨_, e3⟩, ?_⟩
      (conv => whnf)
      refine ⟨by decide, small128 (by decide) (by decide), ?_⟩
      (conv => whnf)
      obtain ⟨c1, c2⟩ := w4 a ha i hi
      refine ⟨Nat.le_of_ble_eq_true rfl, _, c1, ?_⟩
      (conv => whnf)
      refine ⟨Nat.le_of_ble_eq_true rfl, ?_⟩
      (conv => whnf)
      refine ⟨by decide, ?_⟩
      (conv => whnf)
      refine ⟨Nat.le_of_ble_eq_true rfl, _, c2, ?_⟩
      (conv => whnf)
      refine ⟨Nat.le_of_ble_eq_true rfl, ?_⟩
      (conv => whnf)
      exact ⟨_, e3, hb, put _ A3 (by decide) rfl K3 S3 e3⟩
    (conv => whnf)
    refine ⟨⟨_, e3⟩, ?_⟩
    (conv => whnf)
    refine ⟨l, _, rfl, S3, by omega, fun c A4 hc K4 S4 => ?_⟩
    have e4 := K4 _ _ hpl e3
    (conv => whnf)
    refine ⟨c, p, S, rfl, e4, by omega, hc, fun c' h1 h2 => ?_⟩
    (conv => whnf)
    refine ⟨_, e4, hb, _, S ++ [c'], rfl, (K3.trans K4).upd hpA, (S4.upd hpl).mono (by omega), by rw [updA_same, List.map_append]; rfl, by simp [hl], ?_, ?_, fun hw => ?_⟩
    · exact List.nodup_append.mpr ⟨hnd, by simp, fun u hu v hv => by rw [List.mem_singleton.mp hv]; exact fun z => h2 (z ▸ hu)⟩
    · intro d hd
      rcases List.mem_append.mp hd with hd | hd
      · exact hnm d hd
      · rw [List.mem_singleton.mp hd]; exact h1
    · exfalso
      have e0 := of_decide_eq_false hw0
      have e1 := of_decide_eq_false hw1
      have e2 := of_decide_eq_false hw2
      have e3 := of_decide_eq_false hw3
      have e4 := of_decide_eq_false hw4
      omega
  · rintro Γ A3 ⟨z, S, rfl, K3, S3, e3, hl, hnd, hnm, hg⟩
    have S3 : St A3 l (n + 2 + 20 * (m : Int).toNat) := S3
    have hl : S.length = (m : Int).toNat := hl
    have hl : S.length = m := by omega
    (conv => whnf)
    refine ⟨_, e3, .inr ⟨S, rfl, by omega, fun ys hp2 hs2 r hr => ?_⟩⟩
    (conv => whnf)
    refine ⟨_, updA_same, h ys _ ?_ (by rw [hp2.length_eq, hl]) (K3.new hr) ((S3.ext (.new hr)).mono (by omega))⟩
    refine lot_iff.mpr ⟨fun z => ?_, fun c hc => hnm c (hp2.mem_iff.mp hc), srt_asc hs2 (hp2.nodup_iff.mpr hnd)⟩
    rw [z] at hp2
    have := hp2.length_eq
    rw [hl] at this
    have : 0 = m := this
    omega
theorem len__law_lines (ds : List D) (A : Ah) (q : D → Ah → Prop) (x : AX) : sp__law_lines ds A q x → ds.length = 2 := by
  rintro ⟨l, n, m, rfl, _⟩; rfl
def as__law_badlines_9 : AS := (aRet (aLst (aCons (aOp aAdd (aOp aAdd (aBlt aTuple (aCons (aSl (aVar 1) aNoP (aPart (aVar 4))) aNil)) (aTup (aCons (aVar 5) aNil))) (aBlt aTuple (aCons (aSl (aVar 1) (aPart (aOp aAdd (aVar 4) (aC (.int 1)))) aNoP) aNil))) (aCons (aC (.str (tl "BadName"))) (aCons (aTup (aCons (aVar 5) aNil)) aNil)))))
def as__law_badlines_12 : AS := (aRet (aLst (aCons (aOp aAdd (aOp aAdd (aBlt aTuple (aCons (aSl (aVar 1) aNoP (aPart (aOp aSub (aVar 4) (aC (.int 1))))) aNil)) (aTup (aCons (aOp aIx (aVar 1) (aVar 4)) (aCons (aOp aIx (aVar 1) (aOp aSub (aVar 4) (aC (.int 1)))) aNil)))) (aBlt aTuple (aCons (aSl (aVar 1) (aPart (aOp aAdd (aVar 4) (aC (.int 1)))) aNoP) aNil))) (aCons (aC (.str (tl "BadLot"))) (aCons (aTup (aCons (aVar 4) aNil)) aNil)))))
def as__law_badlines_15 : AS := (aRet (aLst (aCons (aOp aAdd (aBlt aTuple (aCons (aSl (aVar 1) aNoP (aPart (aOp aAdd (aVar 4) (aC (.int 1))))) aNil)) (aBlt aTuple (aCons (aSl (aVar 1) (aPart (aVar 4)) aNoP) aNil))) (aCons (aC (.str (tl "BadLot"))) (aCons (aTup (aCons (aOp aAdd (aVar 4) (aC (.int 1))) aNil)) aNil)))))
def as__law_badlines_13 : AS := (aSeq (aIf (aTest (aOp aEq (aBlt aLen (aCons (aVar 1) aNil)) (aVar 2))) (aRet (aIfE (aTest (aOp aGt (aVar 2) (aC (.int 1)))) (aLst (aCons (aTup (aCons (aC (.str (tl "b"))) (aCons (aC (.str (tl "a"))) aNil))) (aCons (aC (.str (tl "BadLot"))) (aCons (aTup (aCons (aC (.int 1)) aNil)) aNil)))) (aLst (aCons (aTup aNil) (aCons (aC (.str (tl "BadLot"))) (aCons (aTup (aCons (aC (.int 0)) aNil)) aNil)))))) aNext) as__law_badlines_15)
def as__law_badlines_10 : AS := (aSeq (aIf (aAndT (aTest (aOp aEq (aVar 3) (aC (.int 3)))) (aTest (aOp aGt (aBlt aLen (aCons (aVar 1) aNil)) (aC (.int 1))))) (aSeq (aAsg (aBlt aMax2 (aCons (aVar 4) (aCons (aC (.int 1)) aNil))) (agName 4)) as__law_badlines_12) aNext) as__law_badlines_13)
def as__law_badlines_7 : AS := (aSeq (aIf (aTest (aOp aEq (aVar 3) (aC (.int 2)))) (aSeq (aAsg (aCall sp__law_nonname (aCons (aVar 0) aNil)) (agName 5)) as__law_badlines_9) aNext) as__law_badlines_10)
def as__law_badlines_5 : AS := (aSeq (aIf (aTest (aOp aEq (aVar 3) (aC (.int 1)))) (aRet (aLst (aCons (aBlt aTuple (aCons (aLc (aRng1 (aCons (aOp aAdd (aOp aAdd (aVar 2) (aC (.int 1))) (aVar 4)) aNil)) (agName 6) aYes (aOp aAdd (aC (.str (tl "z"))) (aBlt aStr (aCons (aOp aAdd (aC (.int 100)) (aVar 6)) aNil))) [6]) aNil)) (aCons (aC (.str (tl "TooMany"))) (aCons (aTup (aCons (aC (.str (tl "lines"))) (aCons (aVar 2) aNil))) aNil))))) aNext) as__law_badlines_7)
def as__law_badlines_3 : AS := (aSeq (aIf (aTest (aOp aEq (aVar 3) (aC (.int 0)))) (aRet (aLst (aCons (aTup aNil) (aCons (aC (.str (tl "BadLot"))) (aCons (aTup (aCons (aC (.int 0)) aNil)) aNil))))) aNext) as__law_badlines_5)
def as__law_badlines_2 : AS := (aSeq (aAsg (aCall sp__law_take (aCons (aVar 0) (aCons (aBlt aLen (aCons (aVar 1) aNil)) aNil))) (agName 4)) as__law_badlines_3)
def as__law_badlines : AS := (aSeq (aAsg (aCall sp__law_take (aCons (aVar 0) (aCons (aC (.int 5)) aNil))) (agName 3)) as__law_badlines_2)

theorem pure__law_badlines (ds : List D) (A : Ah) (q : D → Ah → Prop) (x : AX) : sp__law_badlines ds A q x → as__law_badlines (endsA q x) (startA ["store", "lines", "most", "way", "at", "bad", "k"] ds) A := by
  rintro ⟨l, n, L, m, rfl, S, hn, hL, hm, hm24, h⟩
  have K : Kp l A A := .rfl
  obtain ⟨hne, hnm, hA⟩ := lot_iff.mp hL
  have hpos : 0 < L.length := List.length_pos_iff.mpr hne
  have hl12 : ∀ c ∈ L, c.length ≤ 14 := fun c m => by have := (nm_len (hnm c m)).2; omega
  (conv => whnf)
  refine ⟨l, n, 5, rfl, S, by omega, by decide, fun way A1 w0 w1 K2 S2 => ?_⟩
  have K := K.trans K2; have S := S2
  (conv => whnf)
  refine ⟨l, _, _, rfl, S, by omega, by rw [List.length_map]; omega, fun at_ A2 a0 a1 K2 S2 => ?_⟩
  have K := K.trans K2; have S := S2
  obtain ⟨a, rfl⟩ := toN a0
  have ha : a < L.length := by rw [List.length_map] at a1; omega
  have hx : L2.atI (L.map D.str) (a : Int) = some (.str L[a]) := atI_map _ ha
  have fin : ∀ (B : List (List Nat)) (w : List Nat) (v : D) (A4 : Ah), BadL B m w v → B.length ≤ 60 → (∀ c ∈ B, c.length ≤ 14) → Kp l A A4 → St A4 l (n + 30) → ∀ r, A4 r = none → q (.ref r) (updA A4 r (.lst [.tup (B.map D.str), .str w, v])) := fun B w v A4 h1 h2 h3 h4 h5 r hr => h r B w v _ (h5.ne hr) updA_same h1 h2 h3 (h4.new hr) (h5.ext (.new hr))
  have tk : ∀ k, (L.take k).length ≤ 24 := fun k => by rw [List.length_take]; omega
  have dr : ∀ k, (L.drop k).length ≤ 24 := fun k => by rw [List.length_drop]; omega
  -- the last branch, from two places
  have rest : as__law_badlines_13 (endsA q x) [some (.ref l), some (.tup (L.map D.str)), some (.int m), some (.int way), some (.int a), none, none] A2 := by
    (conv => whnf)
    refine ⟨fun he => ?_, fun he => ?_⟩
    · have he : L.length = m := by have := of_decide_eq_true he; rw [List.length_map] at this; omega
      (conv => whnf)
      refine ⟨fun h1 => ?_, fun h1 => ?_⟩
      · have h1 := of_decide_eq_true h1
        ((repeat ((conv => whnf); first | (refine ⟨?_, fun _ => ?_⟩; · (intro z; cases z)) | (refine ⟨fun _ => ?_, ?_⟩; rotate_left; · (intro z; cases z)) | (refine ⟨?_, fun _ => ?_⟩; · (intro z; exact absurd z (by decide))) | (refine ⟨fun _ => ?_, ?_⟩; rotate_left; · (intro z; exact absurd z (by decide))) | refine ⟨Nat.le_of_ble_eq_true rfl, ?_⟩ | refine ⟨_, atI_zero', ?_⟩ | refine ⟨_, atI_one', ?_⟩ | (refine ⟨_, rfl, ?_, ?_⟩; · decide) | (refine ⟨fun _ => ?_, ?_⟩; rotate_left; · (intro z; rename_i h; first | cases h.symm.trans z | cases z.symm.trans h)) | (apply Exists.intro; apply And.intro; (· assumption); apply And.intro; (· decide)) | (apply And.intro; · (apply Exists.intro; assumption)) | (apply Exists.intro; apply And.intro; (· assumption); refine ⟨_, atI_zero', ?_⟩) | (apply Exists.intro; apply And.intro; · assumption))); (try (conv => whnf)))
        exact fin [tl "b", tl "a"] _ _ A2 (.inr (.inr (.inr ⟨nofun, by show 2 ≤ m; omega, 1, by decide +kernel, rfl, rfl⟩))) (by decide) (by decide) K (S.mono (by omega))
      · ((repeat ((conv => whnf); first | (refine ⟨?_, fun _ => ?_⟩; · (intro z; cases z)) | (refine ⟨fun _ => ?_, ?_⟩; rotate_left; · (intro z; cases z)) | (refine ⟨?_, fun _ => ?_⟩; · (intro z; exact absurd z (by decide))) | (refine ⟨fun _ => ?_, ?_⟩; rotate_left; · (intro z; exact absurd z (by decide))) | refine ⟨Nat.le_of_ble_eq_true rfl, ?_⟩ | refine ⟨_, atI_zero', ?_⟩ | refine ⟨_, atI_one', ?_⟩ | (refine ⟨_, rfl, ?_, ?_⟩; · decide) | (refine ⟨fun _ => ?_, ?_⟩; rotate_left; · (intro z; rename_i h; first | cases h.symm.trans z | cases z.symm.trans h)) | (apply Exists.intro; apply And.intro; (· assumption); apply And.intro; (· decide)) | (apply And.intro; · (apply Exists.intro; assumption)) | (apply Exists.intro; apply And.intro; (· assumption); refine ⟨_, atI_zero', ?_⟩) | (apply Exists.intro; apply And.intro; · assumption))); (try (conv => whnf)))
        exact fin [] _ _ A2 (.inl ⟨rfl, rfl, rfl⟩) (by decide) nofun K (S.mono (by omega))
    · have he : L.length ≠ m := by have := of_decide_eq_false he; rw [List.length_map] at this; omega
      (conv => whnf)
      rw [show ((a : Int) + 1) = ((a + 1 : Nat) : Int) from rfl, cut_to, cut_from, ← List.map_take, ← List.map_drop]
      have t1 := tk (a + 1)
      have t2 := dr a
      refine ⟨by rw [List.length_map, List.length_map, big_eq]; omega, ?_⟩
      rw [← List.map_append]
      have hF : lotF (L.take (a + 1) ++ L.drop a) = some (.inr (a + 1)) := by
        rw [List.drop_eq_getElem_cons ha]; exact dup_lot hL ha _
      have hlen : (L.take (a + 1) ++ L.drop a).length = L.length + 1 := by
        rw [List.length_append, List.length_take, List.length_drop]; omega
      have hmem : ∀ c ∈ L.take (a + 1) ++ L.drop a, c.length ≤ 14 := fun c m => by
        rcases List.mem_append.mp m with m | m
        · exact hl12 c (List.mem_of_mem_take m)
        · exact hl12 c (List.mem_of_mem_drop m)
      generalize L.take (a + 1) ++ L.drop a = B at hF hlen hmem ⊢
      ((repeat ((conv => whnf); first | (refine ⟨?_, fun _ => ?_⟩; · (intro z; cases z)) | (refine ⟨fun _ => ?_, ?_⟩; rotate_left; · (intro z; cases z)) | (refine ⟨?_, fun _ => ?_⟩; · (intro z; exact absurd z (by decide))) | (refine ⟨fun _ => ?_, ?_⟩; rotate_left; · (intro z; exact absurd z (by decide))) | refine ⟨Nat.le_of_ble_eq_true rfl, ?_⟩ | refine ⟨_, atI_zero', ?_⟩ | refine ⟨_, atI_one', ?_⟩ | (refine ⟨_, rfl, ?_, ?_⟩; · decide) | (refine ⟨fun _ => ?_, ?_⟩; rotate_left; · (intro z; rename_i h; first | cases h.symm.trans z | cases z.symm.trans h)) | (apply Exists.intro; apply And.intro; (· assumption); apply And.intro; (· decide)) | (apply And.intro; · (apply Exists.intro; assumption)) | (apply Exists.intro; apply And.intro; (· assumption); refine ⟨_, atI_zero', ?_⟩) | (apply Exists.intro; apply And.intro; · assumption))); (try (conv => whnf)))
      exact fin B _ _ A2 (.inr (.inr (.inr ⟨(by intro z; rw [z] at hlen; cases hlen), by omega, a + 1, hF, rfl, rfl⟩))) (by omega) hmem K (S.mono (by omega))
  (conv => whnf)
  refine ⟨fun _ => ?_, fun _ => ?_⟩
  · ((repeat ((conv => whnf); first | (refine ⟨?_, fun _ => ?_⟩; · (intro z; cases z)) | (refine ⟨fun _ => ?_, ?_⟩; rotate_left; · (intro z; cases z)) | (refine ⟨?_, fun _ => ?_⟩; · (intro z; exact absurd z (by decide))) | (refine ⟨fun _ => ?_, ?_⟩; rotate_left; · (intro z; exact absurd z (by decide))) | refine ⟨Nat.le_of_ble_eq_true rfl, ?_⟩ | refine ⟨_, atI_zero', ?_⟩ | refine ⟨_, atI_one', ?_⟩ | (refine ⟨_, rfl, ?_, ?_⟩; · decide) | (refine ⟨fun _ => ?_, ?_⟩; rotate_left; · (intro z; rename_i h; first | cases h.symm.trans z | cases z.symm.trans h)) | (apply Exists.intro; apply And.intro; (· assumption); apply And.intro; (· decide)) | (apply And.intro; · (apply Exists.intro; assumption)) | (apply Exists.intro; apply And.intro; (· assumption); refine ⟨_, atI_zero', ?_⟩) | (apply Exists.intro; apply And.intro; · assumption))); (try (conv => whnf)))
    exact fin [] _ _ A2 (.inl ⟨rfl, rfl, rfl⟩) (by decide) nofun K (S.mono (by omega))
  (conv => whnf)
  refine ⟨fun _ => ?_, fun _ => ?_⟩
  · -- too many
    (conv => whnf)
    refine ⟨by omega, ?_⟩
    have hN : ((m : Int) + 1 + (a : Int)).toNat = m + 1 + a := by omega
    rw [hN]
    refine lc_of (it := ⟨none, m + 1 + a, fun k => .int (0 + (k : Int))⟩) (fun k => .str (tl "z" ++ decN ((100 + k : Nat) : Int))) rfl (by show m + 1 + a ≤ _; rw [big_eq]; omega) ?_ ?_
    · intro i A' κ sk hi G hk
      have hi : i < m + 1 + a := hi
      have hk : κ (.str (tl "z" ++ decN ((100 + i : Nat) : Int))) A' := hk
      show agName 6 (D.int (0 + (i : Int))) _ _ _
      rw [show (0 + (i : Int)) = (i : Int) by omega]
      (repeat ((conv => whnf); first | (refine ⟨?_, fun _ => ?_⟩; · (intro z; cases z)) | (refine ⟨fun _ => ?_, ?_⟩; rotate_left; · (intro z; cases z)) | (refine ⟨?_, fun _ => ?_⟩; · (intro z; exact absurd z (by decide))) | (refine ⟨fun _ => ?_, ?_⟩; rotate_left; · (intro z; exact absurd z (by decide)))))
      (conv => whnf)
      have h3 := decN_200 (100 + i) (by omega)
      refine ⟨?_, ?_⟩
      · have : ((100 : Int) + (i : Int)).natAbs < 2 ^ 1920 := Nat.lt_of_lt_of_le (by omega : _ < 200) (by decide +kernel)
        by_cases z : ((100 : Int) + (i : Int)).natAbs = 0
        · omega
        · exact (Nat.log2_lt z).mpr this
      (conv => whnf)
      rw [show ((100 : Int) + (i : Int)) = ((100 + i : Nat) : Int) by omega]
      exact ⟨by show 1 + _ ≤ big; rw [big_eq]; omega, hk⟩
    · intro r hr
      have eq1 : (List.range (m + 1 + a)).map (fun k => D.str (tl "z" ++ decN ((100 + k : Nat) : Int))) = ((List.range (m + 1 + a)).map fun k => tl "z" ++ decN ((100 + k : Nat) : Int)).map D.str := by rw [List.map_map]; rfl
      show (fun d A' => _) (D.ref r) (updA A2 r (.lst ((List.range (m + 1 + a)).map (fun k => D.str (tl "z" ++ decN ((100 + k : Nat) : Int))))))
      rw [eq1]
      have hlen : ((List.range (m + 1 + a)).map fun k => tl "z" ++ decN ((100 + k : Nat) : Int)).length = m + 1 + a := by rw [List.length_map, List.length_range]
      have hmem : ∀ c ∈ (List.range (m + 1 + a)).map fun k => tl "z" ++ decN ((100 + k : Nat) : Int), c.length ≤ 14 := fun c hc => by
        obtain ⟨k, hk, rfl⟩ := List.mem_map.mp hc
        have hk := List.mem_range.mp hk
        have h3 := decN_200 (100 + k) (by omega)
        rw [List.length_append]
        show 1 + _ ≤ 14
        omega
      generalize (List.range (m + 1 + a)).map (fun k => tl "z" ++ decN ((100 + k : Nat) : Int)) = B at hlen hmem ⊢
      have er : updA A2 r (.lst (B.map D.str)) r = some (.lst (B.map D.str)) := updA_same
      have K := K.new (c := .lst (B.map D.str)) hr
      have S := S.ext (Ext.new (c := .lst (B.map D.str)) hr)
      generalize updA A2 r (.lst (B.map D.str)) = A3 at er K S ⊢
      (conv => whnf)
      refine ⟨_, er, ?_⟩
      ((repeat ((conv => whnf); first | (refine ⟨?_, fun _ => ?_⟩; · (intro z; cases z)) | (refine ⟨fun _ => ?_, ?_⟩; rotate_left; · (intro z; cases z)) | (refine ⟨?_, fun _ => ?_⟩; · (intro z; exact absurd z (by decide))) | (refine ⟨fun _ => ?_, ?_⟩; rotate_left; · (intro z; exact absurd z (by decide))) | refine ⟨Nat.le_of_ble_eq_true rfl, ?_⟩ | refine ⟨_, atI_zero', ?_⟩ | refine ⟨_, atI_one', ?_⟩ | (refine ⟨_, rfl, ?_, ?_⟩; · decide) | (refine ⟨fun _ => ?_, ?_⟩; rotate_left; · (intro z; rename_i h; first | cases h.symm.trans z | cases z.symm.trans h)) | (apply Exists.intro; apply And.intro; (· assumption); apply And.intro; (· decide)) | (apply And.intro; · (apply Exists.intro; assumption)) | (apply Exists.intro; apply And.intro; (· assumption); refine ⟨_, atI_zero', ?_⟩) | (apply Exists.intro; apply And.intro; · assumption))); (try (conv => whnf)))
      exact fin B _ _ A3 (.inr (.inl ⟨by intro z; rw [z] at hlen; have : 0 = m + 1 + a := hlen; omega, by omega, rfl, rfl⟩)) (by omega) hmem K (S.mono (by omega))
  (conv => whnf)
  refine ⟨fun _ => ?_, fun _ => ?_⟩
  · -- a text that is no name
    (conv => whnf)
    refine ⟨l, _, rfl, S, by omega, fun bad A3 b14 _ bnm K2 S2 => ?_⟩
    have K := K.trans K2; have S := S2
    (conv => whnf)
    rw [cut_to, ← List.map_take]
    have t1 := tk a
    have t2 := dr (a + 1)
    refine ⟨Nat.le_of_ble_eq_true rfl, ?_⟩
    (conv => whnf)
    refine ⟨by rw [List.length_map, big_eq]; show (L.take a).length + 1 ≤ _; omega, ?_⟩
    (conv => whnf)
    rw [show ((a : Int) + 1) = ((a + 1 : Nat) : Int) from rfl, cut_from, ← List.map_drop]
    refine ⟨by rw [List.length_append, List.length_map, List.length_map, big_eq]; show (L.take a).length + 1 + _ ≤ _; omega, ?_⟩
    have hcat : (L.take a).map D.str ++ [.str bad] ++ (L.drop (a + 1)).map D.str = (L.take a ++ bad :: L.drop (a + 1)).map D.str := by simp
    rw [hcat]
    have hF := ins_lot hL a bnm (L.drop (a + 1))
    have hlen : (L.take a ++ bad :: L.drop (a + 1)).length = L.length := by
      rw [List.length_append, List.length_cons, List.length_take, List.length_drop]; omega
    have hmem : ∀ c ∈ L.take a ++ bad :: L.drop (a + 1), c.length ≤ 14 := fun c m => by
      rcases List.mem_append.mp m with m | m
      · exact hl12 c (List.mem_of_mem_take m)
      · rcases List.mem_cons.mp m with rfl | m
        · exact b14
        · exact hl12 c (List.mem_of_mem_drop m)
    generalize L.take a ++ bad :: L.drop (a + 1) = B at hF hlen hmem ⊢
    ((repeat ((conv => whnf); first | (refine ⟨?_, fun _ => ?_⟩; · (intro z; cases z)) | (refine ⟨fun _ => ?_, ?_⟩; rotate_left; · (intro z; cases z)) | (refine ⟨?_, fun _ => ?_⟩; · (intro z; exact absurd z (by decide))) | (refine ⟨fun _ => ?_, ?_⟩; rotate_left; · (intro z; exact absurd z (by decide))) | refine ⟨Nat.le_of_ble_eq_true rfl, ?_⟩ | refine ⟨_, atI_zero', ?_⟩ | refine ⟨_, atI_one', ?_⟩ | (refine ⟨_, rfl, ?_, ?_⟩; · decide) | (refine ⟨fun _ => ?_, ?_⟩; rotate_left; · (intro z; rename_i h; first | cases h.symm.trans z | cases z.symm.trans h)) | (apply Exists.intro; apply And.intro; (· assumption); apply And.intro; (· decide)) | (apply And.intro; · (apply Exists.intro; assumption)) | (apply Exists.intro; apply And.intro; (· assumption); refine ⟨_, atI_zero', ?_⟩) | (apply Exists.intro; apply And.intro; · assumption))); (try (conv => whnf)))
    exact fin B _ _ A3 (.inr (.inr (.inl ⟨by intro z; rw [z] at hlen; have : 0 = L.length := hlen; omega, by omega, bad, hF, rfl, rfl⟩))) (by omega) hmem K (S.mono (by omega))
  (conv => whnf)
  refine ⟨fun _ => ?_, fun _ => ⟨fun z => Bool.noConfusion z, fun _ => rest⟩⟩
  (conv => whnf)
  refine ⟨fun h2 => ?_, fun _ => rest⟩
  have h2 : 1 < L.length := by have := of_decide_eq_true h2; rw [List.length_map] at this; omega
  have hmax : (if (1 : Int) > (a : Int) then (1 : Int) else (a : Int)) = ((max a 1 : Nat) : Int) := by split <;> omega
  have hb : max a 1 < L.length := by omega
  (conv => whnf)
  rw [hmax]
  generalize hbe : max a 1 = b at hb
  have hb1 : 1 ≤ b := by omega
  rw [show ((b : Int) - 1) = ((b - 1 : Nat) : Int) by omega, cut_to, ← List.map_take]
  (conv => whnf)
  refine ⟨_, atI_map _ hb, ?_⟩
  (conv => whnf)
  refine ⟨_, (by rw [show ((b : Int) - 1) = ((b - 1 : Nat) : Int) by omega]; exact atI_map _ (show b - 1 < L.length by omega)), ?_⟩
  (conv => whnf)
  have t1 := tk (b - 1)
  have t2 := dr (b + 1)
  refine ⟨Nat.le_of_ble_eq_true rfl, ?_⟩
  (conv => whnf)
  refine ⟨by rw [List.length_map, big_eq]; show (L.take (b - 1)).length + 2 ≤ _; omega, ?_⟩
  (conv => whnf)
  rw [show ((b : Int) + 1) = ((b + 1 : Nat) : Int) from rfl, cut_from, ← List.map_drop]
  refine ⟨by rw [List.length_append, List.length_map, List.length_map, big_eq]; show (L.take (b - 1)).length + 2 + _ ≤ _; omega, ?_⟩
  rw [swap_cat hb]
  have hF := swap_lot hL hb1 hb (L.drop (b + 1))
  have hmem : ∀ c ∈ (L.take (b - 1) ++ [L[b]]) ++ L[b - 1] :: L.drop (b + 1), c.length ≤ 14 := fun c m => by
    rcases List.mem_append.mp m with m | m
    · rcases List.mem_append.mp m with m | m
      · exact hl12 c (List.mem_of_mem_take m)
      · rw [List.mem_singleton.mp m]; exact hl12 _ (List.getElem_mem _)
    · rcases List.mem_cons.mp m with rfl | m
      · exact hl12 _ (List.getElem_mem _)
      · exact hl12 c (List.mem_of_mem_drop m)
  have hlen : ((L.take (b - 1) ++ [L[b]]) ++ L[b - 1] :: L.drop (b + 1)).length = L.length := by
    simp only [List.length_append, List.length_cons, List.length_nil, List.length_take, List.length_drop]; omega
  generalize (L.take (b - 1) ++ [L[b]]) ++ L[b - 1] :: L.drop (b + 1) = B at hF hlen hmem ⊢
  ((repeat ((conv => whnf); first | (refine ⟨?_, fun _ => ?_⟩; · (intro z; cases z)) | (refine ⟨fun _ => ?_, ?_⟩; rotate_left; · (intro z; cases z)) | (refine ⟨?_, fun _ => ?_⟩; · (intro z; exact absurd z (by decide))) | (refine ⟨fun _ => ?_, ?_⟩; rotate_left; · (intro z; exact absurd z (by decide))) | refine ⟨Nat.le_of_ble_eq_true rfl, ?_⟩ | refine ⟨_, atI_zero', ?_⟩ | refine ⟨_, atI_one', ?_⟩ | (refine ⟨_, rfl, ?_, ?_⟩; · decide) | (refine ⟨fun _ => ?_, ?_⟩; rotate_left; · (intro z; rename_i h; first | cases h.symm.trans z | cases z.symm.trans h)) | (apply Exists.intro; apply And.intro; (· assumption); apply And.intro; (· decide)) | (apply And.intro; · (apply Exists.intro; assumption)) | (apply Exists.intro; apply And.intro; (· assumption); refine ⟨_, atI_zero', ?_⟩) | (apply Exists.intro; apply And.intro; · assumption))); (try (conv => whnf)))
  exact fin B _ _ A2 (.inr (.inr (.inr ⟨by intro z; rw [z] at hlen; have : 0 = L.length := hlen; omega, by omega, b, hF, rfl, rfl⟩))) (by omega) hmem K (S.mono (by omega))
theorem len__law_badlines (ds : List D) (A : Ah) (q : D → Ah → Prop) (x : AX) : sp__law_badlines ds A q x → ds.length = 3 := by
  rintro ⟨l, n, L, m, rfl, _⟩; rfl
def as__law_lotspoilt_13 : AS := (aRet (aLst (aCons (aBlt aTuple (aCons (aOp aAdd (aOp aAdd (aSl (aVar 3) aNoP (aPart (aOp aSub (aVar 4) (aC (.int 1))))) (aLst (aCons (aOp aIx (aVar 3) (aVar 4)) (aCons (aOp aIx (aVar 3) (aOp aSub (aVar 4) (aC (.int 1)))) aNil)))) (aSl (aVar 3) (aPart (aOp aAdd (aVar 4) (aC (.int 1)))) aNoP)) aNil)) (aCons (aC (.str (tl "BadLot"))) (aCons (aTup (aCons (aVar 4) aNil)) aNil)))))
def as__law_lotspoilt_14 : AS := (aRet (aLst (aCons (aBlt aTuple (aCons (aOp aAdd (aOp aAdd (aSl (aVar 3) aNoP (aPart (aVar 4))) (aLst (aCons (aVar 6) aNil))) (aSl (aVar 3) (aPart (aOp aAdd (aVar 4) (aCall sp__law_take (aCons (aVar 0) (aCons (aC (.int 2)) aNil))))) aNoP)) aNil)) (aCons (aC (.str (tl "NoSuchLine"))) (aCons (aTup (aCons (aVar 6) aNil)) aNil)))))
def as__law_lotspoilt_11 : AS := (aSeq (aIf (aAndT (aTest (aOp aEq (aVar 5) (aC (.int 2)))) (aTest (aOp aGt (aBlt aLen (aCons (aVar 3) aNil)) (aC (.int 1))))) (aSeq (aAsg (aBlt aMax2 (aCons (aVar 4) (aCons (aC (.int 1)) aNil))) (agName 4)) as__law_lotspoilt_13) aNext) as__law_lotspoilt_14)
def as__law_lotspoilt_9 : AS := (aSeq (aIf (aTest (aOp aEq (aVar 5) (aC (.int 1)))) (aRet (aLst (aCons (aBlt aTuple (aCons (aOp aAdd (aOp aAdd (aSl (aVar 3) aNoP (aPart (aOp aAdd (aVar 4) (aC (.int 1))))) (aSl (aVar 3) (aPart (aVar 4)) aNoP)) (aLst (aCons (aVar 6) aNil))) aNil)) (aCons (aC (.str (tl "BadLot"))) (aCons (aTup (aCons (aOp aAdd (aVar 4) (aC (.int 1))) aNil)) aNil))))) aNext) as__law_lotspoilt_11)
def as__law_lotspoilt_7 : AS := (aSeq (aIf (aTest (aOp aEq (aVar 5) (aC (.int 0)))) (aRet (aLst (aCons (aTup aNil) (aCons (aC (.str (tl "BadLot"))) (aCons (aTup (aCons (aC (.int 0)) aNil)) aNil))))) aNext) as__law_lotspoilt_9)
def as__law_lotspoilt_5 : AS := (aSeq (aIf (aTest (aOp aEq (aCall sp__law_take (aCons (aVar 0) (aCons (aC (.int 2)) aNil))) (aC (.int 0)))) (aAsg (aCall sp__law_unlike (aCons (aCall sp__law_name (aCons (aVar 0) aNil)) (aCons (aBlt aList (aCons (aVar 1) aNil)) aNil))) (agName 6)) aNext) as__law_lotspoilt_7)
def as__law_lotspoilt_4 : AS := (aSeq (aAsg (aCall sp__law_nonname (aCons (aVar 0) aNil)) (agName 6)) as__law_lotspoilt_5)
def as__law_lotspoilt_3 : AS := (aSeq (aAsg (aCall sp__law_take (aCons (aVar 0) (aCons (aC (.int 4)) aNil))) (agName 5)) as__law_lotspoilt_4)
def as__law_lotspoilt_2 : AS := (aSeq (aAsg (aCall sp__law_take (aCons (aVar 0) (aCons (aBlt aLen (aCons (aVar 3) aNil)) aNil))) (agName 4)) as__law_lotspoilt_3)
def as__law_lotspoilt : AS := (aSeq (aAsg (aBlt aList (aCons (aCall sp__law_lotof (aCons (aVar 1) (aCons (aCall sp__law_number (aCons (aVar 0) (aCons (aC (.int 1)) (aCons (aVar 2) aNil)))) aNil))) aNil)) (agName 3)) as__law_lotspoilt_2)

theorem pure__law_lotspoilt (ds : List D) (A : Ah) (q : D → Ah → Prop) (x : AX) : sp__law_lotspoilt ds A q x → as__law_lotspoilt (endsA q x) (startA ["store", "lines", "top", "lot", "at", "way", "strange"] ds) A := by
  rintro ⟨l, n, L, rfl, S, hn, hL, h⟩
  have K : Kp l A A := .rfl
  have hLn := hL.le
  have h2 := pow24p _ hLn
  have hpos : 0 < L.length := List.length_pos_iff.mpr hL.ne
  have h21 : 2 ≤ 2 ^ L.length := by
    have := Nat.pow_le_pow_right (show 0 < 2 by decide) hpos
    exact this
  (conv => whnf)
  refine ⟨l, n, _, _, rfl, S, by omega, by omega, fun j A1 j0 j1 K2 S2 => ?_⟩
  have K := K.trans K2; have S := S2
  obtain ⟨m, rfl⟩ := toN (i := j) (by omega)
  (conv => whnf)
  refine ⟨L, m, rfl, by omega, fun A2 G2 => ?_⟩
  have K := K.trans G2.kp
  have S := S.ext G2
  have hne : pkL L m ≠ [] := pk_ne (by omega) (by omega)
  have hsub := pk_sub L m
  have hsA : Asc (pkL L m) := hL.asc.sublist hsub
  have hsK : ∀ c ∈ pkL L m, c ∈ L := fun c hc => hsub.subset hc
  have hsl := hsub.length_le
  generalize pkL L m = P at hne hsub hsA hsK hsl ⊢
  have hPp : 0 < P.length := List.length_pos_iff.mpr hne
  (conv => whnf)
  intro p hp; have hep := S.ne hp; have hAp := K.none hp hep; have ep : updA A2 p (.lst (P.map D.str)) p = some (.lst (P.map D.str)) := updA_same; have K := K.new (c := .lst (P.map D.str)) hp; have S := S.ext (Ext.new (c := .lst (P.map D.str)) hp); generalize updA A2 p (.lst (P.map D.str)) = A3 at ep K S ⊢
  (conv => whnf)
  refine ⟨_, ep, ?_⟩
  (conv => whnf)
  refine ⟨l, _, _, rfl, S, by omega, by rw [List.length_map]; omega, fun at_ A4 a0 a1 K2 S2 => ?_⟩
  have ep := K2 _ _ hep ep; have K := K.trans K2; have S := S2
  obtain ⟨a, rfl⟩ := toN a0
  have ha : a < P.length := by rw [List.length_map] at a1; omega
  (conv => whnf)
  refine ⟨l, _, 4, rfl, S, by omega, by decide, fun way A5 w0 w1 K2 S2 => ?_⟩
  have ep := K2 _ _ hep ep; have K := K.trans K2; have S := S2
  (conv => whnf)
  refine ⟨l, _, rfl, S, by omega, fun str0 A6 b14 _ bnm K2 S2 => ?_⟩
  have ep := K2 _ _ hep ep; have K := K.trans K2; have S := S2
  have tk : ∀ k, (P.take k).length ≤ 24 := fun k => by rw [List.length_take]; omega
  have dr : ∀ k, (P.drop k).length ≤ 24 := fun k => by rw [List.length_drop]; omega
  have fin : ∀ (S : List (List Nat)) (w : List Nat) (v : D) (A4 : Ah), SpK L S w v → S.length ≤ 60 → Kp l A A4 → St A4 l (n + 80) → ∀ r, A4 r = none → q (.ref r) (updA A4 r (.lst [.tup (S.map D.str), .str w, v])) := fun S w v A4 h1 h2 h4 h5 r hr => h r S w v _ (h5.ne hr) updA_same h1 h2 (h4.new hr) (h5.ext (.new hr))
  have main : ∀ (strange : List Nat) (A7 : Ah), strange ∉ L → A7 p = some (.lst (P.map D.str)) → Kp l A A7 → St A7 l (n + 60) → as__law_lotspoilt_7 (endsA q x) [some (.ref l), some (.tup (L.map D.str)), some (.int ((2 ^ L.length : Nat) - 1 : Int)), some (.ref p), some (.int a), some (.int way), some (.str strange)] A7 := by
    intro strange A7 hst ep K S
    have rest : as__law_lotspoilt_14 (endsA q x) [some (.ref l), some (.tup (L.map D.str)), some (.int ((2 ^ L.length : Nat) - 1 : Int)), some (.ref p), some (.int a), some (.int way), some (.str strange)] A7 := by
      (conv => whnf)
      refine ⟨_, ep, ?_⟩
      (conv => whnf)
      rw [cut_to, ← List.map_take]
      intro r1 hr1; have her1 := S.ne hr1; have hAr1 := K.none hr1 her1; have nepr1 := neA ep hr1; have ep := Ext.new (c := .lst ((P.take a).map D.str)) hr1 _ _ ep; have er1 : updA A7 r1 (.lst ((P.take a).map D.str)) r1 = some (.lst ((P.take a).map D.str)) := updA_same; have K := K.new (c := .lst ((P.take a).map D.str)) hr1; have S := S.ext (Ext.new (c := .lst ((P.take a).map D.str)) hr1); generalize updA A7 r1 (.lst ((P.take a).map D.str)) = A8 at ep er1 K S ⊢
      (conv => whnf)
      refine ⟨Nat.le_of_ble_eq_true rfl, ?_⟩
      intro r2 hr2; have her2 := S.ne hr2; have hAr2 := K.none hr2 her2; have nepr2 := neA ep hr2; have ner1r2 := neA er1 hr2; have ep := Ext.new (c := .lst [.str strange]) hr2 _ _ ep; have er1 := Ext.new (c := .lst [.str strange]) hr2 _ _ er1; have er2 : updA A8 r2 (.lst [.str strange]) r2 = some (.lst [.str strange]) := updA_same; have K := K.new (c := .lst [.str strange]) hr2; have S := S.ext (Ext.new (c := .lst [.str strange]) hr2); generalize updA A8 r2 (.lst [.str strange]) = A9 at ep er1 er2 K S ⊢
      (conv => whnf)
      have t1 := tk a
      refine ⟨_, er1, _, er2, by rw [List.length_map, List.length_singleton, big_eq]; omega, ?_⟩
      rw [show (P.take a).map D.str ++ [.str strange] = (P.take a ++ [strange]).map D.str by simp]
      intro r3 hr3; have her3 := S.ne hr3; have hAr3 := K.none hr3 her3; have nepr3 := neA ep hr3; have ep := Ext.new (c := .lst ((P.take a ++ [strange]).map D.str)) hr3 _ _ ep; have er3 : updA A9 r3 (.lst ((P.take a ++ [strange]).map D.str)) r3 = some (.lst ((P.take a ++ [strange]).map D.str)) := updA_same; have K := K.new (c := .lst ((P.take a ++ [strange]).map D.str)) hr3; have S := S.ext (Ext.new (c := .lst ((P.take a ++ [strange]).map D.str)) hr3); generalize updA A9 r3 (.lst ((P.take a ++ [strange]).map D.str)) = A10 at ep er3 K S ⊢
      (conv => whnf)
      refine ⟨l, _, 2, rfl, S, by omega, by decide, fun t A11 t0 t2 K2 S2 => ?_⟩
      have ep := K2 _ _ hep ep; have er3 := K2 _ _ her3 er3; have K := K.trans K2; have S := S2
      obtain ⟨t, rfl⟩ := toN t0
      (conv => whnf)
      refine ⟨_, ep, ?_⟩
      (conv => whnf)
      rw [show ((a : Int) + (t : Int)) = ((a + t : Nat) : Int) from rfl, cut_from, ← List.map_drop]
      intro r4 hr4; have her4 := S.ne hr4; have hAr4 := K.none hr4 her4; have ner3r4 := neA er3 hr4; have er3 := Ext.new (c := .lst ((P.drop (a + t)).map D.str)) hr4 _ _ er3; have er4 : updA A11 r4 (.lst ((P.drop (a + t)).map D.str)) r4 = some (.lst ((P.drop (a + t)).map D.str)) := updA_same; have K := K.new (c := .lst ((P.drop (a + t)).map D.str)) hr4; have S := S.ext (Ext.new (c := .lst ((P.drop (a + t)).map D.str)) hr4); generalize updA A11 r4 (.lst ((P.drop (a + t)).map D.str)) = A12 at er3 er4 K S ⊢
      (conv => whnf)
      have t2 := dr (a + t)
      refine ⟨_, er3, _, er4, by rw [List.length_map, List.length_map, List.length_append, List.length_singleton, big_eq]; omega, ?_⟩
      rw [show (P.take a ++ [strange]).map D.str ++ (P.drop (a + t)).map D.str = (P.take a ++ strange :: P.drop (a + t)).map D.str by simp]
      have hF := knoF_in (K := L) (X := P.take a) (r := P.drop (a + t)) (fun c m => hsK c (List.mem_of_mem_take m)) (hsA.sublist (List.take_sublist _ _)) hst
      have hlen : (P.take a ++ strange :: P.drop (a + t)).length ≤ 60 := by
        rw [List.length_append, List.length_cons]; omega
      generalize P.take a ++ strange :: P.drop (a + t) = B at hF hlen ⊢
      intro r5 hr5; have her5 := S.ne hr5; have hAr5 := K.none hr5 her5; have er5 : updA A12 r5 (.lst (B.map D.str)) r5 = some (.lst (B.map D.str)) := updA_same; have K := K.new (c := .lst (B.map D.str)) hr5; have S := S.ext (Ext.new (c := .lst (B.map D.str)) hr5); generalize updA A12 r5 (.lst (B.map D.str)) = A13 at er5 K S ⊢
      (conv => whnf)
      refine ⟨_, er5, ?_⟩
      ((repeat ((conv => whnf); first | (refine ⟨?_, fun _ => ?_⟩; · (intro z; cases z)) | (refine ⟨fun _ => ?_, ?_⟩; rotate_left; · (intro z; cases z)) | (refine ⟨?_, fun _ => ?_⟩; · (intro z; exact absurd z (by decide))) | (refine ⟨fun _ => ?_, ?_⟩; rotate_left; · (intro z; exact absurd z (by decide))) | refine ⟨Nat.le_of_ble_eq_true rfl, ?_⟩ | refine ⟨_, atI_zero', ?_⟩ | refine ⟨_, atI_one', ?_⟩ | (refine ⟨_, rfl, ?_, ?_⟩; · decide) | (refine ⟨fun _ => ?_, ?_⟩; rotate_left; · (intro z; rename_i h; first | cases h.symm.trans z | cases z.symm.trans h)) | (apply Exists.intro; apply And.intro; (· assumption); apply And.intro; (· decide)) | (apply And.intro; · (apply Exists.intro; assumption)) | (apply Exists.intro; apply And.intro; (· assumption); refine ⟨_, atI_zero', ?_⟩) | (apply Exists.intro; apply And.intro; · assumption))); (try (conv => whnf)))
      exact fin B _ _ A13 (.inl ⟨strange, hF, rfl, rfl⟩) hlen K (S.mono (by omega))
    (conv => whnf)
    refine ⟨fun _ => ?_, fun _ => ?_⟩
    · ((repeat ((conv => whnf); first | (refine ⟨?_, fun _ => ?_⟩; · (intro z; cases z)) | (refine ⟨fun _ => ?_, ?_⟩; rotate_left; · (intro z; cases z)) | (refine ⟨?_, fun _ => ?_⟩; · (intro z; exact absurd z (by decide))) | (refine ⟨fun _ => ?_, ?_⟩; rotate_left; · (intro z; exact absurd z (by decide))) | refine ⟨Nat.le_of_ble_eq_true rfl, ?_⟩ | refine ⟨_, atI_zero', ?_⟩ | refine ⟨_, atI_one', ?_⟩ | (refine ⟨_, rfl, ?_, ?_⟩; · decide) | (refine ⟨fun _ => ?_, ?_⟩; rotate_left; · (intro z; rename_i h; first | cases h.symm.trans z | cases z.symm.trans h)) | (apply Exists.intro; apply And.intro; (· assumption); apply And.intro; (· decide)) | (apply And.intro; · (apply Exists.intro; assumption)) | (apply Exists.intro; apply And.intro; (· assumption); refine ⟨_, atI_zero', ?_⟩) | (apply Exists.intro; apply And.intro; · assumption))); (try (conv => whnf)))
      exact fin [] _ _ A7 (.inr ⟨0, rfl, rfl, rfl⟩) (by decide) K (S.mono (by omega))
    (conv => whnf)
    refine ⟨fun _ => ?_, fun _ => ?_⟩
    · (conv => whnf)
      refine ⟨_, ep, ?_⟩
      (conv => whnf)
      rw [show ((a : Int) + 1) = ((a + 1 : Nat) : Int) from rfl, cut_to, ← List.map_take]
      intro r1 hr1; have her1 := S.ne hr1; have hAr1 := K.none hr1 her1; have nepr1 := neA ep hr1; have ep := Ext.new (c := .lst ((P.take (a + 1)).map D.str)) hr1 _ _ ep; have er1 : updA A7 r1 (.lst ((P.take (a + 1)).map D.str)) r1 = some (.lst ((P.take (a + 1)).map D.str)) := updA_same; have K := K.new (c := .lst ((P.take (a + 1)).map D.str)) hr1; have S := S.ext (Ext.new (c := .lst ((P.take (a + 1)).map D.str)) hr1); generalize updA A7 r1 (.lst ((P.take (a + 1)).map D.str)) = A8 at ep er1 K S ⊢
      (conv => whnf)
      refine ⟨_, ep, ?_⟩
      (conv => whnf)
      rw [cut_from, ← List.map_drop]
      intro r2 hr2; have her2 := S.ne hr2; have hAr2 := K.none hr2 her2; have ner1r2 := neA er1 hr2; have er1 := Ext.new (c := .lst ((P.drop a).map D.str)) hr2 _ _ er1; have er2 : updA A8 r2 (.lst ((P.drop a).map D.str)) r2 = some (.lst ((P.drop a).map D.str)) := updA_same; have K := K.new (c := .lst ((P.drop a).map D.str)) hr2; have S := S.ext (Ext.new (c := .lst ((P.drop a).map D.str)) hr2); generalize updA A8 r2 (.lst ((P.drop a).map D.str)) = A9 at er1 er2 K S ⊢
      (conv => whnf)
      have t1 := tk (a + 1)
      have t2 := dr a
      refine ⟨_, er1, _, er2, by rw [List.length_map, List.length_map, big_eq]; omega, ?_⟩
      rw [← List.map_append]
      intro r3 hr3; have her3 := S.ne hr3; have hAr3 := K.none hr3 her3; have er3 : updA A9 r3 (.lst ((P.take (a + 1) ++ P.drop a).map D.str)) r3 = some (.lst ((P.take (a + 1) ++ P.drop a).map D.str)) := updA_same; have K := K.new (c := .lst ((P.take (a + 1) ++ P.drop a).map D.str)) hr3; have S := S.ext (Ext.new (c := .lst ((P.take (a + 1) ++ P.drop a).map D.str)) hr3); generalize updA A9 r3 (.lst ((P.take (a + 1) ++ P.drop a).map D.str)) = A10 at er3 K S ⊢
      (conv => whnf)
      refine ⟨Nat.le_of_ble_eq_true rfl, ?_⟩
      intro r4 hr4; have her4 := S.ne hr4; have hAr4 := K.none hr4 her4; have ner3r4 := neA er3 hr4; have er3 := Ext.new (c := .lst [.str strange]) hr4 _ _ er3; have er4 : updA A10 r4 (.lst [.str strange]) r4 = some (.lst [.str strange]) := updA_same; have K := K.new (c := .lst [.str strange]) hr4; have S := S.ext (Ext.new (c := .lst [.str strange]) hr4); generalize updA A10 r4 (.lst [.str strange]) = A11 at er3 er4 K S ⊢
      (conv => whnf)
      refine ⟨_, er3, _, er4, by rw [List.length_map, List.length_append, List.length_singleton, big_eq]; omega, ?_⟩
      have hcat : (P.take (a + 1) ++ P.drop a).map D.str ++ [.str strange] = (P.take (a + 1) ++ P[a] :: (P.drop (a + 1) ++ [strange])).map D.str := by
        rw [List.drop_eq_getElem_cons ha]; simp only [List.map_append, List.map_cons, List.append_assoc, List.cons_append, List.map_nil]
      rw [hcat]
      have hF := dup_kno hsK hsA ha (P.drop (a + 1) ++ [strange])
      have hlen : (P.take (a + 1) ++ P[a] :: (P.drop (a + 1) ++ [strange])).length ≤ 60 := by
        have := dr (a + 1)
        simp only [List.length_append, List.length_cons, List.length_nil]
        omega
      generalize P.take (a + 1) ++ P[a] :: (P.drop (a + 1) ++ [strange]) = B at hF hlen ⊢
      intro r5 hr5; have her5 := S.ne hr5; have hAr5 := K.none hr5 her5; have er5 : updA A11 r5 (.lst (B.map D.str)) r5 = some (.lst (B.map D.str)) := updA_same; have K := K.new (c := .lst (B.map D.str)) hr5; have S := S.ext (Ext.new (c := .lst (B.map D.str)) hr5); generalize updA A11 r5 (.lst (B.map D.str)) = A12 at er5 K S ⊢
      (conv => whnf)
      refine ⟨_, er5, ?_⟩
      ((repeat ((conv => whnf); first | (refine ⟨?_, fun _ => ?_⟩; · (intro z; cases z)) | (refine ⟨fun _ => ?_, ?_⟩; rotate_left; · (intro z; cases z)) | (refine ⟨?_, fun _ => ?_⟩; · (intro z; exact absurd z (by decide))) | (refine ⟨fun _ => ?_, ?_⟩; rotate_left; · (intro z; exact absurd z (by decide))) | refine ⟨Nat.le_of_ble_eq_true rfl, ?_⟩ | refine ⟨_, atI_zero', ?_⟩ | refine ⟨_, atI_one', ?_⟩ | (refine ⟨_, rfl, ?_, ?_⟩; · decide) | (refine ⟨fun _ => ?_, ?_⟩; rotate_left; · (intro z; rename_i h; first | cases h.symm.trans z | cases z.symm.trans h)) | (apply Exists.intro; apply And.intro; (· assumption); apply And.intro; (· decide)) | (apply And.intro; · (apply Exists.intro; assumption)) | (apply Exists.intro; apply And.intro; (· assumption); refine ⟨_, atI_zero', ?_⟩) | (apply Exists.intro; apply And.intro; · assumption))); (try (conv => whnf)))
      exact fin B _ _ A12 (.inr ⟨a + 1, hF, rfl, rfl⟩) hlen K (S.mono (by omega))
    (conv => whnf)
    refine ⟨fun _ => ?_, fun _ => ⟨fun z => Bool.noConfusion z, fun _ => rest⟩⟩
    (conv => whnf)
    refine ⟨_, ep, ?_⟩
    (conv => whnf)
    refine ⟨fun h2 => ?_, fun _ => rest⟩
    have h2 : 1 < P.length := by have := of_decide_eq_true h2; rw [List.length_map] at this; omega
    have hmax : (if (1 : Int) > (a : Int) then (1 : Int) else (a : Int)) = ((max a 1 : Nat) : Int) := by split <;> omega
    have hb : max a 1 < P.length := by omega
    (conv => whnf)
    rw [hmax]
    generalize hbe : max a 1 = b at hb
    have hb1 : 1 ≤ b := by omega
    refine ⟨_, ep, ?_⟩
    (conv => whnf)
    rw [show ((b : Int) - 1) = ((b - 1 : Nat) : Int) by omega, cut_to, ← List.map_take]
    intro r1 hr1; have her1 := S.ne hr1; have hAr1 := K.none hr1 her1; have nepr1 := neA ep hr1; have ep := Ext.new (c := .lst ((P.take (b - 1)).map D.str)) hr1 _ _ ep; have er1 : updA A7 r1 (.lst ((P.take (b - 1)).map D.str)) r1 = some (.lst ((P.take (b - 1)).map D.str)) := updA_same; have K := K.new (c := .lst ((P.take (b - 1)).map D.str)) hr1; have S := S.ext (Ext.new (c := .lst ((P.take (b - 1)).map D.str)) hr1); generalize updA A7 r1 (.lst ((P.take (b - 1)).map D.str)) = A8 at ep er1 K S ⊢
    (conv => whnf)
    refine ⟨_, ep, _, atI_map _ hb, ?_⟩
    (conv => whnf)
    refine ⟨_, ep, _, (by rw [show ((b : Int) - 1) = ((b - 1 : Nat) : Int) by omega]; exact atI_map _ (show b - 1 < P.length by omega)), ?_⟩
    (conv => whnf)
    refine ⟨Nat.le_of_ble_eq_true rfl, ?_⟩
    have hb0 : b - 1 < P.length := by omega
    have hF := swap_kno hsK hsA hb1 hb (P.drop (b + 1))
    have hsw := swap_cat (L := P) hb hb0
    have hlen : ((P.take (b - 1) ++ [P[b]]) ++ P[b - 1] :: P.drop (b + 1)).length ≤ 60 := by
      have := tk (b - 1)
      have := dr (b + 1)
      simp only [List.length_append, List.length_cons, List.length_nil]
      omega
    generalize (P.take (b - 1) ++ [P[b]]) ++ P[b - 1] :: P.drop (b + 1) = B at hF hlen hsw
    generalize P[b] = c1 at hsw ⊢
    generalize P[b - 1] = c2 at hsw ⊢
    intro r2 hr2; have her2 := S.ne hr2; have hAr2 := K.none hr2 her2; have nepr2 := neA ep hr2; have ner1r2 := neA er1 hr2; have ep := Ext.new (c := .lst [.str c1, .str c2]) hr2 _ _ ep; have er1 := Ext.new (c := .lst [.str c1, .str c2]) hr2 _ _ er1; have er2 : updA A8 r2 (.lst [.str c1, .str c2]) r2 = some (.lst [.str c1, .str c2]) := updA_same; have K := K.new (c := .lst [.str c1, .str c2]) hr2; have S := S.ext (Ext.new (c := .lst [.str c1, .str c2]) hr2); generalize updA A8 r2 (.lst [.str c1, .str c2]) = A9 at ep er1 er2 K S ⊢
    (conv => whnf)
    have t1 := tk (b - 1)
    refine ⟨_, er1, _, er2, by rw [List.length_map, big_eq]; show _ + 2 ≤ _; omega, ?_⟩
    intro r3 hr3; have her3 := S.ne hr3; have hAr3 := K.none hr3 her3; have nepr3 := neA ep hr3; have ep := Ext.new (c := .lst ((P.take (b - 1)).map D.str ++ [.str c1, .str c2])) hr3 _ _ ep; have er3 : updA A9 r3 (.lst ((P.take (b - 1)).map D.str ++ [.str c1, .str c2])) r3 = some (.lst ((P.take (b - 1)).map D.str ++ [.str c1, .str c2])) := updA_same; have K := K.new (c := .lst ((P.take (b - 1)).map D.str ++ [.str c1, .str c2])) hr3; have S := S.ext (Ext.new (c := .lst ((P.take (b - 1)).map D.str ++ [.str c1, .str c2])) hr3); generalize updA A9 r3 (.lst ((P.take (b - 1)).map D.str ++ [.str c1, .str c2])) = A10 at ep er3 K S ⊢
    (conv => whnf)
    refine ⟨_, ep, ?_⟩
    (conv => whnf)
    rw [show ((b : Int) + 1) = ((b + 1 : Nat) : Int) from rfl, cut_from, ← List.map_drop]
    intro r4 hr4; have her4 := S.ne hr4; have hAr4 := K.none hr4 her4; have ner3r4 := neA er3 hr4; have er3 := Ext.new (c := .lst ((P.drop (b + 1)).map D.str)) hr4 _ _ er3; have er4 : updA A10 r4 (.lst ((P.drop (b + 1)).map D.str)) r4 = some (.lst ((P.drop (b + 1)).map D.str)) := updA_same; have K := K.new (c := .lst ((P.drop (b + 1)).map D.str)) hr4; have S := S.ext (Ext.new (c := .lst ((P.drop (b + 1)).map D.str)) hr4); generalize updA A10 r4 (.lst ((P.drop (b + 1)).map D.str)) = A11 at er3 er4 K S ⊢
    (conv => whnf)
    have t2 := dr (b + 1)
    refine ⟨_, er3, _, er4, by rw [List.length_append, List.length_map, List.length_map, big_eq]; show _ + 2 + _ ≤ _; omega, ?_⟩
    rw [hsw]
    intro r5 hr5; have her5 := S.ne hr5; have hAr5 := K.none hr5 her5; have er5 : updA A11 r5 (.lst (B.map D.str)) r5 = some (.lst (B.map D.str)) := updA_same; have K := K.new (c := .lst (B.map D.str)) hr5; have S := S.ext (Ext.new (c := .lst (B.map D.str)) hr5); generalize updA A11 r5 (.lst (B.map D.str)) = A12 at er5 K S ⊢
    (conv => whnf)
    refine ⟨_, er5, ?_⟩
    ((repeat ((conv => whnf); first | (refine ⟨?_, fun _ => ?_⟩; · (intro z; cases z)) | (refine ⟨fun _ => ?_, ?_⟩; rotate_left; · (intro z; cases z)) | (refine ⟨?_, fun _ => ?_⟩; · (intro z; exact absurd z (by decide))) | (refine ⟨fun _ => ?_, ?_⟩; rotate_left; · (intro z; exact absurd z (by decide))) | refine ⟨Nat.le_of_ble_eq_true rfl, ?_⟩ | refine ⟨_, atI_zero', ?_⟩ | refine ⟨_, atI_one', ?_⟩ | (refine ⟨_, rfl, ?_, ?_⟩; · decide) | (refine ⟨fun _ => ?_, ?_⟩; rotate_left; · (intro z; rename_i h; first | cases h.symm.trans z | cases z.symm.trans h)) | (apply Exists.intro; apply And.intro; (· assumption); apply And.intro; (· decide)) | (apply And.intro; · (apply Exists.intro; assumption)) | (apply Exists.intro; apply And.intro; (· assumption); refine ⟨_, atI_zero', ?_⟩) | (apply Exists.intro; apply And.intro; · assumption))); (try (conv => whnf)))
    exact fin B _ _ A12 (.inr ⟨b, hF, rfl, rfl⟩) hlen K (S.mono (by omega))
  have hst0 : str0 ∉ L := fun z => by rw [hL.nm _ z] at bnm; cases bnm
  (conv => whnf)
  refine ⟨l, _, 2, rfl, S, by omega, by decide, fun t A7 t0 t2 K2 S2 => ?_⟩
  have ep := K2 _ _ hep ep; have K := K.trans K2; have S := S2
  (conv => whnf)
  refine ⟨fun _ => ?_, fun _ => main str0 A7 hst0 ep K (S.mono (by omega))⟩
  (conv => whnf)
  refine ⟨l, _, rfl, S, by omega, fun nm A8 hnm K2 S2 => ?_⟩
  have ep := K2 _ _ hep ep; have K := K.trans K2; have S := S2
  (conv => whnf)
  intro r hr; have her := S.ne hr; have hAr := K.none hr her; have nepr := neA ep hr; have ep := Ext.new (c := .lst (L.map D.str)) hr _ _ ep; have er : updA A8 r (.lst (L.map D.str)) r = some (.lst (L.map D.str)) := updA_same; have K := K.new (c := .lst (L.map D.str)) hr; have S := S.ext (Ext.new (c := .lst (L.map D.str)) hr); generalize updA A8 r (.lst (L.map D.str)) = A9 at ep er K S ⊢
  (conv => whnf)
  refine ⟨nm, r, L, rfl, er, by omega, hnm, fun c hc hcL => ?_⟩
  exact main c A9 hcL ep K (S.mono (by omega))
theorem len__law_lotspoilt (ds : List D) (A : Ah) (q : D → Ah → Prop) (x : AX) : sp__law_lotspoilt ds A q x → ds.length = 3 := by
  rintro ⟨l, n, L, rfl, _⟩; rfl
def as_lots_of_4 : AS := (aRet (aCall sp_lots_of_size (aCons (aVar 0) (aCons (aVar 1) aNil))))
def as_lots_of_2 : AS := (aSeq (aIf (aNotT (aTest (aChain aLe aLe (aC (.int 1)) (aVar 1) (aC (.int 4))))) (aRaise "BadNumber" ["number"] (aCons (aVar 1) aNil)) aNext) as_lots_of_4)
def as_lots_of : AS := (aSeq (aDrop (aCallD sp_check_lines [.int 24] (aCons (aVar 0) aNil))) as_lots_of_2)

theorem pure_lots_of (ds : List D) (A : Ah) (q : D → Ah → Prop) (x : AX) : sp_lots_of ds A q x → as_lots_of (endsA q x) (startA ["lines", "size"] ds) A := by
  rintro ⟨L, j, rfl, h⟩
  (conv => whnf)
  refine ⟨L, 24, rfl, h.1, h.2.1, h.2.2.1, h.2.2.2.1, fun a b => ⟨fun c => ?_, (h.2.2.2.2 a b).2⟩⟩
  obtain ⟨g1, g2⟩ := (h.2.2.2.2 a b).1 c
  have h24 : L.length ≤ 24 := by omega
  (conv => whnf)
  refine ⟨fun h1 => ?_, fun h1 => ?_⟩
  · have h1 := of_decide_eq_true h1
    (conv => whnf)
    refine ⟨fun h2 => ?_, fun h2 => ?_⟩
    · have h2 : ¬ j ≤ 4 := by
        have : (!decide (j ≤ 4)) = true := h2
        simpa using this
      (conv => whnf)
      exact ⟨rfl, fun d hd => g2 (fun z => h2 z.2) d _ (.new hd) updA_same⟩
    · have h2 : j ≤ 4 := by
        have : (!decide (j ≤ 4)) = false := h2
        simpa using this
      obtain ⟨m, rfl⟩ := toN (i := j) (by omega)
      (conv => whnf)
      exact ⟨L, m, rfl, h24, by omega, fun A1 G1 => g1 h1 h2 A1 G1⟩
  · have h1 := of_decide_eq_false h1
    refine ⟨fun _ => ?_, fun z => Bool.noConfusion z⟩
    (conv => whnf)
    exact ⟨rfl, fun d hd => g2 (fun z => h1 z.1) d _ (.new hd) updA_same⟩
theorem len_lots_of (ds : List D) (A : Ah) (q : D → Ah → Prop) (x : AX) : sp_lots_of ds A q x → ds.length = 2 := by
  rintro ⟨L, j, rfl, _⟩; rfl
def as_pairs_of_2 : AS := (aRet (aCall sp_lots_of_size (aCons (aVar 0) (aCons (aC (.int 2)) aNil))))
def as_pairs_of : AS := (aSeq (aDrop (aCallD sp_check_lines [.int 24] (aCons (aVar 0) aNil))) as_pairs_of_2)

theorem pure_pairs_of (ds : List D) (A : Ah) (q : D → Ah → Prop) (x : AX) : sp_pairs_of ds A q x → as_pairs_of (endsA q x) (startA ["lines"] ds) A := by
  rintro ⟨L, rfl, h⟩
  (conv => whnf)
  refine ⟨L, 24, rfl, h.1, h.2.1, h.2.2.1, h.2.2.2.1, fun a b => ⟨fun c => ?_, (h.2.2.2.2 a b).2⟩⟩
  have g := (h.2.2.2.2 a b).1 c
  (conv => whnf)
  exact ⟨L, 2, rfl, by omega, by omega, g⟩
theorem len_pairs_of (ds : List D) (A : Ah) (q : D → Ah → Prop) (x : AX) : sp_pairs_of ds A q x → ds.length = 1 := by
  rintro ⟨L, rfl, _⟩; rfl
def as_sub_lots_2 : AS := (aRet (aBlt aTuple (aCons (aLc (aRng2 (aCons (aC (.int 1)) (aCons (aCall sp_mask_end (aCons (aVar 0) aNil)) aNil))) (agName 1) aYes (aCall sp_pick_lot (aCons (aVar 0) (aCons (aVar 1) aNil))) [1]) aNil)))
def as_sub_lots : AS := (aSeq (aDrop (aCallK sp_check_lines 1 1 (aCons (aVar 0) aNil) (aCons (aC (.int 8)) aNil))) as_sub_lots_2)

theorem pow8 : ∀ k : Nat, k ≤ 8 → 2 ^ k ≤ 256 := by decide +kernel
theorem pure_sub_lots (ds : List D) (A : Ah) (q : D → Ah → Prop) (x : AX) : sp_sub_lots ds A q x → as_sub_lots (endsA q x) (startA ["lines", "number"] ds) A := by
  rintro ⟨L, rfl, h⟩
  (conv => whnf)
  refine ⟨rfl, rfl, L, 8, rfl, h.1, h.2.1, h.2.2.1, h.2.2.2.1, fun a b => ⟨fun c => ?_, (h.2.2.2.2 a b).2⟩⟩
  have g := (h.2.2.2.2 a b).1 c
  have hL : L.length ≤ 8 := by omega
  have h2 := pow8 _ hL
  have h3 : 0 < 2 ^ L.length := Nat.two_pow_pos _
  have hl := h.1
  (conv => whnf)
  refine ⟨L, rfl, by omega, ?_⟩
  generalize 2 ^ L.length = e at g h2 h3
  (conv => whnf)
  refine ⟨⟨by omega, by omega, by omega, by omega⟩, ?_⟩
  have hn : ((e : Int) - 1).toNat = e - 1 := by omega
  rw [hn]
  refine lc_ofE (it := ⟨none, e - 1, fun k => .int (1 + (k : Int))⟩) (fun i => .tup ((pkL L (i + 1)).map D.str)) (fun A' _ => trivial) (by rw [big_eq]; show e - 1 ≤ _; omega) ?_ ?_
  · intro i A' k sk hi G hk
    have hk : ∀ A2, Ext A' A2 → k (.tup ((pkL L (i + 1)).map D.str)) A2 := hk
    (repeat ((conv => whnf); first | (refine ⟨?_, fun _ => ?_⟩; · (intro z; cases z)) | (refine ⟨fun _ => ?_, ?_⟩; rotate_left; · (intro z; cases z)) | (refine ⟨?_, fun _ => ?_⟩; · (intro z; exact absurd z (by decide))) | (refine ⟨fun _ => ?_, ?_⟩; rotate_left; · (intro z; exact absurd z (by decide)))))
    refine ⟨L, i + 1, ?_, by omega, hk⟩
    show [D.tup (L.map D.str), D.int (1 + (i : Int))] = _
    rw [show (1 + (i : Int)) = ((i + 1 : Nat) : Int) by omega]
  · intro p A' hp G e1
    (conv => whnf)
    exact ⟨_, e1, g A' G⟩
theorem len_sub_lots (ds : List D) (A : Ah) (q : D → Ah → Prop) (x : AX) : sp_sub_lots ds A q x → ds.length = 1 := by
  rintro ⟨L, rfl, _⟩; rfl
def as_mask_of_8 : AS := (aAsg (aOp aMul (aVar 3) (aC (.int 2))) (agName 3))
def as_mask_of_6 : AS := (aSeq (aIf (aTest (aOp aInS (aVar 4) (aVar 1))) (aAsg (aOp aAdd (aVar 2) (aVar 3)) (agName 2)) aNext) as_mask_of_8)
def as_mask_of_5 : AS := (aSeq (aFor (aIter (aVar 0)) (agName 4) as_mask_of_6) (aRet (aVar 2)))
def as_mask_of_4 : AS := (aSeq (aAsg (aC (.int 1)) (agName 3)) as_mask_of_5)
def as_mask_of_3 : AS := (aSeq (aAsg (aC (.int 0)) (agName 2)) as_mask_of_4)
def as_mask_of_2 : AS := (aSeq (aDrop (aCall sp_check_known_lot (aCons (aVar 0) (aCons (aVar 1) aNil)))) as_mask_of_3)
def as_mask_of : AS := (aSeq (aDrop (aCallD sp_check_lines [.int 24] (aCons (aVar 0) aNil))) as_mask_of_2)

theorem pow24o : ∀ k : Nat, k ≤ 24 → 2 ^ k ≤ 16777216 := by decide +kernel
theorem LinesX.w {L : List (List Nat)} {m : Int} {A : Ah} {x : AX} {G G' : Prop} (h : LinesX L m A x G) (g : L ≠ [] → (L.length : Int) ≤ m → lotF L = none → G → G') : LinesX L m A x G' :=
  ⟨h.1, h.2.1, h.2.2.1, h.2.2.2.1, fun a b => ⟨fun c => g a b c ((h.2.2.2.2 a b).1 c), (h.2.2.2.2 a b).2⟩⟩
theorem pure_mask_of (ds : List D) (A : Ah) (q : D → Ah → Prop) (x : AX) : sp_mask_of ds A q x → as_mask_of (endsA q x) (startA ["lines", "lot", "mask", "weight", "name"] ds) A := by
  rintro ⟨K, L, rfl, hl, h⟩
  (conv => whnf)
  refine ⟨K, 24, rfl, h.w fun _ h24 _ g => ?_⟩
  obtain ⟨h1, h2, h3⟩ := g
  have h24 : K.length ≤ 24 := by omega
  (conv => whnf)
  refine ⟨K, L, rfl, hl, fun hk => ?_, h2, h3⟩
  have h1 := h1 hk
  (conv => whnf)
  refine ⟨fun i Γ A' => ∃ (k : Nat) (a : Option D), Γ = [some (.tup (K.map D.str)), some (.tup (L.map D.str)), some (.int k), some (.int ((2 ^ i : Nat) : Int)), a] ∧ A' = A ∧ k + 2 ^ i * mkL L (K.drop i) = mkL L K, ⟨0, _, rfl, rfl, by rw [List.drop_zero]; omega⟩, fun _ _ _ _ _ => trivial, ?_, ?_⟩
  · rintro i Γ A' (hi : i < (K.map D.str).length) ⟨k, a, rfl, rfl, hm⟩
    rw [List.length_map] at hi
    show agName 4 ((K.map D.str).getD i .non) _ _ _
    rw [map_getD _ hi]
    have hd : K.drop i = K[i] :: K.drop (i + 1) := List.drop_eq_getElem_cons hi
    generalize K[i] = c at hd ⊢
    rw [hd, mkL] at hm
    have hp := pow24o i (by omega)
    have hsm : SmallI ((2 ^ i : Nat) : Int) := by
      generalize 2 ^ i = t at hp
      exact small128 (by omega) (by omega)
    have hpow : ((2 ^ (i + 1) : Nat) : Int) = ((2 ^ i : Nat) : Int) * 2 := by rw [Nat.pow_succ]; rfl
    (conv => whnf)
    refine ⟨rfl, sc_strs L, ?_⟩
    (conv => whnf)
    refine ⟨fun hc => ?_, fun hc => ?_⟩
    · have hc : c ∈ L := inD_str.mp hc
      rw [if_pos hc, Nat.mul_add, Nat.mul_one, ← Nat.mul_assoc, ← Nat.pow_succ] at hm
      (conv => whnf)
      refine ⟨hsm, small128 (by decide) (by decide), ?_⟩
      exact ⟨k + 2 ^ i, _, by rw [hpow]; rfl, rfl, by rw [Nat.succ_eq_add_one] at hm; omega⟩
    · have hc : c ∉ L := inD_strF.mp hc
      rw [if_neg hc, Nat.zero_add, ← Nat.mul_assoc, ← Nat.pow_succ] at hm
      (conv => whnf)
      refine ⟨hsm, small128 (by decide) (by decide), ?_⟩
      exact ⟨k, _, by rw [hpow]; rfl, rfl, by rw [Nat.succ_eq_add_one] at hm; omega⟩
  · rintro Γ A' ⟨k, a, rfl, rfl, hm⟩
    have hm : k + 2 ^ (K.map D.str).length * mkL L (K.drop (K.map D.str).length) = mkL L K := hm
    rw [List.length_map, List.drop_length] at hm
    have hm : k + 2 ^ K.length * 0 = mkL L K := hm
    rw [Nat.mul_zero] at hm
    rw [← hm] at h1
    exact h1
theorem len_mask_of (ds : List D) (A : Ah) (q : D → Ah → Prop) (x : AX) : sp_mask_of ds A q x → ds.length = 2 := by
  rintro ⟨K, L, rfl, _⟩; rfl
def as_lot_of_mask_4 : AS := (aRet (aCall sp_pick_lot (aCons (aVar 0) (aCons (aVar 1) aNil))))
def as_lot_of_mask_2 : AS := (aSeq (aIf (aNotT (aTest (aChain aLe aLt (aC (.int 1)) (aVar 1) (aCall sp_mask_end (aCons (aVar 0) aNil))))) (aRaise "BadNumber" ["number"] (aCons (aVar 1) aNil)) aNext) as_lot_of_mask_4)
def as_lot_of_mask : AS := (aSeq (aDrop (aCallD sp_check_lines [.int 24] (aCons (aVar 0) aNil))) as_lot_of_mask_2)

theorem pure_lot_of_mask (ds : List D) (A : Ah) (q : D → Ah → Prop) (x : AX) : sp_lot_of_mask ds A q x → as_lot_of_mask (endsA q x) (startA ["lines", "number"] ds) A := by
  rintro ⟨L, j, rfl, h⟩
  (conv => whnf)
  refine ⟨L, 24, rfl, h.1, h.2.1, h.2.2.1, h.2.2.2.1, fun a b => ⟨fun c => ?_, (h.2.2.2.2 a b).2⟩⟩
  obtain ⟨g1, g2⟩ := (h.2.2.2.2 a b).1 c
  have hl := h.1
  have h24 : L.length ≤ 24 := by omega
  (conv => whnf)
  refine ⟨fun h1 => ?_, fun h1 => ?_⟩
  · have h1 := of_decide_eq_true h1
    (conv => whnf)
    refine ⟨L, rfl, h24, ?_⟩
    (conv => whnf)
    generalize hp : ((2 ^ L.length : Nat) : Int) = e at g1 g2
    refine ⟨fun h2 => ?_, fun h2 => ?_⟩
    · have h2 : ¬ j < e := by
        have : (!decide (j < e)) = true := h2
        simpa using this
      (conv => whnf)
      exact ⟨rfl, fun d hd => g2 (fun z => h2 z.2) d _ (.new hd) updA_same⟩
    · have h2 : j < e := by
        have : (!decide (j < e)) = false := h2
        simpa using this
      obtain ⟨m, rfl⟩ := toN (i := j) (by omega)
      (conv => whnf)
      exact ⟨L, m, rfl, hl, fun A1 G1 => g1 h1 h2 A1 G1⟩
  · have h1 := of_decide_eq_false h1
    refine ⟨fun _ => ?_, fun z => Bool.noConfusion z⟩
    (conv => whnf)
    exact ⟨rfl, fun d hd => g2 (fun z => h1 z.1) d _ (.new hd) updA_same⟩
theorem len_lot_of_mask (ds : List D) (A : Ah) (q : D → Ah → Prop) (x : AX) : sp_lot_of_mask ds A q x → ds.length = 2 := by
  rintro ⟨L, j, rfl, _⟩; rfl
def as__law_ask_15 : AS := (aRet (aCall sp_lot_of (aCons (aVar 1) aNil)))
def as__law_ask_13 : AS := (aSeq (aIf (aTest (aOp aEq (aVar 0) (aC (.str (tl "lot_of_mask"))))) (aRet (aCall sp_lot_of_mask (aCons (aVar 1) (aCons (aVar 2) aNil)))) aNext) as__law_ask_15)
def as__law_ask_11 : AS := (aSeq (aIf (aTest (aOp aEq (aVar 0) (aC (.str (tl "mask_of"))))) (aRet (aCall sp_mask_of (aCons (aVar 1) (aCons (aVar 2) aNil)))) aNext) as__law_ask_13)
def as__law_ask_9 : AS := (aSeq (aIf (aTest (aOp aEq (aVar 0) (aC (.str (tl "sub_lots"))))) (aRet (aCall sp_sub_lots (aCons (aVar 1) aNil))) aNext) as__law_ask_11)
def as__law_ask_7 : AS := (aSeq (aIf (aTest (aOp aEq (aVar 0) (aC (.str (tl "pairs_of"))))) (aRet (aCall sp_pairs_of (aCons (aVar 1) aNil))) aNext) as__law_ask_9)
def as__law_ask_5 : AS := (aSeq (aIf (aTest (aOp aEq (aVar 0) (aC (.str (tl "lots_of"))))) (aRet (aCall sp_lots_of (aCons (aVar 1) (aCons (aVar 2) aNil)))) aNext) as__law_ask_7)
def as__law_ask_3 : AS := (aSeq (aIf (aTest (aOp aEq (aVar 0) (aC (.str (tl "check_most"))))) (aRet (aCallK sp_check_lines 1 1 (aCons (aVar 1) aNil) (aCons (aVar 2) aNil))) aNext) as__law_ask_5)
def as__law_ask : AS := (aSeq (aIf (aTest (aOp aEq (aVar 0) (aC (.str (tl "check_lines"))))) (aRet (aCallD sp_check_lines [.int 24] (aCons (aVar 1) aNil))) aNext) as__law_ask_3)

theorem pure__law_ask (ds : List D) (A : Ah) (q : D → Ah → Prop) (x : AX) : sp__law_ask ds A q x → as__law_ask (endsA q x) (startA ["word", "lines", "thing"] ds) A := by
  rintro ⟨w, d, m, rfl, h⟩
  rcases h with ⟨rfl, h⟩ | ⟨rfl, h⟩ | ⟨rfl, h⟩ | ⟨rfl, h⟩ | ⟨rfl, h⟩ | ⟨rfl, h⟩ | ⟨rfl, h⟩ | ⟨rfl, h⟩
  all_goals ((repeat ((conv => whnf); first | (refine ⟨?_, fun _ => ?_⟩; · (intro z; cases z)) | (refine ⟨fun _ => ?_, ?_⟩; rotate_left; · (intro z; cases z)) | (refine ⟨?_, fun _ => ?_⟩; · (intro z; exact absurd z (by decide))) | (refine ⟨fun _ => ?_, ?_⟩; rotate_left; · (intro z; exact absurd z (by decide))))); first | exact h | exact ⟨rfl, rfl, h⟩)
theorem len__law_ask (ds : List D) (A : Ah) (q : D → Ah → Prop) (x : AX) : sp__law_ask ds A q x → ds.length = 3 := by
  rintro ⟨w, d, m, rfl, _⟩; rfl
def as__law_masksgood_3 : AS := (aDrop (aMethL aAppend (aVar 3) (aCons (aCall sp__law_number (aCons (aVar 0) (aCons (aC (.int 1)) (aCons (aVar 2) aNil)))) aNil)))
def as__law_masksgood_8 : AS := (aIf (aOrT (aNotT (aTest (aCall sp__law_equal (aCons (aCall sp_lot_of_mask (aCons (aVar 1) (aCons (aVar 5) aNil))) (aCons (aVar 6) aNil))))) (aNotT (aTest (aCall sp__law_equal (aCons (aCall sp_mask_of (aCons (aVar 1) (aCons (aVar 6) aNil))) (aCons (aVar 5) aNil)))))) (aRet (aC (.bl false))) aNext)
def as__law_masksgood_7 : AS := (aSeq (aAsg (aCall sp__law_lotof (aCons (aVar 1) (aCons (aVar 5) aNil))) (agName 6)) as__law_masksgood_8)
def as__law_masksgood_6 : AS := (aSeq (aFor (aIter (aVar 3)) (agName 5) as__law_masksgood_7) (aRet (aC (.bl true))))
def as__law_masksgood_4 : AS := (aSeq (aIf (aTest (aOp aLt (aVar 2) (aC (.int 16)))) (aAsg (aLRng2 (aC (.int 1)) (aOp aAdd (aVar 2) (aC (.int 1)))) (agName 3)) aNext) as__law_masksgood_6)
def as__law_masksgood_2 : AS := (aSeq (aFor (aRng1 (aCons (aC (.int 6)) aNil)) (agName 4) as__law_masksgood_3) as__law_masksgood_4)
def as__law_masksgood : AS := (aSeq (aAsg (aLst (aCons (aC (.int 1)) (aCons (aVar 2) (aCons (aOp aAdd (aOp aDiv (aVar 2) (aC (.int 2))) (aC (.int 1))) aNil)))) (agName 3)) as__law_masksgood_2)

theorem pure__law_masksgood (ds : List D) (A : Ah) (q : D → Ah → Prop) (x : AX) : sp__law_masksgood ds A q x → as__law_masksgood (endsA q x) (startA ["store", "lines", "top", "numbers", "k", "number", "lot"] ds) A := by
  rintro ⟨l, n, L, rfl, S, hn, hL, h⟩
  have K : Kp l A A := .rfl
  have hLn := hL.le
  have h2 := pow24p _ hLn
  have hpos : 0 < L.length := List.length_pos_iff.mpr hL.ne
  have h21 : 2 ≤ 2 ^ L.length := by
    have := Nat.pow_le_pow_right (show 0 < 2 by decide) hpos
    exact this
  have hnd := asc_nodup hL.asc
  have hpk : ∀ m, m < 2 ^ L.length → mkL (pkL L m) L = m := fun m hm => mk_pk hnd hm
  have hpn : ∀ m, 0 < m → m < 2 ^ L.length → pkL L m ≠ [] := fun m h1 h2 => pk_ne h1 h2
  generalize hT : 2 ^ L.length = T at h2 h21 hpk hpn
  have numI : (T : Int) - 1 = ((T - 1 : Nat) : Int) := by omega
  rw [numI]
  -- the last loop
  have loop : ∀ (p : Addr) (M : List Nat) (a : Option D) (A1 : Ah), A1 p = some (.lst (M.map fun m => D.int (m : Nat))) → (∀ m ∈ M, 1 ≤ m ∧ m < T) → p ≠ l → Kp l A A1 → St A1 l (n + 60) → as__law_masksgood_6 (endsA q x) [some (.ref l), some (.tup (L.map D.str)), some (.int ((T - 1 : Nat) : Int)), some (.ref p), a, none, none] A1 := by
    intro p M a A1 ep hM hep K S
    (conv => whnf)
    refine ⟨_, ep, ?_⟩
    refine ⟨fun i Γ A' => ∃ b c, Γ = [some (.ref l), some (.tup (L.map D.str)), some (.int ((T - 1 : Nat) : Int)), some (.ref p), a, b, c] ∧ A' p = some (.lst (M.map fun m => D.int (m : Nat))) ∧ Kp l A A' ∧ St A' l (n + 60), ⟨_, _, rfl, ep, K, S⟩, fun i Γ A' _ => fun ⟨_, _, _, e, _⟩ => e, ?_, ?_⟩
    · rintro i Γ A2 (hi : i < (M.map fun m => D.int (m : Nat)).length) ⟨b, c, rfl, ep, K, S⟩
      rw [List.length_map] at hi
      show agName 5 ((M.map fun m => D.int (m : Nat)).getD i .non) _ _ _
      rw [map_getD _ hi]
      have hm := hM _ (List.getElem_mem hi)
      generalize M[i] = m at hm ⊢
      (conv => whnf)
      refine ⟨L, m, rfl, by omega, fun A3 G3 => ?_⟩
      have hne := hpn m (by omega) hm.2
      have hsub := pk_sub L m
      have hsA : Asc (pkL L m) := hL.asc.sublist hsub
      have hsK : ∀ c ∈ pkL L m, c ∈ L := fun c hc => hsub.subset hc
      have hsl := hsub.length_le
      have hmk := hpk m hm.2
      (conv => whnf)
      refine ⟨L, (m : Int), rfl, linesX_good hL.ok (by omega) (by omega) ⟨fun _ _ A4 G4 => ?_, fun z => (z ⟨by omega, by rw [hT]; omega⟩).elim⟩⟩
      rw [Int.toNat_natCast]
      generalize pkL L m = P at hne hsub hsA hsK hsl hmk ⊢
      (conv => whnf)
      refine ⟨_, _, rfl, .tup (plsStrs P), by omega, fun A5 G5 => ?_⟩
      (repeat ((conv => whnf); first | (refine ⟨?_, fun _ => ?_⟩; · (intro z; cases z)) | (refine ⟨fun _ => ?_, ?_⟩; rotate_left; · (intro z; cases z)) | (refine ⟨?_, fun _ => ?_⟩; · (intro z; exact absurd z (by decide))) | (refine ⟨fun _ => ?_, ?_⟩; rotate_left; · (intro z; exact absurd z (by decide)))))
      (conv => whnf)
      refine ⟨L, P, rfl, by omega, linesX_good hL.ok (by omega) (by omega) ⟨fun _ => ?_, fun cs z => ?_, fun i z => ?_⟩⟩
      · rw [hmk]
        (conv => whnf)
        refine ⟨_, _, rfl, .int _, by decide, fun A6 G6 => ?_⟩
        (repeat ((conv => whnf); first | (refine ⟨?_, fun _ => ?_⟩; · (intro z; cases z)) | (refine ⟨fun _ => ?_, ?_⟩; rotate_left; · (intro z; cases z)) | (refine ⟨?_, fun _ => ?_⟩; · (intro z; exact absurd z (by decide))) | (refine ⟨fun _ => ?_, ?_⟩; rotate_left; · (intro z; exact absurd z (by decide)))))
        have G := ((G3.trans G4).trans G5).trans G6
        exact ⟨_, _, rfl, G p _ ep, K.trans G.kp, S.ext G⟩
      · rw [kno_good hsK hsA hne] at z; cases z
      · rw [kno_good hsK hsA hne] at z; cases z
    · rintro Γ A2 ⟨b, c, rfl, ep, K, S⟩
      (conv => whnf)
      exact h A2 K S
  (conv => whnf)
  refine ⟨by decide, small128 (by decide) (by decide), ?_⟩
  (conv => whnf)
  refine ⟨Nat.le_of_ble_eq_true rfl, ?_⟩
  rw [show [D.int 1, D.int ((T - 1 : Nat) : Int), D.int (((T - 1 : Nat) : Int) / 2 + 1)] = [1, T - 1, (T - 1) / 2 + 1].map fun m => D.int (m : Nat) from rfl]
  have hM0 : ∀ m ∈ [1, T - 1, (T - 1) / 2 + 1], 1 ≤ m ∧ m < T := by
    intro m hm
    simp only [List.mem_cons, List.not_mem_nil, or_false] at hm
    omega
  have hM0l : [1, T - 1, (T - 1) / 2 + 1].length = 3 := rfl
  generalize [1, T - 1, (T - 1) / 2 + 1] = M0 at hM0 hM0l ⊢
  intro p hp; have hep := S.ne hp; have hAp := K.none hp hep; have ep : updA A p (.lst (M0.map fun m => D.int (m : Nat))) p = some (.lst (M0.map fun m => D.int (m : Nat))) := updA_same; have K := K.new (c := .lst (M0.map fun m => D.int (m : Nat))) hp; have S := S.ext (Ext.new (c := .lst (M0.map fun m => D.int (m : Nat))) hp); generalize updA A p (.lst (M0.map fun m => D.int (m : Nat))) = A1 at ep K S ⊢
  (conv => whnf)
  refine ⟨by decide, ?_⟩
  refine ⟨fun i Γ A' => ∃ a M, Γ = [some (.ref l), some (.tup (L.map D.str)), some (.int ((T - 1 : Nat) : Int)), some (.ref p), a, none, none] ∧ A' p = some (.lst (M.map fun m => D.int (m : Nat))) ∧ (∀ m ∈ M, 1 ≤ m ∧ m < T) ∧ M.length = 3 + i ∧ Kp l A A' ∧ St A' l (n + 6 * i), ⟨_, M0, rfl, ep, hM0, hM0l, K, S⟩, fun i Γ A' _ _ => trivial, ?_, ?_⟩
  · rintro i Γ A2 (hi : i < 6) ⟨a, M, rfl, ep, hM, hMl, K, S⟩
    (conv => whnf)
    refine ⟨⟨_, ep⟩, ?_⟩
    (conv => whnf)
    refine ⟨l, _, 1, ((T - 1 : Nat) : Int), rfl, S, by omega, by omega, fun j A3 j0 j1 K2 S2 => ?_⟩
    have ep := K2 _ _ hep ep; have K := K.trans K2; have S := S2
    obtain ⟨j, rfl⟩ := toN (i := j) (by omega)
    (conv => whnf)
    refine ⟨_, ep, by rw [List.length_map, big_eq]; omega, ?_⟩
    exact ⟨_, M ++ [j], rfl, by rw [updA_same]; simp, fun m hm => (List.mem_append.mp hm).elim (hM m) fun z => by rw [List.mem_singleton.mp z]; omega, by rw [List.length_append, hMl]; rfl, K.upd hAp, (S.upd hep).mono (by omega)⟩
  · rintro Γ A2 ⟨a, M, rfl, ep, hM, hMl, K, S⟩
    have S : St A2 l (n + 6 * 6) := S
    (conv => whnf)
    refine ⟨fun ht => ?_, fun ht => loop p M a A2 ep hM hep K (S.mono (by omega))⟩
    have ht := of_decide_eq_true ht
    (conv => whnf)
    refine ⟨by omega, ?_⟩
    have hN : (((T - 1 : Nat) : Int) + 1 - 1).toNat = T - 1 := by omega
    rw [hN]
    have hm : ((List.range (T - 1)).map fun k => D.int (1 + (k : Nat))) = ((List.range (T - 1)).map fun k => k + 1).map fun m => D.int (m : Nat) := by
      rw [List.map_map]
      apply List.map_congr_left
      intro k _
      show D.int (1 + (k : Nat)) = D.int ((k + 1 : Nat))
      congr 1
      omega
    rw [hm]
    have hM : ∀ m ∈ (List.range (T - 1)).map fun k => k + 1, 1 ≤ m ∧ m < T := fun m hm => by
      obtain ⟨k, hk, rfl⟩ := List.mem_map.mp hm
      have := List.mem_range.mp hk
      omega
    generalize (List.range (T - 1)).map (fun k => k + 1) = M2 at hM ⊢
    intro r hr; have her := S.ne hr; have hAr := K.none hr her; have er : updA A2 r (.lst (M2.map fun m => D.int (m : Nat))) r = some (.lst (M2.map fun m => D.int (m : Nat))) := updA_same; have K := K.new (c := .lst (M2.map fun m => D.int (m : Nat))) hr; have S := S.ext (Ext.new (c := .lst (M2.map fun m => D.int (m : Nat))) hr); generalize updA A2 r (.lst (M2.map fun m => D.int (m : Nat))) = A3 at er K S ⊢
    exact loop r M2 _ A3 er hM her K (S.mono (by omega))
theorem len__law_masksgood (ds : List D) (A : Ah) (q : D → Ah → Prop) (x : AX) : sp__law_masksgood ds A q x → ds.length = 3 := by
  rintro ⟨l, n, L, rfl, _⟩; rfl
def as__law_refused : AS := (aSeq (aTry excs 4 (aDrop (aCall sp__law_ask (aCons (aVar 0) (aCons (aVar 1) (aCons (aVar 2) aNil))))) (fun a ε => (aRet (aCall (hsp__law_equal a ε) (aCons (aCall (hsp__law_toldof a ε) (aCons (aVar 4) aNil)) (aCons (aVar 3) aNil)))))) (aRet (aC (.bl false))))

theorem pure__law_refused (ds : List D) (A : Ah) (q : D → Ah → Prop) (x : AX) : sp__law_refused ds A q x → as__law_refused (endsA q x) (startA ["word", "lines", "thing", "due", "e"] ds) A := by
  rintro ⟨w, d, m, due, n, rfl, hpl, hn, hask, h⟩
  (conv => whnf)
  refine ⟨w, d, m, rfl, hask _ _ fun e A1 G1 ht => ?_⟩
  obtain ⟨cls, dd⟩ := e
  unfold Told at ht
  dsimp only at ht
  have hin : cls ∈ excs := by
    rcases ht with ⟨_, rfl, _⟩ | ⟨_, rfl, _⟩ | ⟨_, rfl, _⟩ | ⟨_, _, rfl, _⟩ | ⟨_, rfl, _⟩ <;> decide
  refine ⟨hin, fun a ha => ?_⟩
  have fin : ∀ A3, Ext A1 A3 → hsp__law_equal a ⟨cls, dd⟩ [due, due] A3 q (fun _ _ => False) := fun A3 G3 => ⟨due, n, rfl, hpl, hn, fun A4 G4 => h _ ((G1.trans G3).trans G4)⟩
  rcases ht with ⟨v0, rfl, hd, rfl⟩ | ⟨v0, rfl, hd, rfl⟩ | ⟨v0, rfl, hd, rfl⟩ | ⟨v0, v1, rfl, hd, rfl⟩ | ⟨v0, rfl, hd, rfl⟩
  · (conv => whnf)
    exact ⟨rfl, .inl ⟨_, rfl, hd, fun A3 G3 => fin A3 G3⟩⟩
  · (conv => whnf)
    exact ⟨rfl, .inr (.inl ⟨_, rfl, hd, fun A3 G3 => fin A3 G3⟩)⟩
  · (conv => whnf)
    exact ⟨rfl, .inr (.inr (.inl ⟨_, rfl, hd, fun A3 G3 => fin A3 G3⟩))⟩
  · (conv => whnf)
    exact ⟨rfl, .inr (.inr (.inr (.inl ⟨_, _, rfl, hd, fun A3 G3 => fin A3 G3⟩)))⟩
  · (conv => whnf)
    exact ⟨rfl, .inr (.inr (.inr (.inr ⟨_, rfl, hd, fun A3 G3 => fin A3 G3⟩)))⟩
theorem len__law_refused (ds : List D) (A : Ah) (q : D → Ah → Prop) (x : AX) : sp__law_refused ds A q x → ds.length = 4 := by
  rintro ⟨w, d, m, due, n, rfl, _⟩; rfl
def as__law_lotsgood_6 : AS := (aIf (aOrT (aNotT (aTest (aBlt aIsi (aCons (aVar 4) (aCons (aC (.ty "tuple")) aNil))))) (aTest (aOp aNe (aVar 4) (aBlt aTuple (aCons (aVar 3) aNil))))) (aRet (aC (.bl false))) aNext)
def as__law_lotsgood_5 : AS := (aSeq (aAsg (aCall sp_sub_lots (aCons (aVar 0) aNil)) (agName 4)) as__law_lotsgood_6)
def as__law_lotsgood_4 : AS := (aSeq (aAsg (aBlt aTuple (aCons (aBlt aSortD (aCons (aLc (aIter (aVar 3)) (agName 5) (aTest (aOp aEq (aBlt aLen (aCons (aVar 5) aNil)) (aVar 1))) (aVar 5) [5]) aNil)) aNil)) (agName 2)) as__law_lotsgood_5)
def as__law_lotsgood_13 : AS := (aRet (aAndV (aCall sp__law_equal (aCons (aCall sp_pairs_of (aCons (aVar 0) aNil)) (aCons (aCall sp__law_lots (aCons (aVar 0) (aCons (aC (.int 2)) aNil))) aNil))) (aCall sp__law_equal (aCons (aCallD sp_check_lines [.int 24] (aCons (aVar 0) aNil)) (aCons (aVar 0) aNil)))))
def as__law_lotsgood_11 : AS := (aSeq (aIf (aOrT (aNotT (aTest (aBlt aIsi (aCons (aVar 4) (aCons (aC (.ty "tuple")) aNil))))) (aTest (aOp aNe (aVar 4) (aVar 2)))) (aRet (aC (.bl false))) aNext) as__law_lotsgood_13)
def as__law_lotsgood_10 : AS := (aSeq (aAsg (aCall sp_lots_of (aCons (aVar 0) (aCons (aVar 1) aNil))) (agName 4)) as__law_lotsgood_11)
def as__law_lotsgood_2 : AS := (aSeq (aIf (aTest (aOp aLt (aBlt aLen (aCons (aVar 0) aNil)) (aC (.int 9)))) (aSeq (aAsg (aCall sp__law_doubled (aCons (aVar 0) aNil)) (agName 3)) as__law_lotsgood_4) (aIf (aNotT (aTest (aCall sp__law_refused (aCons (aC (.str (tl "sub_lots"))) (aCons (aVar 0) (aCons (aC (.int 0)) (aCons (aTup (aCons (aC (.str (tl "TooMany"))) (aCons (aTup (aCons (aC (.str (tl "lines"))) (aCons (aC (.int 8)) aNil))) aNil))) aNil))))))) (aRet (aC (.bl false))) aNext)) as__law_lotsgood_10)
def as__law_lotsgood : AS := (aSeq (aAsg (aCall sp__law_lots (aCons (aVar 0) (aCons (aVar 1) aNil))) (agName 2)) as__law_lotsgood_2)

/-! the order of tuples of texts -/
def ltT (s t : List (List Nat)) : Bool := PySem.W.dataLt (D.py (tupS s)) (D.py (tupS t))
theorem ltT_cons (x y : List Nat) (s t : List (List Nat)) : ltT (x :: s) (y :: t) = if x = y then ltT s t else lexL x y := by
  have h := PySem.W.dataLt_cons (x := .str ⟨x.toArray⟩) (y := .str ⟨y.toArray⟩) (by simp [PySem.W.alike]) (D.pys (s.map D.str)) (D.pys (t.map D.str))
  have e1 : ltT (x :: s) (y :: t) = PyProof.Rows.lexLt PyProof.Rows.itemOrd (PySem.W.keyToksAll (.str ⟨x.toArray⟩ :: D.pys (s.map D.str))) (PySem.W.keyToksAll (.str ⟨y.toArray⟩ :: D.pys (t.map D.str))) := by
    unfold ltT PySem.W.dataLt
    simp only [tupS, List.map_cons, D.py, D.pys, PySem.W.keyToks]
  have e2 : ltT s t = PyProof.Rows.lexLt PyProof.Rows.itemOrd (PySem.W.keyToksAll (D.pys (s.map D.str))) (PySem.W.keyToksAll (D.pys (t.map D.str))) := by
    unfold ltT PySem.W.dataLt
    simp only [tupS, D.py, PySem.W.keyToks]
  rw [e1, h, ← e2, PySem.W.dataLt_str]
  by_cases e : x = y
  · subst e
    rw [if_pos rfl, if_pos (by simp [PyData.eqv])]
  · rw [if_neg e, if_neg (by simp [PyData.eqv, e]), lexL_eq]
theorem ltT_pre : ∀ (s X Y : List (List Nat)), ltT (s ++ X) (s ++ Y) = ltT X Y
  | [], _, _ => rfl
  | x :: s, X, Y => by
    rw [List.cons_append, List.cons_append, ltT_cons, if_pos rfl, ltT_pre s X Y]
theorem ltT_irr (s : List (List Nat)) : ltT s s = false := PyProof.Rows.lex_irrefl _
theorem ltT_long : ∀ {s t : List (List Nat)} (X Y : List (List Nat)), s.length = t.length → ltT s t = true → ltT (s ++ X) (t ++ Y) = true
  | [], [], _, _, _, h => by rw [ltT_irr] at h; cases h
  | [], _ :: _, _, _, h, _ => by cases h
  | _ :: _, [], _, _, h, _ => by cases h
  | x :: s, y :: t, X, Y, hl, h => by
    rw [ltT_cons] at h
    rw [List.cons_append, List.cons_append, ltT_cons]
    by_cases e : x = y
    · rw [if_pos e] at h ⊢
      exact ltT_long X Y (by simpa using hl) h
    · rw [if_neg e] at h ⊢
      exact h
theorem ltT_one {c d : List Nat} (h : lexL c d = true) : ltT [c] [d] = true := by
  rw [ltT_cons, if_neg]
  · exact h
  · intro e
    rw [e, lexL_irrefl] at h
    cases h
/-! the lots of a size are ascending -/
theorem lo_asc {L : List (List Nat)} (hA : Asc L) : ∀ k, (loL L k).Pairwise fun s t => ltT s t = true
  | 0 => List.pairwise_singleton _ _
  | k + 1 => by
    rw [loL, List.pairwise_flatMap]
    refine ⟨fun s _ => ?_, (lo_asc hA k).imp_of_mem fun {s t} hs ht h x hx y hy => ?_⟩
    · unfold loS
      rw [List.pairwise_map]
      refine (hA.sublist List.filter_sublist).imp fun {c d} h => ?_
      rw [ltT_pre]
      exact ltT_one h
    · obtain ⟨c, _, rfl⟩ := List.mem_map.mp hx
      obtain ⟨d, _, rfl⟩ := List.mem_map.mp hy
      exact ltT_long _ _ (by rw [lo_size _ hs, lo_size _ ht]) h
theorem lo_mem {L : List (List Nat)} : ∀ {k : Nat} {s : List (List Nat)}, s ∈ loL L k ↔ s.length = k ∧ Asc s ∧ ∀ c ∈ s, c ∈ L
  | 0, s => by
    rw [loL, List.mem_singleton]
    exact ⟨fun h => h ▸ ⟨rfl, .nil, nofun⟩, fun h => List.eq_nil_of_length_eq_zero h.1⟩
  | k + 1, s => by
    rw [loL, List.mem_flatMap]
    constructor
    · rintro ⟨r, hr, hs⟩
      obtain ⟨c, hc, rfl⟩ := List.mem_map.mp hs
      obtain ⟨hc1, hc2⟩ := List.mem_filter.mp hc
      obtain ⟨h1, h2, h3⟩ := lo_mem.mp hr
      refine ⟨by rw [List.length_append, h1]; rfl, ?_, fun d hd => (List.mem_append.mp hd).elim (h3 d) fun z => List.mem_singleton.mp z ▸ hc1⟩
      rw [Asc, List.pairwise_append]
      refine ⟨h2, List.pairwise_singleton _ _, fun a ha b hb => ?_⟩
      rw [List.mem_singleton.mp hb]
      unfold gtL at hc2
      cases e : r.getLast? with
      | none => rw [List.getLast?_eq_none_iff] at e; subst e; cases ha
      | some d =>
        rw [e] at hc2
        have hc2 : lexL d c = true := hc2
        obtain ⟨r2, rfl⟩ := List.getLast?_eq_some_iff.mp e
        rcases List.mem_append.mp ha with ha | ha
        · exact lexL_trans ((List.pairwise_append.mp h2).2.2 a ha d (List.mem_singleton.mpr rfl)) hc2
        · rw [List.mem_singleton.mp ha]; exact hc2
    · rintro ⟨h1, h2, h3⟩
      have hne : s ≠ [] := by intro z; subst z; cases h1
      obtain ⟨r, c, rfl⟩ : ∃ r c, s = r ++ [c] := ⟨s.dropLast, s.getLast hne, (List.dropLast_concat_getLast hne).symm⟩
      have hl : r.length = k := by simpa using h1
      obtain ⟨p1, p2, p3⟩ := List.pairwise_append.mp h2
      refine ⟨r, lo_mem.mpr ⟨hl, p1, fun d hd => h3 d (List.mem_append_left _ hd)⟩, List.mem_map.mpr ⟨c, List.mem_filter.mpr ⟨h3 c (by simp), ?_⟩, rfl⟩⟩
      unfold gtL
      cases e : r.getLast? with
      | none => rfl
      | some d => exact p3 d (List.mem_of_getLast? e) c (List.mem_singleton.mpr rfl)
/-! the program's lots are these -/
theorem drop_range {α β : Type} (f : α → β) (d : α) (L : List α) (a : Nat) : (List.range (L.length - a)).map (fun j => f (L.getD (a + j) d)) = (L.drop a).map f := by
  apply List.ext_getElem
  · simp
  · intro i h1 h2
    simp only [List.length_map, List.length_range] at h1
    have : a + i < L.length := by omega
    simp [List.getElem?_eq_getElem this]
theorem flt_drop {L : List (List Nat)} (hA : Asc L) {m : Nat} (hm : m < L.length) : L.filter (fun c => lexL L[m] c) = L.drop (m + 1) := by
  have h1 : L = L.take (m + 1) ++ L.drop (m + 1) := (List.take_append_drop _ _).symm
  have h2 : (L.take (m + 1)).filter (fun c => lexL L[m] c) = [] := by
    rw [List.filter_eq_nil_iff]
    intro c hc
    obtain ⟨i, hi, rfl⟩ := List.mem_iff_getElem.mp hc
    rw [List.length_take] at hi
    rw [List.getElem_take]
    by_cases e : i = m
    · subst e
      rw [lexL_irrefl]; exact Bool.false_ne_true
    · have := (List.pairwise_iff_getElem.mp hA) i m (by omega) hm (by omega)
      rw [lexL_asymm this]; exact Bool.false_ne_true
  have h3 : (L.drop (m + 1)).filter (fun c => lexL L[m] c) = L.drop (m + 1) := by
    rw [List.filter_eq_self]
    intro c hc
    obtain ⟨i, hi, rfl⟩ := List.mem_iff_getElem.mp hc
    rw [List.length_drop] at hi
    rw [List.getElem_drop]
    exact (List.pairwise_iff_getElem.mp hA) m (m + 1 + i) hm (by omega) (by omega)
  calc L.filter (fun c => lexL L[m] c) = (L.take (m + 1) ++ L.drop (m + 1)).filter (fun c => lexL L[m] c) := by rw [← h1]
    _ = L.drop (m + 1) := by rw [List.filter_append, h2, h3, List.nil_append]
theorem pl_lo {L : List (List Nat)} (hA : Asc L) : ∀ k, (plL L k).map (·.1) = loL L k ∧ ∀ p ∈ plL L k, L.filter (gtL p.1) = L.drop p.2
  | 0 => ⟨rfl, fun p hp => by
    rw [List.mem_singleton.mp hp]
    show L.filter (fun _ => true) = L.drop 0
    rw [List.drop_zero]
    exact List.filter_eq_self.mpr fun _ _ => rfl⟩
  | k + 1 => by
    obtain ⟨h1, h2⟩ := pl_lo hA k
    constructor
    · rw [loL, ← h1, plL, List.flatMap_map, List.map_flatMap, List.flatMap_def, List.flatMap_def]
      congr 1
      apply List.map_congr_left
      intro p hp
      rw [List.map_map, loS, h2 p hp]
      exact drop_range (fun c => p.1 ++ [c]) [] L p.2
    · intro p hp
      obtain ⟨r, hr, hp⟩ := List.mem_flatMap.mp hp
      obtain ⟨j, hj, rfl⟩ := List.mem_map.mp hp
      have hj := List.mem_range.mp hj
      have hlt : r.2 + j < L.length := by omega
      have e1 : L.getD (r.2 + j) [] = L[r.2 + j] := by rw [List.getD_eq_getElem?_getD, List.getElem?_eq_getElem hlt]; rfl
      show L.filter (gtL (r.1 ++ [L.getD (r.2 + j) []])) = L.drop (r.2 + j + 1)
      rw [e1, ← flt_drop hA hlt]
      congr 1
      funext c
      unfold gtL
      rw [List.getLast?_concat]
/-! all lots -/
theorem pk_mk (S : List (List Nat)) : ∀ L : List (List Nat), pkL L (mkL S L) = L.filter (fun c => decide (c ∈ S)) ∧ mkL S L < 2 ^ L.length
  | [] => ⟨rfl, Nat.one_pos⟩
  | c :: r => by
    obtain ⟨h1, h2⟩ := pk_mk S r
    rw [mkL, List.filter_cons, List.length_cons, Nat.pow_succ]
    by_cases e : c ∈ S
    · rw [if_pos e, if_pos (decide_eq_true e), pkL, if_pos (by omega), show (1 + 2 * mkL S r) / 2 = mkL S r by omega, h1]
      exact ⟨rfl, by omega⟩
    · rw [if_neg e, if_neg (by simpa using e), pkL, if_neg (by omega), show (0 + 2 * mkL S r) / 2 = mkL S r by omega, h1]
      exact ⟨rfl, by omega⟩
theorem all_mem {L : List (List Nat)} (hA : Asc L) {s : List (List Nat)} : s ∈ allL L ↔ Asc s ∧ ∀ c ∈ s, c ∈ L := by
  unfold allL
  constructor
  · intro h
    obtain ⟨m, _, rfl⟩ := List.mem_map.mp h
    exact ⟨hA.sublist (pk_sub L m), fun c hc => (pk_sub L m).subset hc⟩
  · rintro ⟨h1, h2⟩
    obtain ⟨h3, h4⟩ := pk_mk s L
    refine List.mem_map.mpr ⟨mkL s L, List.mem_range.mpr h4, h3.trans (asc_ext (hA.sublist List.filter_sublist) h1 fun c => ?_)⟩
    rw [List.mem_filter]
    exact ⟨fun z => of_decide_eq_true z.2, fun z => ⟨h2 c z, decide_eq_true z⟩⟩
theorem all_nodup {L : List (List Nat)} (hA : Asc L) : (allL L).Nodup := by
  unfold allL
  rw [List.Nodup, List.pairwise_map]
  refine (List.nodup_range (n := 2 ^ L.length)).imp_of_mem fun {a b} ha hb h e => h ?_
  rw [← mk_pk (asc_nodup hA) (List.mem_range.mp ha), ← mk_pk (asc_nodup hA) (List.mem_range.mp hb), e]
theorem pk_zero : ∀ L : List (List Nat), pkL L 0 = []
  | [] => rfl
  | c :: r => by rw [pkL, if_neg (by decide)]; exact pk_zero r
theorem all_cons (L : List (List Nat)) : allL L = [] :: (allL L).drop 1 := by
  have h1 : 1 ≤ 2 ^ L.length := Nat.two_pow_pos _
  have h2 : (allL L)[0]? = some [] := by
    unfold allL
    rw [List.getElem?_map, List.getElem?_range (by omega)]
    show some (pkL L 0) = _
    rw [pk_zero]
  cases e : allL L with
  | nil => rw [e] at h2; cases h2
  | cons a r => rw [e] at h2; cases h2; rfl
theorem all_drop (L : List (List Nat)) : (allL L).drop 1 = (List.range (2 ^ L.length - 1)).map fun i => pkL L (i + 1) := by
  have h1 : 2 ^ L.length = (2 ^ L.length - 1) + 1 := by have : 1 ≤ 2 ^ L.length := Nat.two_pow_pos _; omega
  unfold allL
  rw [h1, List.range_succ_eq_map, List.map_cons, List.drop_succ_cons, List.drop_zero, List.map_map, ← h1]
  rfl
/-- the law's sorted lots -/
theorem all_sort {L : List (List Nat)} (hA : Asc L) {k : Nat} (hk : 1 ≤ k) : ((((allL L).drop 1).filter fun s => decide (s.length = k)).map tupS).mergeSort (PySem.W.dataLe false D.py) = (loL L k).map tupS := by
  have hnd := all_nodup hA
  have hcons := all_cons L
  have hnd1 : ((allL L).drop 1).Nodup := (List.nodup_cons.mp (hcons ▸ hnd)).2
  have hlo := lo_asc hA k
  have hln : (loL L k).Nodup := hlo.imp fun {a b} h e => by rw [e, ltT_irr] at h; cases h
  have hp : (((allL L).drop 1).filter fun s => decide (s.length = k)).Perm (loL L k) := by
    refine (List.perm_ext_iff_of_nodup (hnd1.sublist List.filter_sublist) hln).mpr fun s => ?_
    rw [List.mem_filter, lo_mem]
    constructor
    · rintro ⟨h1, h2⟩
      exact ⟨of_decide_eq_true h2, (all_mem hA).mp (by rw [hcons]; exact List.mem_cons_of_mem _ h1)⟩
    · rintro ⟨h1, h2, h3⟩
      refine ⟨?_, decide_eq_true h1⟩
      have := (all_mem hA).mpr ⟨h2, h3⟩
      rw [hcons] at this
      rcases List.mem_cons.mp this with z | z
      · subst z
        have : 0 = k := h1
        omega
      · exact z
  have tot : PySem.W.TotalLe (PySem.W.dataLe false D.py) := PySem.W.sortLe_total _ _ _
  have hT : ((loL L k).map tupS).Pairwise fun a b => PySem.W.dataLt (D.py a) (D.py b) = true := List.pairwise_map.mpr hlo
  have asym : ∀ a b, PySem.W.dataLt (D.py a) (D.py b) = true → PySem.W.dataLt (D.py b) (D.py a) = false := fun a b h => by
    cases e : PySem.W.dataLt (D.py b) (D.py a) with
    | false => rfl
    | true =>
      have := PyProof.Rows.lex_trans (O := PyProof.Rows.itemOrd) _ _ _ h e
      rw [PyProof.Rows.lex_irrefl] at this
      cases this
  refine List.Perm.eq_of_pairwise (le := fun a b => PySem.W.dataLe false D.py a b = true) (fun a b ha hb h1 h2 => ?_) (PySem.W.sort_pairwise tot _) (hT.imp fun {a b} h => ?_) ((List.mergeSort_perm _ _).trans (hp.map _))
  · have ha : a ∈ (loL L k).map tupS := ((List.mergeSort_perm _ _).trans (hp.map _)).mem_iff.mp ha
    have h1 : (!PySem.W.dataLt (D.py b) (D.py a)) = true := h1
    have h2 : (!PySem.W.dataLt (D.py a) (D.py b)) = true := h2
    obtain ⟨i, hi, rfl⟩ := List.mem_iff_getElem.mp ha
    obtain ⟨j, hj, rfl⟩ := List.mem_iff_getElem.mp hb
    by_cases e : i = j
    · subst e; rfl
    · have hP := List.pairwise_iff_getElem.mp hT
      rcases Nat.lt_or_gt_of_ne e with e | e
      · have := hP i j hi hj e
        rw [this] at h2; cases h2
      · have := hP j i hj hi e
        rw [this] at h1; cases h1
  · show (!PySem.W.dataLt (D.py b) (D.py a)) = true
    rw [asym a b h]; rfl
theorem alike_strs : ∀ s t : List (List Nat), PySem.W.alikeAll (D.pys (s.map D.str)) (D.pys (t.map D.str)) = true
  | [], _ => by simp [D.pys, PySem.W.alikeAll]
  | _ :: _, [] => by simp [D.pys, PySem.W.alikeAll]
  | x :: s, y :: t => by
    have ih := alike_strs s t
    simp [D.pys, D.py, PySem.W.alikeAll, PySem.W.alike, ih]
theorem flat_lots {n : Nat} {T : List (List (List Nat))} (h : ∀ s ∈ T, ∀ c ∈ s, isNm c = true) : (D.tup (T.map tupS)).flat (n + 2) = true := flat_tup fun d m => by
  obtain ⟨s, hs, rfl⟩ := List.mem_map.mp m
  exact flat_nms (h s hs)
theorem pure__law_lotsgood (ds : List D) (A : Ah) (q : D → Ah → Prop) (x : AX) : sp__law_lotsgood ds A q x → as__law_lotsgood (endsA q x) (startA ["lines", "size", "due", "every", "got", "lot"] ds) A := by
  rintro ⟨L, k, rfl, hL, hk1, hk4, h⟩
  have hLn := hL.le
  have hA := hL.asc
  obtain ⟨hpl, _⟩ := pl_lo hA k
  have hlotD : ∀ j, (plL L j).map lotD = (loL L j).map tupS := fun j => by
    rw [← (pl_lo hA j).1, List.map_map]; rfl
  have hlo1 : ∀ j, ∀ s ∈ loL L j, ∀ c ∈ s, isNm c = true := fun j s hs c hc => hL.nm c ((lo_mem.mp hs).2.2 c hc)
  have hlo2 : ∃ n, n < 400000 ∧ Pl n (.tup ((loL L 2).map tupS)) := by
    obtain ⟨n, h1, h2⟩ := pls_map tupS 3 (loL L 2) fun s hs => ⟨_, by rw [lo_size s hs]; omega, .tup (plsStrs s)⟩
    have := lo_len hLn 2
    exact ⟨n + 1, by omega, .tup h2⟩
  have hself : ∀ j, D.eqv (.tup ((loL L j).map tupS)) (.tup ((loL L j).map tupS)) = true := fun j => eqv_self 60 _ (flat_lots (hlo1 j))
  -- the end, from both branches
  have fin : ∀ (e g l : Option D) (A1 : Ah), Ext A A1 → as__law_lotsgood_10 (endsA q x) [some (.tup (L.map D.str)), some (.int k), some (.tup ((loL L k).map tupS)), e, g, l] A1 := by
    intro e g l A1 G1
    (conv => whnf)
    refine ⟨L, k, rfl, linesX_good hL.ok (by omega) hLn ⟨fun _ _ A2 G2 => ?_, fun z => (z ⟨by omega, by omega⟩).elim⟩⟩
    rw [Int.toNat_natCast, hlotD]
    (conv => whnf)
    refine ⟨_, rfl, by decide, ?_⟩
    (repeat ((conv => whnf); first | (refine ⟨?_, fun _ => ?_⟩; · (intro z; cases z)) | (refine ⟨fun _ => ?_, ?_⟩; rotate_left; · (intro z; cases z)) | (refine ⟨?_, fun _ => ?_⟩; · (intro z; exact absurd z (by decide))) | (refine ⟨fun _ => ?_, ?_⟩; rotate_left; · (intro z; exact absurd z (by decide)))))
    (conv => whnf)
    refine ⟨flat_lots (hlo1 k), flat_lots (hlo1 k), ?_⟩
    rw [hself k]
    (repeat ((conv => whnf); first | (refine ⟨?_, fun _ => ?_⟩; · (intro z; cases z)) | (refine ⟨fun _ => ?_, ?_⟩; rotate_left; · (intro z; cases z)) | (refine ⟨?_, fun _ => ?_⟩; · (intro z; exact absurd z (by decide))) | (refine ⟨fun _ => ?_, ?_⟩; rotate_left; · (intro z; exact absurd z (by decide)))))
    (conv => whnf)
    refine ⟨L, rfl, linesX_good hL.ok (by omega) hLn fun A3 G3 => ?_⟩
    rw [hlotD]
    (conv => whnf)
    refine ⟨L, 2, rfl, hLn, by decide, fun A4 G4 => ?_⟩
    obtain ⟨n, hn, hp⟩ := hlo2
    (conv => whnf)
    refine ⟨_, n, rfl, hp, hn, fun A5 G5 => ?_⟩
    (repeat ((conv => whnf); first | (refine ⟨?_, fun _ => ?_⟩; · (intro z; cases z)) | (refine ⟨fun _ => ?_, ?_⟩; rotate_left; · (intro z; cases z)) | (refine ⟨?_, fun _ => ?_⟩; · (intro z; exact absurd z (by decide))) | (refine ⟨fun _ => ?_, ?_⟩; rotate_left; · (intro z; exact absurd z (by decide)))))
    (conv => whnf)
    refine ⟨L, 24, rfl, linesX_good hL.ok (by omega) hLn ?_⟩
    (conv => whnf)
    refine ⟨_, _, rfl, .tup (plsStrs L), by omega, fun A6 G6 => ?_⟩
    exact h A6 ((((G1.trans G2).trans G3).trans G4).trans (G5.trans G6))
  (conv => whnf)
  refine ⟨L, k, rfl, hLn, hk4, fun A1 G1 => ?_⟩
  (conv => whnf)
  refine ⟨fun h9 => ?_, fun h9 => ?_⟩
  · have h8 : L.length ≤ 8 := by have := of_decide_eq_true h9; rw [List.length_map] at this; omega
    (conv => whnf)
    refine ⟨L, rfl, h8, fun p A2 hp G2 ep => ?_⟩
    have G := G1.trans G2
    have hs := all_sort hA hk1
    have hdr := all_drop L
    have hmem : ∀ s ∈ (allL L).drop 1, ∀ c ∈ s, isNm c = true := fun s hs c hc => hL.nm c (((all_mem hA).mp (List.mem_of_mem_drop hs)).2 c hc)
    have hne : ∀ s ∈ (allL L).drop 1, s.length ≤ 8 := fun s hs => by
      obtain ⟨m, _, rfl⟩ := List.mem_map.mp (List.mem_of_mem_drop hs)
      exact Nat.le_trans (pk_len _ _) h8
    have hEl : ((allL L).drop 1).length ≤ 256 := by
      rw [List.length_drop, all_len]
      have := pow8d _ h8
      omega
    generalize (allL L).drop 1 = E at ep hs hdr hmem hne hEl
    (conv => whnf)
    refine ⟨_, ep, ?_⟩
    refine lc_filS (it := ⟨some (p, E.map tupS), (E.map tupS).length, fun i => (E.map tupS).getD i .non⟩) (fun t => tupS (E.getD t [])) (fun t => decide ((E.getD t []).length = k)) (fun A' G' => G' p _ ep) (by show (E.map tupS).length ≤ _; rw [List.length_map, big_eq]; omega) ?_ ?_
    · intro t A' κ sk ht2 G' h1 h2
      have ht2 : t < E.length := by rw [show _ = (E.map tupS).length from rfl, List.length_map] at ht2; exact ht2
      show agName 5 ((E.map tupS).getD t .non) _ _ _
      rw [map_getD _ ht2]
      rw [List.getD_eq_getElem?_getD, List.getElem?_eq_getElem ht2] at h1 h2
      generalize E[t] = s at h1 h2 ⊢
      have h1 : decide (s.length = k) = true → κ (tupS s) A' := h1
      have h2 : decide (s.length = k) = false → sk A' := h2
      (conv => whnf)
      rw [List.length_map]
      exact ⟨fun z => h1 (decide_eq_true (by have := of_decide_eq_true z; omega)), fun z => h2 (decide_eq_false (by have := of_decide_eq_false z; omega))⟩
    · intro r hr
      have eq1 : ((List.range (E.map tupS).length).filter fun t => decide ((E.getD t []).length = k)).map (fun t => tupS (E.getD t [])) = (E.filter fun s => decide (s.length = k)).map tupS := by
        rw [List.length_map, range_filter (p := fun s : List (List Nat) => decide (s.length = k)) (g := tupS)]
      show (fun d A' => _) (D.ref r) (updA A2 r (.lst (((List.range (E.map tupS).length).filter fun t => decide ((E.getD t []).length = k)).map (fun t => tupS (E.getD t [])))))
      rw [eq1]
      have hFm : ∀ s ∈ E.filter fun s => decide (s.length = k), s.length = k ∧ ∀ c ∈ s, isNm c = true := fun s hs => by
        obtain ⟨a, b⟩ := List.mem_filter.mp hs
        exact ⟨of_decide_eq_true b, hmem s a⟩
      generalize E.filter (fun s => decide (s.length = k)) = F at hs hFm ⊢
      have ep := Ext.new (c := .lst (F.map tupS)) hr _ _ ep
      have er : updA A2 r (.lst (F.map tupS)) r = some (.lst (F.map tupS)) := updA_same
      have G := G.trans (Ext.new (c := .lst (F.map tupS)) hr)
      generalize updA A2 r (.lst (F.map tupS)) = A3 at ep er G ⊢
      have hfl : D.flats 60 (F.map tupS) = true := flats_of fun d hd => by
        obtain ⟨s, hs, rfl⟩ := List.mem_map.mp hd
        exact flat_nms (hFm s hs).2
      have hal : PySem.W.AllAlike ((F.map tupS).map D.py) := by
        intro d hd e he
        rw [List.map_map] at hd he
        obtain ⟨s, _, rfl⟩ := List.mem_map.mp hd
        obtain ⟨t, _, rfl⟩ := List.mem_map.mp he
        show PySem.W.alike (.tuple (D.pys (s.map D.str))) (.tuple (D.pys (t.map D.str))) = true
        rw [PySem.W.alike]
        exact alike_strs s t
      have hso : PySem.W.Sortable ((F.map tupS).map D.py) := .inl fun d hd => by
        rw [List.map_map] at hd
        obtain ⟨s, hs, rfl⟩ := List.mem_map.mp hd
        have h1 := (hFm s hs).1
        cases s with
        | nil => have : 0 = k := h1; omega
        | cons c r => exact ⟨_, _, rfl⟩
      (conv => whnf)
      refine ⟨_, er, hfl, hal, hso, ?_⟩
      rw [hs]
      intro r2 hr2
      have ep := Ext.new (c := .lst ((loL L k).map tupS)) hr2 _ _ ep
      have G := G.trans (Ext.new (c := .lst ((loL L k).map tupS)) hr2)
      have er2 : updA A3 r2 (.lst ((loL L k).map tupS)) r2 = some (.lst ((loL L k).map tupS)) := updA_same
      generalize updA A3 r2 (.lst ((loL L k).map tupS)) = A4 at ep er2 G ⊢
      (conv => whnf)
      refine ⟨_, er2, ?_⟩
      (conv => whnf)
      refine ⟨L, rfl, linesX_good hL.ok (by omega) hLn fun A5 G5 => ?_⟩
      rw [show ((List.range (2 ^ L.length - 1)).map fun i => D.tup ((pkL L (i + 1)).map D.str)) = E.map tupS by rw [hdr, List.map_map]; rfl]
      have ep := G5 _ _ ep
      have G := G.trans G5
      have hf := flat_lots (n := 58) hmem
      have he : D.eqv (.tup (E.map tupS)) (.tup (E.map tupS)) = true := eqv_self 60 _ hf
      (conv => whnf)
      refine ⟨_, rfl, by decide, ?_⟩
      (repeat ((conv => whnf); first | (refine ⟨?_, fun _ => ?_⟩; · (intro z; cases z)) | (refine ⟨fun _ => ?_, ?_⟩; rotate_left; · (intro z; cases z)) | (refine ⟨?_, fun _ => ?_⟩; · (intro z; exact absurd z (by decide))) | (refine ⟨fun _ => ?_, ?_⟩; rotate_left; · (intro z; exact absurd z (by decide)))))
      (conv => whnf)
      refine ⟨_, ep, ?_⟩
      (conv => whnf)
      refine ⟨hf, hf, ?_⟩
      rw [he]
      (repeat ((conv => whnf); first | (refine ⟨?_, fun _ => ?_⟩; · (intro z; cases z)) | (refine ⟨fun _ => ?_, ?_⟩; rotate_left; · (intro z; cases z)) | (refine ⟨?_, fun _ => ?_⟩; · (intro z; exact absurd z (by decide))) | (refine ⟨fun _ => ?_, ?_⟩; rotate_left; · (intro z; exact absurd z (by decide)))))
      exact fin _ _ _ A5 G
  · have h8 : 8 < L.length := by have := of_decide_eq_false h9; rw [List.length_map] at this; omega
    ((repeat ((conv => whnf); first | (refine ⟨?_, fun _ => ?_⟩; · (intro z; cases z)) | (refine ⟨fun _ => ?_, ?_⟩; rotate_left; · (intro z; cases z)) | (refine ⟨?_, fun _ => ?_⟩; · (intro z; exact absurd z (by decide))) | (refine ⟨fun _ => ?_, ?_⟩; rotate_left; · (intro z; exact absurd z (by decide))) | refine ⟨Nat.le_of_ble_eq_true rfl, ?_⟩ | refine ⟨_, atI_zero', ?_⟩ | refine ⟨_, atI_one', ?_⟩ | (refine ⟨_, rfl, ?_, ?_⟩; · decide) | (refine ⟨fun _ => ?_, ?_⟩; rotate_left; · (intro z; rename_i h; first | cases h.symm.trans z | cases z.symm.trans h)) | (apply Exists.intro; apply And.intro; (· assumption); apply And.intro; (· decide)) | (apply And.intro; · (apply Exists.intro; assumption)) | (apply Exists.intro; apply And.intro; (· assumption); refine ⟨_, atI_zero', ?_⟩) | (apply Exists.intro; apply And.intro; · assumption))); (try (conv => whnf)))
    have hBL : BadL L 8 (tl "TooMany") (.tup [.str (tl "lines"), .int ((8 : Nat) : Int)]) := .inr (.inl ⟨hL.ne, h8, rfl, rfl⟩)
    refine ⟨tl "sub_lots", _, _, _, 5, rfl, due2 _ _ _ (.str _) (.int _), by decide, fun q' x' ht => .inr (.inr (.inr (.inr (.inl ⟨rfl, L, rfl, linesX_bad hBL (by omega) (fun c hc => by have := (nm_len (hL.nm c hc)).2; omega) fun cls fs d A' e1 e2 h => ht _ _ e1 ?_⟩)))), fun A4 G4 => ?_⟩
    · rcases h with ⟨rfl, v0, rfl, h, _⟩ | ⟨rfl, v0, v1, rfl, h, hv⟩ | ⟨rfl, v0, rfl, h, _⟩
      · exact absurd h (by decide)
      · exact .inr (.inr (.inr (.inl ⟨_, _, rfl, e2, by rw [← hv]; rfl⟩)))
      · exact absurd h (by decide)
    · (repeat ((conv => whnf); first | (refine ⟨?_, fun _ => ?_⟩; · (intro z; cases z)) | (refine ⟨fun _ => ?_, ?_⟩; rotate_left; · (intro z; cases z)) | (refine ⟨?_, fun _ => ?_⟩; · (intro z; exact absurd z (by decide))) | (refine ⟨fun _ => ?_, ?_⟩; rotate_left; · (intro z; exact absurd z (by decide)))))
      exact fin _ _ _ A4 (G1.trans G4)
theorem len__law_lotsgood (ds : List D) (A : Ah) (q : D → Ah → Prop) (x : AX) : sp__law_lotsgood ds A q x → ds.length = 2 := by
  rintro ⟨L, k, rfl, _⟩; rfl
def as__law_limits_16 : AS := (aRet (aCall sp__law_refused (aCons (aC (.str (tl "lot_of"))) (aCons (aVar 7) (aCons (aC (.int 0)) (aCons (aTup (aCons (aC (.str (tl "BadName"))) (aCons (aTup (aCons (aVar 5) aNil)) aNil))) aNil))))))
def as__law_limits_15 : AS := (aSeq (aAsg (aOp aAdd (aOp aAdd (aOp aAdd (aSl (aVar 3) aNoP (aPart (aVar 6))) (aTup (aCons (aVar 5) aNil))) (aSl (aVar 3) (aPart (aVar 6)) aNoP)) (aTup (aCons (aCall sp__law_pick (aCons (aVar 0) (aCons (aLst (aCons (aC (.str (tl ""))) (aCons (aC (.str (tl "A"))) (aCons (aC (.str (tl "b"))) aNil)))) aNil))) aNil))) (agName 7)) as__law_limits_16)
def as__law_limits_14 : AS := (aSeq (aAsg (aCall sp__law_take (aCons (aVar 0) (aCons (aOp aAdd (aBlt aLen (aCons (aVar 3) aNil)) (aC (.int 1))) aNil))) (agName 6)) as__law_limits_15)
def as__law_limits_13 : AS := (aSeq (aAsg (aCall sp__law_nonname (aCons (aVar 0) aNil)) (agName 5)) as__law_limits_14)
def as__law_limits_11 : AS := (aSeq (aIf (aNotT (aTest (aCall sp__law_equal (aCons (aCall sp_lot_of (aCons (aVar 3) aNil)) (aCons (aVar 4) aNil))))) (aRet (aC (.bl false))) aNext) as__law_limits_13)
def as__law_limits_10 : AS := (aSeq (aAsg (aBlt aTuple (aCons (aLc (aIter (aVar 1)) (agName 8) (aTest (aOp aInS (aVar 8) (aVar 3))) (aVar 8) [8]) aNil)) (agName 4)) as__law_limits_11)
def as__law_limits_8 : AS := (aSeq (aIf (aTest (aOp aEq (aVar 3) (aTup aNil))) (aRet (aCall sp__law_refused (aCons (aC (.str (tl "lot_of"))) (aCons (aTup aNil) (aCons (aC (.int 0)) (aCons (aTup (aCons (aC (.str (tl "BadLot"))) (aCons (aTup (aCons (aC (.int 0)) aNil)) aNil))) aNil)))))) aNext) as__law_limits_10)
def as__law_limits_7 : AS := (aSeq (aAsg (aCall sp__law_word (aCons (aVar 0) (aCons (aVar 1) (aCons (aC (.int 40)) aNil)))) (agName 3)) as__law_limits_8)
def as__law_limits_5 : AS := (aSeq (aIf (aAndT (aTest (aOp aLt (aVar 2) (aBlt aLen (aCons (aVar 1) aNil)))) (aNotT (aTest (aCall sp__law_refused (aCons (aC (.str (tl "check_most"))) (aCons (aVar 1) (aCons (aVar 2) (aCons (aTup (aCons (aC (.str (tl "TooMany"))) (aCons (aTup (aCons (aC (.str (tl "lines"))) (aCons (aVar 2) aNil))) aNil))) aNil)))))))) (aRet (aC (.bl false))) aNext) as__law_limits_7)
def as__law_limits_4 : AS := (aSeq (aAsg (aBlt aMax2 (aCons (aC (.int 1)) (aCons (aOp aSub (aOp aSub (aBlt aLen (aCons (aVar 1) aNil)) (aC (.int 1))) (aCall sp__law_take (aCons (aVar 0) (aCons (aC (.int 2)) aNil)))) aNil))) (agName 2)) as__law_limits_5)
def as__law_limits_2 : AS := (aSeq (aIf (aNotT (aTest (aCall sp__law_equal (aCons (aCall sp__law_ask (aCons (aC (.str (tl "check_most"))) (aCons (aVar 1) (aCons (aVar 2) aNil)))) (aCons (aVar 1) aNil))))) (aRet (aC (.bl false))) aNext) as__law_limits_4)
def as__law_limits : AS := (aSeq (aAsg (aOp aAdd (aBlt aLen (aCons (aVar 1) aNil)) (aCall sp__law_take (aCons (aVar 0) (aCons (aOp aSub (aC (.int 25)) (aBlt aLen (aCons (aVar 1) aNil))) aNil)))) (agName 2)) as__law_limits_2)

theorem pure__law_limits (ds : List D) (A : Ah) (q : D → Ah → Prop) (x : AX) : sp__law_limits ds A q x → as__law_limits (endsA q x) (startA ["store", "lines", "limit", "names", "due", "bad", "at", "spoilt", "line"] ds) A := by
  rintro ⟨l, n, L, rfl, S, hn, hL, h⟩
  have K : Kp l A A := .rfl
  have hLn := hL.le
  have hpos : 0 < L.length := List.length_pos_iff.mpr hL.ne
  have hpl : Pl (L.length + 1) (.tup (L.map D.str)) := .tup (plsStrs L)
  (conv => whnf)
  refine ⟨l, n, _, rfl, S, by omega, by rw [List.length_map]; omega, fun t A1 t0 t1 K2 S2 => ?_⟩
  have K := K.trans K2; have S := S2
  obtain ⟨t, rfl⟩ := toN t0
  have ht : L.length + t ≤ 24 := by rw [List.length_map] at t1; omega
  (conv => whnf)
  rw [List.length_map]
  refine ⟨tl "check_most", _, _, rfl, .inr (.inl ⟨rfl, L, ((L.length + t : Nat) : Int), rfl, linesX_good hL.ok (by omega) (by omega) ?_⟩)⟩
  (conv => whnf)
  refine ⟨_, _, rfl, hpl, by omega, fun A2 G2 => ?_⟩
  have K := K.trans G2.kp
  have S := S.ext G2
  (repeat ((conv => whnf); first | (refine ⟨?_, fun _ => ?_⟩; · (intro z; cases z)) | (refine ⟨fun _ => ?_, ?_⟩; rotate_left; · (intro z; cases z)) | (refine ⟨?_, fun _ => ?_⟩; · (intro z; exact absurd z (by decide))) | (refine ⟨fun _ => ?_, ?_⟩; rotate_left; · (intro z; exact absurd z (by decide)))))
  (conv => whnf)
  refine ⟨l, _, 2, rfl, S, by omega, by decide, fun u A3 u0 u1 K2 S2 => ?_⟩
  have K := K.trans K2; have S := S2
  obtain ⟨u, rfl⟩ := toN u0
  have hmax : (if ((L.map D.str).length : Int) - 1 - (u : Int) > (1 : Int) then ((L.map D.str).length : Int) - 1 - (u : Int) else (1 : Int)) = ((max 1 (L.length - 1 - u) : Nat) : Int) := by rw [List.length_map]; split <;> omega
  (conv => whnf)
  rw [hmax]
  have hm1 : 1 ≤ max 1 (L.length - 1 - u) := Nat.le_max_left _ _
  generalize max 1 (L.length - 1 - u) = m at hm1 ⊢
  -- the names
  have next : ∀ A4, Kp l A A4 → St A4 l (n + 10) → as__law_limits_7 (endsA q x) [some (.ref l), some (.tup (L.map D.str)), some (.int m), none, none, none, none, none, none] A4 := by
    intro A4 K S
    (conv => whnf)
    refine ⟨l, _, L, 40, rfl, S, by omega, hL.ne, by omega, by decide, fun W A5 hW hWL K2 S2 => ?_⟩
    have K := K.trans K2; have S := S2
    have hWn : ∀ c ∈ W, isNm c = true := fun c hc => hL.nm c (hWL c hc)
    (conv => whnf)
    refine ⟨Nat.le_of_ble_eq_true rfl, ?_⟩
    (conv => whnf)
    refine ⟨flat_nms hWn, rfl, ?_⟩
    (conv => whnf)
    refine ⟨fun he => ?_, fun he => ?_⟩
    · have he : W = [] := by
        cases W with
        | nil => rfl
        | cons c r => cases he
      ((repeat ((conv => whnf); first | (refine ⟨?_, fun _ => ?_⟩; · (intro z; cases z)) | (refine ⟨fun _ => ?_, ?_⟩; rotate_left; · (intro z; cases z)) | (refine ⟨?_, fun _ => ?_⟩; · (intro z; exact absurd z (by decide))) | (refine ⟨fun _ => ?_, ?_⟩; rotate_left; · (intro z; exact absurd z (by decide))) | refine ⟨Nat.le_of_ble_eq_true rfl, ?_⟩ | refine ⟨_, atI_zero', ?_⟩ | refine ⟨_, atI_one', ?_⟩ | (refine ⟨_, rfl, ?_, ?_⟩; · decide) | (refine ⟨fun _ => ?_, ?_⟩; rotate_left; · (intro z; rename_i h; first | cases h.symm.trans z | cases z.symm.trans h)) | (apply Exists.intro; apply And.intro; (· assumption); apply And.intro; (· decide)) | (apply And.intro; · (apply Exists.intro; assumption)) | (apply Exists.intro; apply And.intro; (· assumption); refine ⟨_, atI_zero', ?_⟩) | (apply Exists.intro; apply And.intro; · assumption))); (try (conv => whnf)))
      refine ⟨tl "lot_of", .tup [], _, _, 4, rfl, due1 _ _ (.int _), by decide, fun q' x' ht => .inr (.inr (.inr (.inr (.inr (.inr (.inr ⟨rfl, [], rfl, nofun, ⟨[], by decide, nofun⟩, fun _ d A' e1 e2 => ht _ _ e1 (.inr (.inl ⟨_, rfl, e2, rfl⟩)), fun bad z => (by cases z), fun _ z => (z rfl).elim⟩)))))), fun A6 G6 => ?_⟩
      exact h A6 (K.trans G6.kp) ((S.ext G6).mono (by omega))
    have hne : W ≠ [] := by
      intro z; subst z; cases he
    have hWk : ∃ k : List (List Nat), k.length < 64 ∧ ∀ c ∈ W, c ∈ k := ⟨L, by omega, hWL⟩
    (conv => whnf)
    refine lc_fil (it := ⟨none, (L.map D.str).length, fun i => (L.map D.str).getD i .non⟩) (fun i => .str (L.getD i [])) (fun i => decide (L.getD i [] ∈ W)) rfl (by show (L.map D.str).length ≤ _; rw [big_eq, List.length_map]; omega) ?_ ?_
    · intro t A' κ sk ht2 G' h1 h2
      have ht2 : t < L.length := by rw [show _ = (L.map D.str).length from rfl, List.length_map] at ht2; exact ht2
      show agName 8 ((L.map D.str).getD t .non) _ _ _
      rw [map_getD _ ht2]
      rw [List.getD_eq_getElem?_getD, List.getElem?_eq_getElem ht2] at h1 h2
      generalize L[t] = c1 at h1 h2 ⊢
      have h1 : decide (c1 ∈ W) = true → κ (.str c1) A' := h1
      have h2 : decide (c1 ∈ W) = false → sk A' := h2
      (conv => whnf)
      refine ⟨rfl, sc_strs W, ?_⟩
      (conv => whnf)
      refine ⟨fun z => h1 (decide_eq_true (inD_str.mp z)), fun z => h2 (decide_eq_false (inD_strF.mp z))⟩
    · intro r hr
      have eq1 : ((List.range (L.map D.str).length).filter fun i => decide (L.getD i [] ∈ W)).map (fun i => D.str (L.getD i [])) = (L.filter fun c => decide (c ∈ W)).map D.str := by
        rw [List.length_map, range_filter (p := fun c => decide (c ∈ W)) (g := D.str)]
      show (fun d A' => _) (D.ref r) (updA A5 r (.lst (((List.range (L.map D.str).length).filter fun i => decide (L.getD i [] ∈ W)).map (fun i => D.str (L.getD i [])))))
      rw [eq1]
      have hFA : Asc (L.filter fun c => decide (c ∈ W)) := hL.asc.sublist List.filter_sublist
      have hFm : ∀ c, c ∈ (L.filter fun c => decide (c ∈ W)) ↔ c ∈ W := fun c => by
        rw [List.mem_filter]
        exact ⟨fun z => of_decide_eq_true z.2, fun z => ⟨hWL c z, decide_eq_true z⟩⟩
      have hFl : (L.filter fun c => decide (c ∈ W)).length ≤ 24 := Nat.le_trans (List.length_filter_le _ _) hLn
      generalize L.filter (fun c => decide (c ∈ W)) = F at hFA hFm hFl ⊢
      have er : updA A5 r (.lst (F.map D.str)) r = some (.lst (F.map D.str)) := updA_same
      have K := K.new (c := .lst (F.map D.str)) hr
      have S := S.ext (Ext.new (c := .lst (F.map D.str)) hr)
      generalize updA A5 r (.lst (F.map D.str)) = A6 at er K S ⊢
      (conv => whnf)
      refine ⟨_, er, ?_⟩
      (conv => whnf)
      have hwF : wordF W = none := wordF_none.mpr hWn
      refine ⟨W, rfl, fun c hc => nm_big (hWn c hc), hWk, fun z => (hne z).elim, fun bad z => (by rw [hwF] at z; cases z), fun _ _ T A7 G7 hTA hTm => ?_⟩
      have hT : T = F := asc_ext hTA hFA fun c => by rw [hTm, hFm]
      subst hT
      have K := K.trans G7.kp
      have S := S.ext G7
      (conv => whnf)
      refine ⟨_, _, rfl, .tup (plsStrs T), by omega, fun A8 G8 => ?_⟩
      have K := K.trans G8.kp
      have S := S.ext G8
      (repeat ((conv => whnf); first | (refine ⟨?_, fun _ => ?_⟩; · (intro z; cases z)) | (refine ⟨fun _ => ?_, ?_⟩; rotate_left; · (intro z; cases z)) | (refine ⟨?_, fun _ => ?_⟩; · (intro z; exact absurd z (by decide))) | (refine ⟨fun _ => ?_, ?_⟩; rotate_left; · (intro z; exact absurd z (by decide)))))
      (conv => whnf)
      refine ⟨l, _, rfl, S, by omega, fun bad A9 b14 _ bnm K2 S2 => ?_⟩
      have K := K.trans K2; have S := S2
      (conv => whnf)
      refine ⟨l, _, _, rfl, S, by omega, by rw [List.length_map]; omega, fun at_ A10 a0 a1 K2 S2 => ?_⟩
      have K := K.trans K2; have S := S2
      obtain ⟨a, rfl⟩ := toN a0
      (conv => whnf)
      rw [cut_to, ← List.map_take]
      have t1 : (W.take a).length ≤ 40 := by rw [List.length_take]; omega
      have t2 : (W.drop a).length ≤ 40 := by rw [List.length_drop]; omega
      refine ⟨Nat.le_of_ble_eq_true rfl, ?_⟩
      (conv => whnf)
      refine ⟨by rw [List.length_map, big_eq]; show _ + 1 ≤ _; omega, ?_⟩
      (conv => whnf)
      rw [cut_from, ← List.map_drop]
      refine ⟨by rw [List.length_append, List.length_map, List.length_map, big_eq]; show _ + 1 + _ ≤ _; omega, ?_⟩
      (conv => whnf)
      refine ⟨Nat.le_of_ble_eq_true rfl, ?_⟩
      intro g hg; have heg := S.ne hg; have hAg := K.none hg heg; have eg : updA A10 g (.lst [.str (tl ""), .str (tl "A"), .str (tl "b")]) g = some (.lst [.str (tl ""), .str (tl "A"), .str (tl "b")]) := updA_same; have K := K.new (c := .lst [.str (tl ""), .str (tl "A"), .str (tl "b")]) hg; have S := S.ext (Ext.new (c := .lst [.str (tl ""), .str (tl "A"), .str (tl "b")]) hg); generalize updA A10 g (.lst [.str (tl ""), .str (tl "A"), .str (tl "b")]) = A11 at eg K S ⊢
      (conv => whnf)
      refine ⟨l, _, _, _, rfl, S, by omega, .inr (.inl ⟨_, rfl, eg⟩), fun z => heg (D.ref.inj z), nofun, by decide, fun y A12 hy K2 S2 => ?_⟩
      have K := K.trans K2; have S := S2
      obtain ⟨z, rfl, hz⟩ : ∃ z, y = .str z ∧ z.length ≤ 1 := by
        simp only [List.mem_cons, List.not_mem_nil, or_false] at hy
        rcases hy with rfl | rfl | rfl
        · exact ⟨_, rfl, by decide⟩
        · exact ⟨_, rfl, by decide⟩
        · exact ⟨_, rfl, by decide⟩
      (conv => whnf)
      refine ⟨Nat.le_of_ble_eq_true rfl, ?_⟩
      (conv => whnf)
      refine ⟨by rw [List.length_append, List.length_append, List.length_map, List.length_map, big_eq]; show _ + 1 + _ + 1 ≤ _; omega, ?_⟩
      have hcat : (W.take a).map D.str ++ [.str bad] ++ (W.drop a).map D.str ++ [.str z] = (W.take a ++ bad :: (W.drop a ++ [z])).map D.str := by simp
      rw [hcat]
      have hV : wordF (W.take a ++ bad :: (W.drop a ++ [z])) = some bad := wordF_app (fun c m => hWn c (List.mem_of_mem_take m)) bnm
      have hVm : ∀ c ∈ W.take a ++ bad :: (W.drop a ++ [z]), c ∈ bad :: z :: L := fun c hc => by
        rcases List.mem_append.mp hc with hc | hc
        · exact List.mem_cons_of_mem _ (List.mem_cons_of_mem _ (hWL c (List.mem_of_mem_take hc)))
        rcases List.mem_cons.mp hc with rfl | hc
        · exact List.mem_cons_self
        rcases List.mem_append.mp hc with hc | hc
        · exact List.mem_cons_of_mem _ (List.mem_cons_of_mem _ (hWL c (List.mem_of_mem_drop hc)))
        · rw [List.mem_singleton.mp hc]; exact List.mem_cons_of_mem _ List.mem_cons_self
      have hVn : W.take a ++ bad :: (W.drop a ++ [z]) ≠ [] := by simp
      generalize W.take a ++ bad :: (W.drop a ++ [z]) = V at hV hVm hVn ⊢
      have hVb : ∀ c ∈ V, c.length ≤ big := fun c hc => by
        rcases List.mem_cons.mp (hVm c hc) with rfl | hc
        · rw [big_eq]; omega
        rcases List.mem_cons.mp hc with rfl | hc
        · rw [big_eq]; omega
        · exact nm_big (hL.nm c hc)
      ((repeat ((conv => whnf); first | (refine ⟨?_, fun _ => ?_⟩; · (intro z; cases z)) | (refine ⟨fun _ => ?_, ?_⟩; rotate_left; · (intro z; cases z)) | (refine ⟨?_, fun _ => ?_⟩; · (intro z; exact absurd z (by decide))) | (refine ⟨fun _ => ?_, ?_⟩; rotate_left; · (intro z; exact absurd z (by decide))) | refine ⟨Nat.le_of_ble_eq_true rfl, ?_⟩ | refine ⟨_, atI_zero', ?_⟩ | refine ⟨_, atI_one', ?_⟩ | (refine ⟨_, rfl, ?_, ?_⟩; · decide) | (refine ⟨fun _ => ?_, ?_⟩; rotate_left; · (intro z; rename_i h; first | cases h.symm.trans z | cases z.symm.trans h)) | (apply Exists.intro; apply And.intro; (· assumption); apply And.intro; (· decide)) | (apply And.intro; · (apply Exists.intro; assumption)) | (apply Exists.intro; apply And.intro; (· assumption); refine ⟨_, atI_zero', ?_⟩) | (apply Exists.intro; apply And.intro; · assumption))); (try (conv => whnf)))
      refine ⟨tl "lot_of", _, _, _, 4, rfl, due1 _ _ (.str _), by decide, fun q' x' ht => .inr (.inr (.inr (.inr (.inr (.inr (.inr ⟨rfl, V, rfl, hVb, ⟨_, by show L.length + 1 + 1 < 64; omega, hVm⟩, fun z => (hVn z).elim, fun b2 z2 d A' e1 e2 => ?_, fun z2 => (by rw [hV] at z2; cases z2)⟩)))))), fun A13 G13 => ?_⟩
      · rw [hV] at z2
        cases z2
        exact ht _ _ e1 (.inl ⟨_, rfl, e2, rfl⟩)
      · exact h A13 (K.trans G13.kp) ((S.ext G13).mono (by omega))
  (conv => whnf)
  refine ⟨fun hlt => ?_, fun _ => ⟨fun z => Bool.noConfusion z, fun _ => next A3 K (S.mono (by omega))⟩⟩
  have hlt : m < L.length := by have := of_decide_eq_true hlt; rw [List.length_map] at this; omega
  (conv => whnf)
  refine ⟨Nat.le_of_ble_eq_true rfl, ?_⟩
  (conv => whnf)
  refine ⟨Nat.le_of_ble_eq_true rfl, ?_⟩
  (conv => whnf)
  have hBL : BadL L m (tl "TooMany") (.tup [.str (tl "lines"), .int m]) := .inr (.inl ⟨hL.ne, hlt, rfl, rfl⟩)
  refine ⟨tl "check_most", _, _, _, 5, rfl, due2 _ _ _ (.str _) (.int _), by decide, fun q' x' ht => .inr (.inl ⟨rfl, L, m, rfl, linesX_bad hBL (by omega) (fun c hc => by have := (nm_len (hL.nm c hc)).2; omega) fun cls fs d A' e1 e2 h => ht _ _ e1 ?_⟩), fun A4 G4 => ?_⟩
  · rcases h with ⟨rfl, v0, rfl, h, _⟩ | ⟨rfl, v0, v1, rfl, h, hv⟩ | ⟨rfl, v0, rfl, h, _⟩
    · exact absurd h (by decide)
    · exact .inr (.inr (.inr (.inl ⟨_, _, rfl, e2, by rw [h, hv]⟩)))
    · exact absurd h (by decide)
  · have K := K.trans G4.kp
    have S := S.ext G4
    (repeat ((conv => whnf); first | (refine ⟨?_, fun _ => ?_⟩; · (intro z; cases z)) | (refine ⟨fun _ => ?_, ?_⟩; rotate_left; · (intro z; cases z)) | (refine ⟨?_, fun _ => ?_⟩; · (intro z; exact absurd z (by decide))) | (refine ⟨fun _ => ?_, ?_⟩; rotate_left; · (intro z; exact absurd z (by decide)))))
    exact next A4 K (S.mono (by omega))
theorem len__law_limits (ds : List D) (A : Ah) (q : D → Ah → Prop) (x : AX) : sp__law_limits ds A q x → ds.length = 2 := by
  rintro ⟨l, n, L, rfl, _⟩; rfl
def as__law_badthere_11 : AS := (aIf (aNotT (aTest (aCall sp__law_refused (aCons (aVar 3) (aCons (aVar 7) (aCons (aVar 4) (aCons (aTup (aCons (aC (.str (tl "TooMany"))) (aCons (aTup (aCons (aC (.str (tl "lines"))) (aCons (aVar 5) aNil))) aNil))) aNil))))))) (aRet (aC (.bl false))) aNext)
def as__law_badthere_10 : AS := (aSeq (aAsg (aOp aMul (aTup (aCons (aCall sp__law_nonname (aCons (aVar 0) aNil)) aNil)) (aOp aAdd (aVar 5) (aC (.int 1)))) (agName 7)) as__law_badthere_11)
def as__law_badthere_8 : AS := (aSeq (aIf (aNotT (aTest (aCall sp__law_refused (aCons (aVar 3) (aCons (aOp aIx (aVar 6) (aC (.int 0))) (aCons (aVar 4) (aCons (aTup (aCons (aOp aIx (aVar 6) (aC (.int 1))) (aCons (aOp aIx (aVar 6) (aC (.int 2))) aNil))) aNil))))))) (aRet (aC (.bl false))) aNext) as__law_badthere_10)
def as__law_badthere_7 : AS := (aSeq (aAsg (aCall sp__law_badlines (aCons (aVar 0) (aCons (aSl (aVar 1) aNoP (aPart (aVar 5))) (aCons (aVar 5) aNil)))) (agName 6)) as__law_badthere_8)
def as__law_badthere_5 : AS := (aSeq (aIf (aTest (aOp aEq (aVar 3) (aC (.str (tl "sub_lots"))))) (aAsg (aC (.int 8)) (agName 5)) aNext) as__law_badthere_7)
def as__law_badthere_4 : AS := (aSeq (aAsg (aC (.int 24)) (agName 5)) as__law_badthere_5)
def as__law_badthere_3 : AS := (aSeq (aAsg (aCall sp__law_pick (aCons (aVar 0) (aCons (aDGet2 (aVar 2) (aVar 3) (aLst (aCons (aC (.int 0)) aNil))) aNil))) (agName 4)) as__law_badthere_4)
def as__law_badthere_2 : AS := (aSeq (aFor (aIter (aLst (aCons (aC (.str (tl "check_lines"))) (aCons (aC (.str (tl "check_most"))) (aCons (aC (.str (tl "lots_of"))) (aCons (aC (.str (tl "pairs_of"))) (aCons (aC (.str (tl "sub_lots"))) (aCons (aC (.str (tl "mask_of"))) (aCons (aC (.str (tl "lot_of_mask"))) aNil))))))))) (agName 3) as__law_badthere_3) (aRet (aC (.bl true))))
def as__law_badthere : AS := (aSeq (aAsg (aDisp [tl "check_most", tl "lots_of", tl "mask_of", tl "lot_of_mask"] (aCons (aLst (aCons (aC (.int 24)) aNil)) (aCons (aLst (aCons (aC (.int 1)) (aCons (aC (.int 0)) (aCons (aC (.int 5)) aNil)))) (aCons (aLst (aCons (aSl (aVar 1) aNoP (aPart (aC (.int 1)))) (aCons (aTup aNil) (aCons (aTup (aCons (aC (.str (tl "A"))) aNil)) aNil)))) (aCons (aLst (aCons (aC (.int 1)) (aCons (aC (.int 0)) (aCons (aNeg (aC (.int 1))) aNil)))) aNil))))) (agName 2)) as__law_badthere_2)

def words7 : List (List Nat) := [tl "check_lines", tl "check_most", tl "lots_of", tl "pairs_of", tl "sub_lots", tl "mask_of", tl "lot_of_mask"]
def ThP (w : List Nat) (th : D) : Prop := (w = tl "mask_of" → ∃ X : List (List Nat), th = .tup (X.map D.str) ∧ X.length ≤ 10) ∧ (w = tl "lots_of" → ∃ j : Int, th = .int j) ∧ (w = tl "lot_of_mask" → ∃ j : Int, th = .int j) ∧ (w = tl "check_most" → th = .int 24)
theorem told_of {B : List (List Nat)} {m : Nat} {w : List Nat} {v : D} (h : BadL B m w v) (h60 : B.length ≤ 60) (hb : ∀ c ∈ B, c.length ≤ 14) {A : Ah} {x : AX} {G : Prop} (hx : ∀ e A', Ext A A' → Told e A' (.tup [.str w, v]) → x e A') : LinesX B m A x G :=
  linesX_bad h h60 hb fun cls fs d A' e1 e2 h => hx _ _ e1 (by
    rcases h with ⟨rfl, v0, rfl, rfl, rfl⟩ | ⟨rfl, v0, v1, rfl, rfl, rfl⟩ | ⟨rfl, v0, rfl, rfl, rfl⟩
    · exact .inr (.inl ⟨_, rfl, e2, rfl⟩)
    · exact .inr (.inr (.inr (.inl ⟨_, _, rfl, e2, rfl⟩)))
    · exact .inl ⟨_, rfl, e2, rfl⟩)
theorem badL_pl {B : List (List Nat)} {m : Nat} {w : List Nat} {v : D} (h : BadL B m w v) : ∃ n, n < 400000 ∧ Pl n (.tup [.str w, v]) := by
  rcases h with ⟨_, rfl, rfl⟩ | ⟨_, _, rfl, rfl⟩ | ⟨_, _, _, _, rfl, rfl⟩ | ⟨_, _, _, _, rfl, rfl⟩
  · exact ⟨4, by decide, due1 _ _ (.int _)⟩
  · exact ⟨5, by decide, due2 _ _ _ (.str _) (.int _)⟩
  · exact ⟨4, by decide, due1 _ _ (.str _)⟩
  · exact ⟨4, by decide, due1 _ _ (.int _)⟩
theorem ask7 {w : List Nat} (hw : w ∈ words7) {th : D} (ht : ThP w th) {m : Nat} (hm : m = if w = tl "sub_lots" then 8 else 24) {B : List (List Nat)} {A : Ah} {q : D → Ah → Prop} {x : AX} (hX : ∀ G, LinesX B m A x G) : AskP w (.tup (B.map D.str)) th A q x := by
  unfold words7 at hw
  simp only [List.mem_cons, List.not_mem_nil, or_false] at hw
  obtain ⟨t1, t2, t3, t4⟩ := ht
  rcases hw with rfl | rfl | rfl | rfl | rfl | rfl | rfl
  · have hm : m = 24 := hm
    subst hm
    exact .inl ⟨rfl, B, 24, rfl, hX _⟩
  · have hm : m = 24 := hm
    subst hm
    rw [t4 rfl]
    exact .inr (.inl ⟨rfl, B, 24, rfl, hX _⟩)
  · have hm : m = 24 := hm
    subst hm
    obtain ⟨j, rfl⟩ := t2 rfl
    exact .inr (.inr (.inl ⟨rfl, B, j, rfl, hX _⟩))
  · have hm : m = 24 := hm
    subst hm
    exact .inr (.inr (.inr (.inl ⟨rfl, B, rfl, hX _⟩)))
  · have hm : m = 8 := hm
    subst hm
    exact .inr (.inr (.inr (.inr (.inl ⟨rfl, B, rfl, hX _⟩))))
  · have hm : m = 24 := hm
    subst hm
    obtain ⟨X, rfl, hl⟩ := t1 rfl
    exact .inr (.inr (.inr (.inr (.inr (.inl ⟨rfl, B, X, rfl, by omega, hX _⟩)))))
  · have hm : m = 24 := hm
    subst hm
    obtain ⟨j, rfl⟩ := t3 rfl
    exact .inr (.inr (.inr (.inr (.inr (.inr (.inl ⟨rfl, B, j, rfl, hX _⟩))))))
theorem pure__law_badthere (ds : List D) (A : Ah) (q : D → Ah → Prop) (x : AX) : sp__law_badthere ds A q x → as__law_badthere (endsA q x) (startA ["store", "lines", "things", "word", "thing", "limit", "bad", "wide"] ds) A := by
  rintro ⟨l, n, L, rfl, S, hn, hL, h⟩
  have K : Kp l A A := .rfl
  have hle := hL.le
  (conv => whnf)
  intro p0 hp0; have hep0 := S.ne hp0; have hAp0 := K.none hp0 hep0; have ep0 : updA A p0 (.dic []) p0 = some (.dic []) := updA_same; have K := K.new (c := .dic []) hp0; have S := S.ext (Ext.new (c := .dic []) hp0); generalize updA A p0 (.dic []) = A0 at ep0 K S ⊢
  (conv => whnf)
  refine ⟨Nat.le_of_ble_eq_true rfl, ?_⟩
  intro p1 hp1; have hep1 := S.ne hp1; have hAp1 := K.none hp1 hep1; have nep0p1 := neA ep0 hp1; have ep0 := Ext.new (c := .lst [.int 24]) hp1 _ _ ep0; have ep1 : updA A0 p1 (.lst [.int 24]) p1 = some (.lst [.int 24]) := updA_same; have K := K.new (c := .lst [.int 24]) hp1; have S := S.ext (Ext.new (c := .lst [.int 24]) hp1); generalize updA A0 p1 (.lst [.int 24]) = A1 at ep0 ep1 K S ⊢
  (conv => whnf)
  refine ⟨Nat.le_of_ble_eq_true rfl, ?_⟩
  intro p2 hp2; have hep2 := S.ne hp2; have hAp2 := K.none hp2 hep2; have nep0p2 := neA ep0 hp2; have nep1p2 := neA ep1 hp2; have ep0 := Ext.new (c := .lst [.int 1, .int 0, .int 5]) hp2 _ _ ep0; have ep1 := Ext.new (c := .lst [.int 1, .int 0, .int 5]) hp2 _ _ ep1; have ep2 : updA A1 p2 (.lst [.int 1, .int 0, .int 5]) p2 = some (.lst [.int 1, .int 0, .int 5]) := updA_same; have K := K.new (c := .lst [.int 1, .int 0, .int 5]) hp2; have S := S.ext (Ext.new (c := .lst [.int 1, .int 0, .int 5]) hp2); generalize updA A1 p2 (.lst [.int 1, .int 0, .int 5]) = A2 at ep0 ep1 ep2 K S ⊢
  (conv => whnf)
  refine ⟨Nat.le_of_ble_eq_true rfl, ?_⟩
  (conv => whnf)
  refine ⟨Nat.le_of_ble_eq_true rfl, ?_⟩
  (conv => whnf)
  refine ⟨Nat.le_of_ble_eq_true rfl, ?_⟩
  rw [show GA.cutD (L.map D.str) none (some 1) = (L.take 1).map D.str by rw [cut_map]; congr 1; exact cut_to (k := 1)]
  intro p3 hp3; have hep3 := S.ne hp3; have hAp3 := K.none hp3 hep3; have nep0p3 := neA ep0 hp3; have nep1p3 := neA ep1 hp3; have nep2p3 := neA ep2 hp3; have ep0 := Ext.new (c := .lst [.tup ((L.take 1).map D.str), .tup [], .tup [.str (tl "A")]]) hp3 _ _ ep0; have ep1 := Ext.new (c := .lst [.tup ((L.take 1).map D.str), .tup [], .tup [.str (tl "A")]]) hp3 _ _ ep1; have ep2 := Ext.new (c := .lst [.tup ((L.take 1).map D.str), .tup [], .tup [.str (tl "A")]]) hp3 _ _ ep2; have ep3 : updA A2 p3 (.lst [.tup ((L.take 1).map D.str), .tup [], .tup [.str (tl "A")]]) p3 = some (.lst [.tup ((L.take 1).map D.str), .tup [], .tup [.str (tl "A")]]) := updA_same; have K := K.new (c := .lst [.tup ((L.take 1).map D.str), .tup [], .tup [.str (tl "A")]]) hp3; have S := S.ext (Ext.new (c := .lst [.tup ((L.take 1).map D.str), .tup [], .tup [.str (tl "A")]]) hp3); generalize updA A2 p3 (.lst [.tup ((L.take 1).map D.str), .tup [], .tup [.str (tl "A")]]) = A3 at ep0 ep1 ep2 ep3 K S ⊢
  (conv => whnf)
  refine ⟨Nat.le_of_ble_eq_true rfl, ?_⟩
  intro p4 hp4; have hep4 := S.ne hp4; have hAp4 := K.none hp4 hep4; have nep0p4 := neA ep0 hp4; have nep1p4 := neA ep1 hp4; have nep2p4 := neA ep2 hp4; have nep3p4 := neA ep3 hp4; have ep0 := Ext.new (c := .lst [.int 1, .int 0, .int (-1)]) hp4 _ _ ep0; have ep1 := Ext.new (c := .lst [.int 1, .int 0, .int (-1)]) hp4 _ _ ep1; have ep2 := Ext.new (c := .lst [.int 1, .int 0, .int (-1)]) hp4 _ _ ep2; have ep3 := Ext.new (c := .lst [.int 1, .int 0, .int (-1)]) hp4 _ _ ep3; have ep4 : updA A3 p4 (.lst [.int 1, .int 0, .int (-1)]) p4 = some (.lst [.int 1, .int 0, .int (-1)]) := updA_same; have K := K.new (c := .lst [.int 1, .int 0, .int (-1)]) hp4; have S := S.ext (Ext.new (c := .lst [.int 1, .int 0, .int (-1)]) hp4); generalize updA A3 p4 (.lst [.int 1, .int 0, .int (-1)]) = A4 at ep0 ep1 ep2 ep3 ep4 K S ⊢
  refine ⟨ep0, ?_⟩
  have hd : dispK [tl "check_most", tl "lots_of", tl "mask_of", tl "lot_of_mask"] [.ref p1, .ref p2, .ref p3, .ref p4] = [(kS (tl "check_most"), .ref p1), (kS (tl "lots_of"), .ref p2), (kS (tl "mask_of"), .ref p3), (kS (tl "lot_of_mask"), .ref p4)] := rfl
  rw [hd]
  generalize hkv : ([(kS (tl "check_most"), .ref p1), (kS (tl "lots_of"), .ref p2), (kS (tl "mask_of"), .ref p3), (kS (tl "lot_of_mask"), .ref p4)] : List (Key × D)) = kv
  have K := K.upd (p := p0) (c := .dic kv) hAp0
  have S := S.upd (c := .dic kv) hep0
  have ep1 := (updA_ne (c := .dic kv) (Ne.symm nep0p1)).trans ep1
  have ep2 := (updA_ne (c := .dic kv) (Ne.symm nep0p2)).trans ep2
  have ep3 := (updA_ne (c := .dic kv) (Ne.symm nep0p3)).trans ep3
  have ep4 := (updA_ne (c := .dic kv) (Ne.symm nep0p4)).trans ep4
  have ep0 : updA A4 p0 (.dic kv) p0 = some (.dic kv) := updA_same
  generalize updA A4 p0 (.dic kv) = A5 at ep0 ep1 ep2 ep3 ep4 K S ⊢
  (conv => whnf)
  refine ⟨Nat.le_of_ble_eq_true rfl, ?_⟩
  rw [show ([D.str (tl "check_lines"), .str (tl "check_most"), .str (tl "lots_of"), .str (tl "pairs_of"), .str (tl "sub_lots"), .str (tl "mask_of"), .str (tl "lot_of_mask")] : List D) = words7.map D.str from rfl]
  intro p5 hp5; have hep5 := S.ne hp5; have hAp5 := K.none hp5 hep5; have nep0p5 := neA ep0 hp5; have nep1p5 := neA ep1 hp5; have nep2p5 := neA ep2 hp5; have nep3p5 := neA ep3 hp5; have nep4p5 := neA ep4 hp5; have ep0 := Ext.new (c := .lst (words7.map D.str)) hp5 _ _ ep0; have ep1 := Ext.new (c := .lst (words7.map D.str)) hp5 _ _ ep1; have ep2 := Ext.new (c := .lst (words7.map D.str)) hp5 _ _ ep2; have ep3 := Ext.new (c := .lst (words7.map D.str)) hp5 _ _ ep3; have ep4 := Ext.new (c := .lst (words7.map D.str)) hp5 _ _ ep4; have ep5 : updA A5 p5 (.lst (words7.map D.str)) p5 = some (.lst (words7.map D.str)) := updA_same; have K := K.new (c := .lst (words7.map D.str)) hp5; have S := S.ext (Ext.new (c := .lst (words7.map D.str)) hp5); generalize updA A5 p5 (.lst (words7.map D.str)) = A6 at ep0 ep1 ep2 ep3 ep4 ep5 K S ⊢
  refine ⟨_, ep5, ?_⟩
  (conv => whnf)
  refine ⟨fun i Γ A' => ∃ a b c d e, Γ = [some (.ref l), some (.tup (L.map D.str)), some (.ref p0), a, b, c, d, e] ∧ A' p5 = some (.lst (words7.map D.str)) ∧ Kp l A6 A' ∧ St A' l (n + 100 * i), ⟨_, _, _, _, _, rfl, ep5, .rfl, S⟩, fun i Γ A' _ => fun ⟨_, _, _, _, _, _, h, _⟩ => h, ?_, ?_⟩
  · rintro i Γ A7 (hi : i < (words7.map D.str).length) ⟨a, b, c, d, e, rfl, ep5, K2, S⟩
    rw [List.length_map] at hi
    have hi7 : i < 7 := hi
    show agName 3 ((words7.map D.str).getD i .non) _ _ _
    rw [map_getD _ hi]
    have hw : words7[i] ∈ words7 := List.getElem_mem hi
    generalize words7[i] = w at hw ⊢
    have ep0 := K2 _ _ hep0 ep0
    have ep1 := K2 _ _ hep1 ep1
    have ep2 := K2 _ _ hep2 ep2
    have ep3 := K2 _ _ hep3 ep3
    have ep4 := K2 _ _ hep4 ep4
    have K := K2
    clear K2
    (conv => whnf)
    refine ⟨_, ep0, ?_⟩
    (conv => whnf)
    refine ⟨Nat.le_of_ble_eq_true rfl, ?_⟩
    intro z hz; have hez := S.ne hz; have hAz := K.none hz hez; have nep0z := neA ep0 hz; have nep1z := neA ep1 hz; have nep2z := neA ep2 hz; have nep3z := neA ep3 hz; have nep4z := neA ep4 hz; have nep5z := neA ep5 hz; have ep0 := Ext.new (c := .lst [.int 0]) hz _ _ ep0; have ep1 := Ext.new (c := .lst [.int 0]) hz _ _ ep1; have ep2 := Ext.new (c := .lst [.int 0]) hz _ _ ep2; have ep3 := Ext.new (c := .lst [.int 0]) hz _ _ ep3; have ep4 := Ext.new (c := .lst [.int 0]) hz _ _ ep4; have ep5 := Ext.new (c := .lst [.int 0]) hz _ _ ep5; have ez : updA A7 z (.lst [.int 0]) z = some (.lst [.int 0]) := updA_same; have K := K.new (c := .lst [.int 0]) hz; have S := S.ext (Ext.new (c := .lst [.int 0]) hz); generalize updA A7 z (.lst [.int 0]) = A8 at ep0 ep1 ep2 ep3 ep4 ep5 ez K S ⊢
    refine ⟨_, ep0, _, rfl, ?_⟩
    have hget : ∃ t xs, (getD' kv (kS w)).getD (.ref z) = .ref t ∧ A8 t = some (.lst xs) ∧ t ≠ l ∧ xs ≠ [] ∧ xs.length ≤ 3 ∧ ∀ y ∈ xs, ThP w y := by
      rw [← hkv]
      have hw := hw
      unfold words7 at hw
      simp only [List.mem_cons, List.not_mem_nil, or_false] at hw
      rcases hw with rfl | rfl | rfl | rfl | rfl | rfl | rfl
      · exact ⟨z, _, rfl, ez, hez, nofun, by decide, fun y _ => ⟨fun h => absurd h (by decide), fun h => absurd h (by decide), fun h => absurd h (by decide), fun h => absurd h (by decide)⟩⟩
      · exact ⟨p1, _, rfl, ep1, hep1, nofun, by decide, fun y hy => ⟨fun h => absurd h (by decide), fun h => absurd h (by decide), fun h => absurd h (by decide), fun _ => List.mem_singleton.mp hy⟩⟩
      · refine ⟨p2, _, rfl, ep2, hep2, nofun, by decide, fun y hy => ⟨fun h => absurd h (by decide), fun _ => ?_, fun h => absurd h (by decide), fun h => absurd h (by decide)⟩⟩
        simp only [List.mem_cons, List.not_mem_nil, or_false] at hy
        rcases hy with rfl | rfl | rfl <;> exact ⟨_, rfl⟩
      · exact ⟨z, _, rfl, ez, hez, nofun, by decide, fun y _ => ⟨fun h => absurd h (by decide), fun h => absurd h (by decide), fun h => absurd h (by decide), fun h => absurd h (by decide)⟩⟩
      · exact ⟨z, _, rfl, ez, hez, nofun, by decide, fun y _ => ⟨fun h => absurd h (by decide), fun h => absurd h (by decide), fun h => absurd h (by decide), fun h => absurd h (by decide)⟩⟩
      · refine ⟨p3, _, rfl, ep3, hep3, nofun, Nat.le_refl 3, fun y hy => ⟨fun _ => ?_, fun h => absurd h (by decide), fun h => absurd h (by decide), fun h => absurd h (by decide)⟩⟩
        simp only [List.mem_cons, List.not_mem_nil, or_false] at hy
        rcases hy with rfl | rfl | rfl
        · exact ⟨L.take 1, rfl, by rw [List.length_take]; omega⟩
        · exact ⟨[], rfl, by decide⟩
        · exact ⟨[tl "A"], rfl, by decide⟩
      · refine ⟨p4, _, rfl, ep4, hep4, nofun, by decide, fun y hy => ⟨fun h => absurd h (by decide), fun h => absurd h (by decide), fun _ => ?_, fun h => absurd h (by decide)⟩⟩
        simp only [List.mem_cons, List.not_mem_nil, or_false] at hy
        rcases hy with rfl | rfl | rfl <;> exact ⟨_, rfl⟩
    obtain ⟨t, xs, hg, et, htl, hx0, hx3, hxs⟩ := hget
    (conv => whnf)
    rw [show (getD' kv (Sum.inr ⟨w.toArray⟩)).getD (.ref z) = .ref t from hg]
    refine ⟨l, _, _, xs, rfl, S, by omega, .inr (.inl ⟨_, rfl, et⟩), fun z => htl (D.ref.inj z), hx0, by rw [big_eq]; omega, fun th A9 hth K2 S2 => ?_⟩
    have hth := hxs th hth
    have ep5 := K2 _ _ hep5 ep5; have K := K.trans K2; have S := S2
    have main : ∀ (m : Nat), (m = if w = tl "sub_lots" then 8 else 24) → as__law_badthere_7 { nx := (fun Γ A' => ∃ a b c d e, Γ = [some (.ref l), some (.tup (L.map D.str)), some (.ref p0), a, b, c, d, e] ∧ A' p5 = some (.lst (words7.map D.str)) ∧ Kp l A6 A' ∧ St A' l (n + 100 * (i + 1))), rt := (endsA q x).rt, bk := fun Γ A' => aRet (aC (.bl true)) (endsA q x) Γ A', ct := (fun Γ A' => ∃ a b c d e, Γ = [some (.ref l), some (.tup (L.map D.str)), some (.ref p0), a, b, c, d, e] ∧ A' p5 = some (.lst (words7.map D.str)) ∧ Kp l A6 A' ∧ St A' l (n + 100 * (i + 1))), ex := (endsA q x).ex } [some (.ref l), some (.tup (L.map D.str)), some (.ref p0), some (.str w), some th, some (.int m), d, e] A9 := by
      intro m hm
      have hm24 : 8 ≤ m ∧ m ≤ 24 := by
        by_cases z : w = tl "sub_lots"
        · rw [if_pos z] at hm; omega
        · rw [if_neg z] at hm; omega
      (conv => whnf)
      rw [cut_to, ← List.map_take]
      have hL2 : lotF (L.take m) = none := lot_sub hL.ok (List.take_sublist _ _) (by
        have := List.length_pos_iff.mpr hL.ne
        intro z
        have z2 := congrArg List.length z
        rw [List.length_take] at z2
        have : ([] : List (List Nat)).length = 0 := rfl
        omega)
      refine ⟨l, _, L.take m, m, rfl, S, by omega, hL2, by rw [List.length_take]; omega, by omega, fun r B w2 v A10 hr er hB h60 h14 K2 S2 => ?_⟩
      have ep5 := K2 _ _ hep5 ep5; have K := K.trans K2; have S := S2
      have her := hr
      (conv => whnf)
      refine ⟨_, er, _, atI_zero', ?_⟩
      (conv => whnf)
      refine ⟨_, er, _, rfl, ?_⟩
      (conv => whnf)
      refine ⟨_, er, _, rfl, ?_⟩
      (conv => whnf)
      refine ⟨Nat.le_of_ble_eq_true rfl, ?_⟩
      obtain ⟨k, hk, hpl⟩ := badL_pl hB
      (conv => whnf)
      refine ⟨w, _, th, _, k, rfl, hpl, hk, fun q' x' ht => ask7 hw hth hm fun G => told_of hB h60 h14 ht, fun A11 G11 => ?_⟩
      have K := K.trans G11.kp
      have S := S.ext G11
      have ep5 := G11 _ _ ep5
      (repeat ((conv => whnf); first | (refine ⟨?_, fun _ => ?_⟩; · (intro z; cases z)) | (refine ⟨fun _ => ?_, ?_⟩; rotate_left; · (intro z; cases z)) | (refine ⟨?_, fun _ => ?_⟩; · (intro z; exact absurd z (by decide))) | (refine ⟨fun _ => ?_, ?_⟩; rotate_left; · (intro z; exact absurd z (by decide)))))
      (conv => whnf)
      refine ⟨l, _, rfl, S, by omega, fun bad A12 b14 _ bnm K2 S2 => ?_⟩
      have ep5 := K2 _ _ hep5 ep5; have K := K.trans K2; have S := S2
      (conv => whnf)
      refine ⟨Nat.le_of_ble_eq_true rfl, ?_⟩
      (conv => whnf)
      refine ⟨nofun, by omega, by omega, Nat.le_of_ble_eq_true rfl, ?_⟩
      have hrep : (List.replicate ((m : Int) + 1).toNat [D.str bad]).flatten = (List.replicate (m + 1) bad).map D.str := by
        rw [List.flatten_replicate_singleton, List.map_replicate]; rfl
      (conv => whnf)
      rw [hrep]
      have hrl : (List.replicate (m + 1) bad).length = m + 1 := List.length_replicate
      have hrm : ∀ c ∈ List.replicate (m + 1) bad, c.length ≤ 14 := fun c hc => by rw [List.eq_of_mem_replicate hc]; exact b14
      generalize List.replicate (m + 1) bad = R at hrl hrm ⊢
      (conv => whnf)
      refine ⟨Nat.le_of_ble_eq_true rfl, ?_⟩
      (conv => whnf)
      refine ⟨Nat.le_of_ble_eq_true rfl, ?_⟩
      (conv => whnf)
      have hBR : BadL R m (tl "TooMany") (.tup [.str (tl "lines"), .int m]) := .inr (.inl ⟨(by intro z; rw [z] at hrl; cases hrl), by omega, rfl, rfl⟩)
      refine ⟨w, _, th, _, 5, rfl, due2 _ _ _ (.str _) (.int _), by decide, fun q' x' ht => ask7 hw hth hm fun G => told_of hBR (by omega) hrm ht, fun A13 G13 => ?_⟩
      have K := K.trans G13.kp
      have S := S.ext G13
      have ep5 := G13 _ _ ep5
      (repeat ((conv => whnf); first | (refine ⟨?_, fun _ => ?_⟩; · (intro z; cases z)) | (refine ⟨fun _ => ?_, ?_⟩; rotate_left; · (intro z; cases z)) | (refine ⟨?_, fun _ => ?_⟩; · (intro z; exact absurd z (by decide))) | (refine ⟨fun _ => ?_, ?_⟩; rotate_left; · (intro z; exact absurd z (by decide)))))
      exact ⟨_, _, _, _, _, rfl, ep5, K, S.mono (by omega)⟩
    (conv => whnf)
    refine ⟨fun hs => ?_, fun hs => ?_⟩
    · have hs : w = tl "sub_lots" := by simpa using hs
      exact main 8 (by rw [if_pos hs])
    · have hs : w ≠ tl "sub_lots" := by simpa using hs
      exact main 24 (by rw [if_neg hs])
  · rintro Γ A7 ⟨a, b, c, d, e, rfl, ep5, K2, S⟩
    have S : St A7 l (n + 100 * 7) := S
    (conv => whnf)
    exact h A7 (K.trans K2) (S.mono (by omega))
theorem len__law_badthere (ds : List D) (A : Ah) (q : D → Ah → Prop) (x : AX) : sp__law_badthere ds A q x → ds.length = 2 := by
  rintro ⟨l, n, L, rfl, _⟩; rfl
def as__law_badbehind_9 : AS := (aIf (aNotT (aTest (aCall sp__law_refused (aCons (aC (.str (tl "mask_of"))) (aCons (aVar 1) (aCons (aOp aIx (aVar 3) (aC (.int 0))) (aCons (aTup (aCons (aOp aIx (aVar 3) (aC (.int 1))) (aCons (aOp aIx (aVar 3) (aC (.int 2))) aNil))) aNil))))))) (aRet (aC (.bl false))) aNext)
def as__law_badbehind_8 : AS := (aSeq (aAsg (aCall sp__law_lotspoilt (aCons (aVar 0) (aCons (aVar 1) (aCons (aVar 2) aNil)))) (agName 3)) as__law_badbehind_9)
def as__law_badbehind_6 : AS := (aSeq (aIf (aNotT (aTest (aCall sp__law_refused (aCons (aC (.str (tl "lot_of_mask"))) (aCons (aVar 1) (aCons (aOp aIx (aVar 3) (aC (.int 0))) (aCons (aTup (aCons (aOp aIx (aVar 3) (aC (.int 1))) (aCons (aOp aIx (aVar 3) (aC (.int 2))) aNil))) aNil))))))) (aRet (aC (.bl false))) aNext) as__law_badbehind_8)
def as__law_badbehind_5 : AS := (aSeq (aAsg (aCall sp__law_badnumber (aCons (aVar 0) (aCons (aC (.int 1)) (aCons (aVar 2) aNil)))) (agName 3)) as__law_badbehind_6)
def as__law_badbehind_4 : AS := (aSeq (aFor (aRng1 (aCons (aC (.int 2)) aNil)) (agName 4) as__law_badbehind_5) (aRet (aC (.bl true))))
def as__law_badbehind_2 : AS := (aSeq (aIf (aNotT (aTest (aCall sp__law_refused (aCons (aC (.str (tl "lots_of"))) (aCons (aVar 1) (aCons (aOp aIx (aVar 3) (aC (.int 0))) (aCons (aTup (aCons (aOp aIx (aVar 3) (aC (.int 1))) (aCons (aOp aIx (aVar 3) (aC (.int 2))) aNil))) aNil))))))) (aRet (aC (.bl false))) aNext) as__law_badbehind_4)
def as__law_badbehind : AS := (aSeq (aAsg (aCall sp__law_badnumber (aCons (aVar 0) (aCons (aC (.int 1)) (aCons (aC (.int 4)) aNil)))) (agName 3)) as__law_badbehind_2)

theorem pure__law_badbehind (ds : List D) (A : Ah) (q : D → Ah → Prop) (x : AX) : sp__law_badbehind ds A q x → as__law_badbehind (endsA q x) (startA ["store", "lines", "top", "bad", "k"] ds) A := by
  rintro ⟨l, n, L, rfl, S, hn, hL, h⟩
  have K : Kp l A A := .rfl
  have hLn := hL.le
  have h2 := pow24p _ hLn
  have h21 : 2 ≤ 2 ^ L.length := by
    have := Nat.pow_le_pow_right (show 0 < 2 by decide) (List.length_pos_iff.mpr hL.ne)
    exact this
  (conv => whnf)
  refine ⟨l, n, 1, 4, rfl, S, by omega, by decide, by decide, by decide, fun p j A1 hp ep hj K2 S2 => ?_⟩
  have K := K.trans K2; have S := S2
  (conv => whnf)
  refine ⟨_, ep, _, atI_zero', ?_⟩
  (conv => whnf)
  refine ⟨_, ep, _, rfl, ?_⟩
  (conv => whnf)
  refine ⟨_, ep, _, rfl, ?_⟩
  (conv => whnf)
  refine ⟨Nat.le_of_ble_eq_true rfl, ?_⟩
  (conv => whnf)
  refine ⟨tl "lots_of", _, _, _, 4, rfl, due1 _ _ (.int _), by decide, fun q' x' ht => .inr (.inr (.inl ⟨rfl, L, j, rfl, linesX_good hL.ok (by omega) (by omega) ⟨fun a b => (hj ⟨a, b⟩).elim, fun _ d A' e1 e2 => ht _ _ e1 (.inr (.inr (.inr (.inr ⟨_, rfl, e2, rfl⟩))))⟩⟩)), fun A2 G2 => ?_⟩
  have K := K.trans G2.kp
  have S := S.ext G2
  (repeat ((conv => whnf); first | (refine ⟨?_, fun _ => ?_⟩; · (intro z; cases z)) | (refine ⟨fun _ => ?_, ?_⟩; rotate_left; · (intro z; cases z)) | (refine ⟨?_, fun _ => ?_⟩; · (intro z; exact absurd z (by decide))) | (refine ⟨fun _ => ?_, ?_⟩; rotate_left; · (intro z; exact absurd z (by decide)))))
  (conv => whnf)
  refine ⟨by decide, ?_⟩
  refine ⟨fun i Γ A' => ∃ a b, Γ = [some (.ref l), some (.tup (L.map D.str)), some (.int ((2 ^ L.length : Nat) - 1 : Int)), a, b] ∧ Kp l A A' ∧ St A' l (n + 1 + 100 * i), ⟨_, _, rfl, K, S⟩, fun i Γ A' _ _ => trivial, ?_, ?_⟩
  · rintro i Γ A3 (hi : i < 2) ⟨a, b, rfl, K, S⟩
    (conv => whnf)
    refine ⟨l, _, 1, _, rfl, S, by omega, by decide, by omega, by omega, fun p j A4 hp ep hj K2 S2 => ?_⟩
    have K := K.trans K2; have S := S2
    (conv => whnf)
    refine ⟨_, ep, _, atI_zero', ?_⟩
    (conv => whnf)
    refine ⟨_, ep, _, rfl, ?_⟩
    (conv => whnf)
    refine ⟨_, ep, _, rfl, ?_⟩
    (conv => whnf)
    refine ⟨Nat.le_of_ble_eq_true rfl, ?_⟩
    (conv => whnf)
    refine ⟨tl "lot_of_mask", _, _, _, 4, rfl, due1 _ _ (.int _), by decide, fun q' x' ht => .inr (.inr (.inr (.inr (.inr (.inr (.inl ⟨rfl, L, j, rfl, linesX_good hL.ok (by omega) (by omega) ⟨fun a b => (hj ⟨a, by omega⟩).elim, fun _ d A' e1 e2 => ht _ _ e1 (.inr (.inr (.inr (.inr ⟨_, rfl, e2, rfl⟩))))⟩⟩)))))), fun A5 G5 => ?_⟩
    have K := K.trans G5.kp
    have S := S.ext G5
    (repeat ((conv => whnf); first | (refine ⟨?_, fun _ => ?_⟩; · (intro z; cases z)) | (refine ⟨fun _ => ?_, ?_⟩; rotate_left; · (intro z; cases z)) | (refine ⟨?_, fun _ => ?_⟩; · (intro z; exact absurd z (by decide))) | (refine ⟨fun _ => ?_, ?_⟩; rotate_left; · (intro z; exact absurd z (by decide)))))
    (conv => whnf)
    refine ⟨l, _, L, rfl, S, by omega, hL, fun r B w v A6 hr er hB h60 K2 S2 => ?_⟩
    have K := K.trans K2; have S := S2
    (conv => whnf)
    refine ⟨_, er, _, atI_zero', ?_⟩
    (conv => whnf)
    refine ⟨_, er, _, rfl, ?_⟩
    (conv => whnf)
    refine ⟨_, er, _, rfl, ?_⟩
    (conv => whnf)
    refine ⟨Nat.le_of_ble_eq_true rfl, ?_⟩
    (conv => whnf)
    have hpl : ∃ k, k < 400000 ∧ Pl k (.tup [.str w, v]) := by
      rcases hB with ⟨cs, _, rfl, rfl⟩ | ⟨i, _, rfl, rfl⟩
      · exact ⟨4, by decide, due1 _ _ (.str _)⟩
      · exact ⟨4, by decide, due1 _ _ (.int _)⟩
    obtain ⟨k, hk, hpl⟩ := hpl
    refine ⟨tl "mask_of", _, _, _, k, rfl, hpl, hk, fun q' x' ht => .inr (.inr (.inr (.inr (.inr (.inl ⟨rfl, L, B, rfl, by omega, linesX_good hL.ok (by omega) (by omega) ⟨fun z => ?_, fun cs z d A' e1 e2 => ?_, fun i z d A' e1 e2 => ?_⟩⟩))))), fun A7 G7 => ?_⟩
    · rcases hB with ⟨cs, z2, _⟩ | ⟨i, z2, _⟩
      all_goals (rw [z] at z2; cases z2)
    · rcases hB with ⟨cs, z2, rfl, rfl⟩ | ⟨i, z2, _⟩
      · rw [z] at z2
        cases z2
        exact ht _ _ e1 (.inr (.inr (.inl ⟨_, rfl, e2, rfl⟩)))
      · rw [z] at z2; cases z2
    · rcases hB with ⟨cs, z2, _⟩ | ⟨i, z2, rfl, rfl⟩
      · rw [z] at z2; cases z2
      · rw [z] at z2
        cases z2
        exact ht _ _ e1 (.inr (.inl ⟨_, rfl, e2, rfl⟩))
    have K := K.trans G7.kp
    have S := S.ext G7
    (repeat ((conv => whnf); first | (refine ⟨?_, fun _ => ?_⟩; · (intro z; cases z)) | (refine ⟨fun _ => ?_, ?_⟩; rotate_left; · (intro z; cases z)) | (refine ⟨?_, fun _ => ?_⟩; · (intro z; exact absurd z (by decide))) | (refine ⟨fun _ => ?_, ?_⟩; rotate_left; · (intro z; exact absurd z (by decide)))))
    exact ⟨_, _, rfl, K, S.mono (by omega)⟩
  · rintro Γ A3 ⟨a, b, rfl, K, S⟩
    have S : St A3 l (n + 1 + 100 * 2) := S
    (conv => whnf)
    exact h A3 K (S.mono (by omega))
theorem len__law_badbehind (ds : List D) (A : Ah) (q : D → Ah → Prop) (x : AX) : sp__law_badbehind ds A q x → ds.length = 3 := by
  rintro ⟨l, n, L, rfl, _⟩; rfl
def as_law_9 : AS := (aAsg (aOp aMul (aVar 5) (aC (.int 2))) (agName 5))
def as_law_18 : AS := (aRet (aCall sp__law_lotsgood (aCons (aVar 3) (aCons (aVar 4) aNil))))
def as_law_16 : AS := (aSeq (aIf (aOrT (aNotT (aTest (aCall sp__law_badthere (aCons (aVar 1) (aCons (aVar 3) aNil))))) (aNotT (aTest (aCall sp__law_badbehind (aCons (aVar 1) (aCons (aVar 3) (aCons (aVar 5) aNil))))))) (aRet (aC (.bl false))) aNext) as_law_18)
def as_law_14 : AS := (aSeq (aIf (aOrT (aNotT (aTest (aCall sp__law_masksgood (aCons (aVar 1) (aCons (aVar 3) (aCons (aVar 5) aNil)))))) (aNotT (aTest (aCall sp__law_limits (aCons (aVar 1) (aCons (aVar 3) aNil)))))) (aRet (aC (.bl false))) aNext) as_law_16)
def as_law_12 : AS := (aSeq (aIf (aOrT (aNotT (aTest (aCall sp__law_lotsgood (aCons (aVar 3) (aCons (aVar 4) aNil))))) (aNotT (aTest (aCall sp__law_lotsgood (aCons (aVar 7) (aCons (aOp aAdd (aC (.int 1)) (aCall sp__law_take (aCons (aVar 1) (aCons (aC (.int 4)) aNil)))) aNil)))))) (aRet (aC (.bl false))) aNext) as_law_14)
def as_law_11 : AS := (aSeq (aAsg (aCall sp__law_lines (aCons (aVar 1) (aCons (aOp aAdd (aC (.int 1)) (aCall sp__law_take (aCons (aVar 1) (aCons (aC (.int 6)) aNil)))) aNil))) (agName 7)) as_law_12)
def as_law_10 : AS := (aSeq (aAsg (aOp aSub (aVar 5) (aC (.int 1))) (agName 5)) as_law_11)
def as_law_8 : AS := (aSeq (aFor (aIter (aVar 3)) (agName 6) as_law_9) as_law_10)
def as_law_7 : AS := (aSeq (aAsg (aC (.int 1)) (agName 5)) as_law_8)
def as_law_6 : AS := (aSeq (aAsg (aOp aAdd (aC (.int 1)) (aCall sp__law_take (aCons (aVar 1) (aCons (aC (.int 4)) aNil)))) (agName 4)) as_law_7)
def as_law_5 : AS := (aSeq (aAsg (aCall sp__law_lines (aCons (aVar 1) (aCons (aVar 2) aNil))) (agName 3)) as_law_6)
def as_law_3 : AS := (aSeq (aIf (aTest (aOp aEq (aCall sp__law_take (aCons (aVar 1) (aCons (aC (.int 8)) aNil))) (aC (.int 0)))) (aAsg (aCall sp__law_number (aCons (aVar 1) (aCons (aC (.int 9)) (aCons (aC (.int 24)) aNil)))) (agName 2)) aNext) as_law_5)
def as_law_2 : AS := (aSeq (aAsg (aCall sp__law_number (aCons (aVar 1) (aCons (aC (.int 1)) (aCons (aC (.int 8)) aNil)))) (agName 2)) as_law_3)
def as_law : AS := (aSeq (aAsg (aCall sp__law_store (aCons (aVar 0) aNil)) (agName 1)) as_law_2)

theorem pure_law (ds : List D) (A : Ah) (q : D → Ah → Prop) (x : AX) : sp_law ds A q x → as_law (endsA q x) (startA ["script", "store", "many", "lines", "size", "top", "line", "other"] ds) A := by
  rintro ⟨is, rfl, h⟩
  (conv => whnf)
  refine ⟨is, rfl, fun l A1 S => ?_⟩
  have K : Kp l A1 A1 := .rfl
  (conv => whnf)
  refine ⟨l, 0, 1, 8, rfl, S, by decide, by decide, fun m0 A2 m1 m2 K2 S2 => ?_⟩
  have K := K.trans K2; have S := S2
  obtain ⟨m0, rfl⟩ := toN (i := m0) (by omega)
  have main : ∀ (m : Nat) (A3 : Ah), 1 ≤ m → m ≤ 24 → St A3 l 20 → as_law_5 (endsA q x) [some (.lof (is.map D.int)), some (.ref l), some (.int m), none, none, none, none, none] A3 := by
    intro m A3 h1 h24 S
    have K : Kp l A3 A3 := .rfl
    (conv => whnf)
    refine ⟨l, 20, m, rfl, S, by decide, h1, h24, fun L A4 hL hLl K2 S2 => ?_⟩
    have K := K.trans K2; have S := S2
    have hL : LotL L := ⟨hL, by omega⟩
    (conv => whnf)
    refine ⟨l, _, 4, rfl, S, by decide, by decide, fun k A5 k0 k1 K2 S2 => ?_⟩
    have K := K.trans K2; have S := S2
    obtain ⟨k, rfl⟩ := toN k0
    have hk : k < 4 := by omega
    clear hLl
    (conv => whnf)
    refine ⟨fun i Γ A' => ∃ a, Γ = [some (.lof (is.map D.int)), some (.ref l), some (.int m), some (.tup (L.map D.str)), some (.int (1 + (k : Int))), some (.int ((2 ^ i : Nat) : Int)), a, none] ∧ A' = A5, ⟨_, rfl, rfl⟩, fun i Γ A' _ _ => trivial, ?_, ?_⟩
    · rintro i Γ A' (hi : i < (L.map D.str).length) ⟨a, rfl, rfl⟩
      rw [List.length_map] at hi
      have hp := pow24p i (by have := hL.le; omega)
      have hpow : ((2 ^ (i + 1) : Nat) : Int) = ((2 ^ i : Nat) : Int) * 2 := by rw [Nat.pow_succ]; rfl
      have hsm : SmallI ((2 ^ i : Nat) : Int) := by
        generalize 2 ^ i = t at hp
        exact small128 (by omega) (by omega)
      (conv => whnf)
      refine ⟨hsm, small128 (by decide) (by decide), ?_⟩
      exact ⟨_, by rw [hpow]; rfl, rfl⟩
    · rintro Γ A' ⟨a, rfl, rfl⟩
      show as_law_10 _ [some (.lof (is.map D.int)), some (.ref l), some (.int m), some (.tup (L.map D.str)), some (.int (1 + (k : Int))), some (.int ((2 ^ (L.map D.str).length : Nat) : Int)), a, none] A'
      rw [List.length_map]
      (conv => whnf)
      refine ⟨l, _, 6, rfl, S, by decide, by decide, fun u A6 u0 u1 K2 S2 => ?_⟩
      have K := K.trans K2; have S := S2
      obtain ⟨u, rfl⟩ := toN u0
      (conv => whnf)
      refine ⟨l, _, 1 + u, rfl, S, by decide, by omega, by omega, fun M A7 hM hMl K2 S2 => ?_⟩
      have K := K.trans K2; have S := S2
      have hM : LotL M := ⟨hM, by omega⟩
      (conv => whnf)
      refine ⟨L, 1 + k, rfl, hL, by omega, by omega, fun A8 G8 => ?_⟩
      have K := K.trans G8.kp
      have S := S.ext G8
      (repeat ((conv => whnf); first | (refine ⟨?_, fun _ => ?_⟩; · (intro z; cases z)) | (refine ⟨fun _ => ?_, ?_⟩; rotate_left; · (intro z; cases z)) | (refine ⟨?_, fun _ => ?_⟩; · (intro z; exact absurd z (by decide))) | (refine ⟨fun _ => ?_, ?_⟩; rotate_left; · (intro z; exact absurd z (by decide)))))
      (conv => whnf)
      refine ⟨l, _, 4, rfl, S, by decide, by decide, fun v A9 v0 v1 K2 S2 => ?_⟩
      have K := K.trans K2; have S := S2
      obtain ⟨v, rfl⟩ := toN v0
      (conv => whnf)
      refine ⟨M, 1 + v, rfl, hM, by omega, by omega, fun A10 G10 => ?_⟩
      have K := K.trans G10.kp
      have S := S.ext G10
      (repeat ((conv => whnf); first | (refine ⟨?_, fun _ => ?_⟩; · (intro z; cases z)) | (refine ⟨fun _ => ?_, ?_⟩; rotate_left; · (intro z; cases z)) | (refine ⟨?_, fun _ => ?_⟩; · (intro z; exact absurd z (by decide))) | (refine ⟨fun _ => ?_, ?_⟩; rotate_left; · (intro z; exact absurd z (by decide)))))
      (conv => whnf)
      refine ⟨l, _, L, rfl, S, by decide, hL, fun A11 K2 S2 => ?_⟩
      have K := K.trans K2; have S := S2
      (repeat ((conv => whnf); first | (refine ⟨?_, fun _ => ?_⟩; · (intro z; cases z)) | (refine ⟨fun _ => ?_, ?_⟩; rotate_left; · (intro z; cases z)) | (refine ⟨?_, fun _ => ?_⟩; · (intro z; exact absurd z (by decide))) | (refine ⟨fun _ => ?_, ?_⟩; rotate_left; · (intro z; exact absurd z (by decide)))))
      (conv => whnf)
      refine ⟨l, _, L, rfl, S, by decide, hL, fun A12 K2 S2 => ?_⟩
      have K := K.trans K2; have S := S2
      (repeat ((conv => whnf); first | (refine ⟨?_, fun _ => ?_⟩; · (intro z; cases z)) | (refine ⟨fun _ => ?_, ?_⟩; rotate_left; · (intro z; cases z)) | (refine ⟨?_, fun _ => ?_⟩; · (intro z; exact absurd z (by decide))) | (refine ⟨fun _ => ?_, ?_⟩; rotate_left; · (intro z; exact absurd z (by decide)))))
      (conv => whnf)
      refine ⟨l, _, L, rfl, S, by decide, hL, fun A13 K2 S2 => ?_⟩
      have K := K.trans K2; have S := S2
      (repeat ((conv => whnf); first | (refine ⟨?_, fun _ => ?_⟩; · (intro z; cases z)) | (refine ⟨fun _ => ?_, ?_⟩; rotate_left; · (intro z; cases z)) | (refine ⟨?_, fun _ => ?_⟩; · (intro z; exact absurd z (by decide))) | (refine ⟨fun _ => ?_, ?_⟩; rotate_left; · (intro z; exact absurd z (by decide)))))
      (conv => whnf)
      refine ⟨l, _, L, rfl, S, by decide, hL, fun A14 K2 S2 => ?_⟩
      have K := K.trans K2; have S := S2
      (repeat ((conv => whnf); first | (refine ⟨?_, fun _ => ?_⟩; · (intro z; cases z)) | (refine ⟨fun _ => ?_, ?_⟩; rotate_left; · (intro z; cases z)) | (refine ⟨?_, fun _ => ?_⟩; · (intro z; exact absurd z (by decide))) | (refine ⟨fun _ => ?_, ?_⟩; rotate_left; · (intro z; exact absurd z (by decide)))))
      (conv => whnf)
      exact ⟨L, 1 + k, rfl, hL, by omega, by omega, fun A15 G15 => h A15⟩
  (conv => whnf)
  refine ⟨l, _, 8, rfl, S, by decide, by decide, fun t A3 t0 t1 K2 S2 => ?_⟩
  have K := K.trans K2; have S := S2
  (conv => whnf)
  refine ⟨fun _ => ?_, fun _ => main m0 A3 (by omega) (by omega) (S.mono (by decide))⟩
  (conv => whnf)
  refine ⟨l, _, 9, 24, rfl, S, by decide, by decide, fun m3 A4 m4 m5 K2 S2 => ?_⟩
  have K := K.trans K2; have S := S2
  obtain ⟨m3, rfl⟩ := toN (i := m3) (by omega)
  exact main m3 A4 (by omega) (by omega) (S.mono (by decide))
theorem len_law (ds : List D) (A : Ah) (q : D → Ah → Prop) (x : AX) : sp_law ds A q x → ds.length = 1 := by
  rintro ⟨is, rfl, _⟩; rfl
section
variable {P : Program} {w : World} {K : Fg} {mg : Str → Option Value} {base : Heap}
theorem tm_is_name (T : Tx K mg P w base) {fd : FuncData} {ad : Addr} (F : FunD K "is_name" "is_name" (defArgs st_is_name) (defBody st_is_name) (defScope st_is_name) [] [] ad fd)
    (len : ∀ ds A q e, sp_is_name ds A q e → ds.length = 1) (pure : ∀ ds A q x, sp_is_name ds A q x → (as_is_name) (endsA q x) (startA ["name", "sign"] ds) A) : FnA P w K mg base 1 ad fd ["name"] sp_is_name := by
  refine fnA_of F sc_is_name len (fun cdv A outer s H E hr tk hp => ?_) pure
  have hu := hr.units
  exact ⟨_, (gb_cons (gs_if (gt_not (gt_chain ca_le ca_le ga_int (ga_blt ba_len T.f_len (gs_cons (ga_var (i := 0)) gs_nil)) ga_int)) (gb_one (gs_ret ga_bl)) gb_nil)
    (gb_cons (gs_if (gt_cmp ca_in (ga_var (i := 0)) (ga_globT T.c_KEPT_WORDS)) (gb_one (gs_ret ga_bl)) gb_nil)
    (gb_cons (gs_if (gt_bool (gw_or (gt_cmp ca_ni (ga_ix (ga_var (i := 0)) ga_int) (ga_globS T.c_LETTERS)) (gw_or1 (gt_cmp (ca_eq hu) (ga_ix (ga_var (i := 0)) (ga_neg ga_int)) ga_str)))) (gb_one (gs_ret ga_bl)) gb_nil)
    (gb_cons (gs_for hp rfl (gi_seq (ga_var (i := 0))) (gg_name (i := 1) sc_is_name.nd) (gb_one (gs_if (gt_cmp ca_ni (ga_var (i := 1)) (ga_globS T.c_NAME_SIGNS)) (gb_one (gs_ret ga_bl)) gb_nil)))
    (gb_one (gs_ret (ga_cmp ca_ni ga_str (ga_var (i := 0)))))))))⟩

theorem tm_lots_of_size (T : Tx K mg P w base) {fd : FuncData} {ad : Addr} (F : FunD K "lots_of_size" "lots_of_size" (defArgs st_lots_of_size) (defBody st_lots_of_size) (defScope st_lots_of_size) [] [] ad fd)
    (len : ∀ ds A q e, sp_lots_of_size ds A q e → ds.length = 2) (pure : ∀ ds A q x, sp_lots_of_size ds A q x → (as_lots_of_size) (endsA q x) (startA ["lines", "size", "found", "spare", "lot", "start", "at"] ds) A) : FnA P w K mg base 1 ad fd ["lines", "size"] sp_lots_of_size := by
  refine fnA_of F sc_lots_of_size len (fun cdv A outer s H E hr tk hp => ?_) pure
  have hu := hr.units
  exact ⟨_, (gb_cons (gs_set (i := 2) sc_lots_of_size.nd (ga_lst (gs_cons (ga_tup (gs_cons (ga_tup gs_nil) (gs_cons ga_int gs_nil))) gs_nil)))
    (gb_cons (gs_for hp rfl (gi_rng1 (gs_cons (ga_var (i := 1)) gs_nil) T.f_range) (gg_name (i := 3) sc_lots_of_size.nd) (gb_one (gs_setLc2 (i := 2) (own := [("lot", 4), ("start", 5), ("at", 6)]) (vs1 := [6]) rfl sc_lots_of_size.nd (gi_seq (ga_var (i := 2))) (show BlkOk ["lines", "size", "found", "spare", "lot", "start", "at"] (defScope st_lots_of_size) _ [("lot", 4), ("start", 5), ("at", 6)] from ⟨rfl, by decide +kernel, by decide +kernel, by decide +kernel, by decide +kernel⟩) (by decide) (fun s H C cl fp => (gg_tup rfl (gg_cons (gg_name (i := 4) sc_lots_of_size.nd) (gg_cons (gg_name (i := 5) sc_lots_of_size.nd) gg_nil)))) (fun s H C cl fp => gts_nil) (fun s H C cl fp => (gi_rng2 (gs_cons (ga_var (i := 5)) (gs_cons (ga_blt ba_len T.f_len (gs_cons (ga_var (i := 0)) gs_nil)) gs_nil)) T.f_range)) (fun s H C cl fp => (gg_name (i := 6) sc_lots_of_size.nd)) (fun s H C cl fp => gts_nil) (fun s H C cl fp => (ga_tup (gs_cons (ga_add (ga_var (i := 4)) (ga_tup (gs_cons (ga_ix (ga_var (i := 0)) (ga_var (i := 6))) gs_nil))) (gs_cons (ga_add (ga_var (i := 6)) ga_int) gs_nil)))) (tw_tup (tw_consN (by decide) (tw_consN (by decide) tw_nil))) (tw_name (by decide)))))
    (gb_one (gs_ret (ga_bty ba_tuple T.f_tuple (gs_cons (ga_lc (own := [("lot", 4), ("start", 5)]) rfl sc_lots_of_size.nd (gi_seq (ga_var (i := 2))) (show BlkOk ["lines", "size", "found", "spare", "lot", "start", "at"] (defScope st_lots_of_size) _ [("lot", 4), ("start", 5)] from ⟨rfl, by decide +kernel, by decide +kernel, by decide +kernel, by decide +kernel⟩) (fun s H C cl fp => (gg_tup rfl (gg_cons (gg_name (i := 4) sc_lots_of_size.nd) (gg_cons (gg_name (i := 5) sc_lots_of_size.nd) gg_nil)))) (fun s H C cl fp => gts_nil) (fun s H C cl fp => (ga_var (i := 4))) (tw_tup (tw_consN (by decide) (tw_consN (by decide) tw_nil)))) gs_nil))))))⟩

theorem tm_mask_end (T : Tx K mg P w base) {fd : FuncData} {ad : Addr} (F : FunD K "mask_end" "mask_end" (defArgs st_mask_end) (defBody st_mask_end) (defScope st_mask_end) [] [] ad fd)
    (len : ∀ ds A q e, sp_mask_end ds A q e → ds.length = 1) (pure : ∀ ds A q x, sp_mask_end ds A q x → (as_mask_end) (endsA q x) (startA ["lines", "end", "spare"] ds) A) : FnA P w K mg base 1 ad fd ["lines"] sp_mask_end := by
  refine fnA_of F sc_mask_end len (fun cdv A outer s H E hr tk hp => ?_) pure
  have hu := hr.units
  exact ⟨_, (gb_cons (gs_set (i := 1) sc_mask_end.nd ga_int)
    (gb_cons (gs_for hp rfl (gi_rng1 (gs_cons (ga_blt ba_len T.f_len (gs_cons (ga_var (i := 0)) gs_nil)) gs_nil) T.f_range) (gg_name (i := 2) sc_mask_end.nd) (gb_one (gs_set (i := 1) sc_mask_end.nd (ga_mul (ga_var (i := 1)) ga_int))))
    (gb_one (gs_ret (ga_var (i := 1))))))⟩

theorem tm_pick_lot (T : Tx K mg P w base) {fd : FuncData} {ad : Addr} (F : FunD K "pick_lot" "pick_lot" (defArgs st_pick_lot) (defBody st_pick_lot) (defScope st_pick_lot) [] [] ad fd)
    (len : ∀ ds A q e, sp_pick_lot ds A q e → ds.length = 2) (pure : ∀ ds A q x, sp_pick_lot ds A q x → (as_pick_lot) (endsA q x) (startA ["lines", "number", "picked", "rest", "name"] ds) A) : FnA P w K mg base 1 ad fd ["lines", "number"] sp_pick_lot := by
  refine fnA_of F sc_pick_lot len (fun cdv A outer s H E hr tk hp => ?_) pure
  have hu := hr.units
  exact ⟨_, (gb_cons (gs_set (i := 2) sc_pick_lot.nd (ga_lst gs_nil))
    (gb_cons (gs_set (i := 3) sc_pick_lot.nd (ga_var (i := 1)))
    (gb_cons (gs_for hp rfl (gi_seq (ga_var (i := 0))) (gg_name (i := 4) sc_pick_lot.nd) (gb_cons (gs_if (gt_cmp (ca_eq hu) (ga_mod (ga_var (i := 3)) ga_int) ga_int) (gb_one (gs_expr (ga_mL ml_append (ga_var (i := 2)) (gs_cons (ga_var (i := 4)) gs_nil)))) gb_nil)
    (gb_one (gs_set (i := 3) sc_pick_lot.nd (ga_div (ga_var (i := 3)) ga_int)))))
    (gb_one (gs_ret (ga_bty ba_tuple T.f_tuple (gs_cons (ga_var (i := 2)) gs_nil)))))))⟩

theorem tm__law_mix (T : Tx K mg P w base) {fd : FuncData} {ad : Addr} (F : FunD K "_law_mix" "_law_mix" (defArgs st__law_mix) (defBody st__law_mix) (defScope st__law_mix) [] [] ad fd)
    (len : ∀ ds A q e, sp__law_mix ds A q e → ds.length = 1) (pure : ∀ ds A q x, sp__law_mix ds A q x → (as__law_mix) (endsA q x) (startA ["number", "large", "value"] ds) A) : FnA P w K mg base 1 ad fd ["number"] sp__law_mix := by
  refine fnA_of F sc__law_mix len (fun cdv A outer s H E hr tk hp => ?_) pure
  have hu := hr.units
  exact ⟨_, (gb_cons (gs_set (i := 1) sc__law_mix.nd ga_int)
    (gb_cons (gs_set (i := 2) sc__law_mix.nd (ga_mod (ga_bty ba_int T.f_int (gs_cons (ga_var (i := 0)) gs_nil)) (ga_var (i := 1))))
    (gb_cons (gs_set (i := 2) sc__law_mix.nd (ga_mod (ga_bty ba_int T.f_int (gs_cons (ga_add (ga_mul (ga_var (i := 2)) ga_int) ga_int) gs_nil)) (ga_var (i := 1))))
    (gb_cons (gs_set (i := 2) sc__law_mix.nd (ga_mod (ga_bty ba_int T.f_int (gs_cons (ga_add (ga_add (ga_mul (ga_var (i := 2)) (ga_var (i := 2))) (ga_mul (ga_div (ga_var (i := 2)) ga_int) ga_int)) ga_int) gs_nil)) (ga_var (i := 1))))
    (gb_one (gs_ret (ga_mod (ga_bty ba_int T.f_int (gs_cons (ga_add (ga_add (ga_mul (ga_div (ga_var (i := 2)) ga_int) ga_int) (ga_mul (ga_var (i := 2)) ga_int)) ga_int) gs_nil)) (ga_var (i := 1)))))))))⟩

theorem tm__law_unlike (T : Tx K mg P w base) {fd : FuncData} {ad : Addr} (F : FunD K "_law_unlike" "_law_unlike" (defArgs st__law_unlike) (defBody st__law_unlike) (defScope st__law_unlike) [] [] ad fd)
    (len : ∀ ds A q e, sp__law_unlike ds A q e → ds.length = 2) (pure : ∀ ds A q x, sp__law_unlike ds A q x → (as__law_unlike) (endsA q x) (startA ["name", "found", "k"] ds) A) : FnA P w K mg base 1 ad fd ["name", "found"] sp__law_unlike := by
  refine fnA_of F sc__law_unlike len (fun cdv A outer s H E hr tk hp => ?_) pure
  have hu := hr.units
  exact ⟨_, (gb_cons (gs_if (gt_cmp ca_ni (ga_var (i := 0)) (ga_var (i := 1))) (gb_one (gs_ret (ga_var (i := 0)))) gb_nil)
    (gb_cons (gs_for hp rfl (gi_rng1 (gs_cons (ga_add (ga_blt ba_len T.f_len (gs_cons (ga_var (i := 1)) gs_nil)) ga_int) gs_nil) T.f_range) (gg_name (i := 2) sc__law_unlike.nd) (gb_one (gs_if (gt_cmp ca_ni (ga_add ga_str (ga_bty ba_str T.f_str (gs_cons (ga_var (i := 2)) gs_nil))) (ga_var (i := 1))) (gb_one (gs_ret (ga_add ga_str (ga_bty ba_str T.f_str (gs_cons (ga_var (i := 2)) gs_nil))))) gb_nil)))
    (gb_one (gs_ret ga_str))))⟩

theorem tm__law_lotof (T : Tx K mg P w base) {fd : FuncData} {ad : Addr} (F : FunD K "_law_lotof" "_law_lotof" (defArgs st__law_lotof) (defBody st__law_lotof) (defScope st__law_lotof) [] [] ad fd)
    (len : ∀ ds A q e, sp__law_lotof ds A q e → ds.length = 2) (pure : ∀ ds A q x, sp__law_lotof ds A q x → (as__law_lotof) (endsA q x) (startA ["lines", "number", "found", "line"] ds) A) : FnA P w K mg base 1 ad fd ["lines", "number"] sp__law_lotof := by
  refine fnA_of F sc__law_lotof len (fun cdv A outer s H E hr tk hp => ?_) pure
  have hu := hr.units
  exact ⟨_, (gb_cons (gs_set (i := 2) sc__law_lotof.nd (ga_lst gs_nil))
    (gb_cons (gs_for hp rfl (gi_seq (ga_var (i := 0))) (gg_name (i := 3) sc__law_lotof.nd) (gb_cons (gs_if (gt_cmp (ca_eq hu) (ga_mod (ga_bty ba_int T.f_int (gs_cons (ga_var (i := 1)) gs_nil)) ga_int) ga_int) (gb_one (gs_expr (ga_mL ml_append (ga_var (i := 2)) (gs_cons (ga_var (i := 3)) gs_nil)))) gb_nil)
    (gb_one (gs_set (i := 1) sc__law_lotof.nd (ga_div (ga_var (i := 1)) ga_int)))))
    (gb_one (gs_ret (ga_bty ba_tuple T.f_tuple (gs_cons (ga_var (i := 2)) gs_nil))))))⟩

theorem tm__law_lots (T : Tx K mg P w base) {fd : FuncData} {ad : Addr} (F : FunD K "_law_lots" "_law_lots" (defArgs st__law_lots) (defBody st__law_lots) (defScope st__law_lots) [] [] ad fd)
    (len : ∀ ds A q e, sp__law_lots ds A q e → ds.length = 2) (pure : ∀ ds A q x, sp__law_lots ds A q x → (as__law_lots) (endsA q x) (startA ["lines", "many", "found", "k", "longer", "lot", "line"] ds) A) : FnA P w K mg base 1 ad fd ["lines", "many"] sp__law_lots := by
  refine fnA_of F sc__law_lots len (fun cdv A outer s H E hr tk hp => ?_) pure
  have hu := hr.units
  exact ⟨_, (gb_cons (gs_set (i := 2) sc__law_lots.nd (ga_lst (gs_cons (ga_tup gs_nil) gs_nil)))
    (gb_cons (gs_for hp rfl (gi_rng1 (gs_cons (ga_var (i := 1)) gs_nil) T.f_range) (gg_name (i := 3) sc__law_lots.nd) (gb_cons (gs_set (i := 4) sc__law_lots.nd (ga_lst gs_nil))
    (gb_cons (gs_for hp rfl (gi_seq (ga_var (i := 2))) (gg_name (i := 5) sc__law_lots.nd) (gb_one (gs_expr (ga_mL ml_extend (ga_var (i := 4)) (gs_cons (ga_lc (own := [("line", 6)]) rfl sc__law_lots.nd (gi_seq (ga_var (i := 0))) (show BlkOk ["lines", "many", "found", "k", "longer", "lot", "line"] (defScope st__law_lots) _ [("line", 6)] from ⟨rfl, by decide +kernel, by decide +kernel, by decide +kernel, by decide +kernel⟩) (fun s H C cl fp => (gg_name (i := 6) sc__law_lots.nd)) (fun s H C cl fp => (gts_one (gt_bool (gw_or (gt_cmp (ca_eq hu) (ga_blt ba_len T.f_len (gs_cons (ga_var (i := 5)) gs_nil)) ga_int) (gw_or1 (gt_cmp ca_gt (ga_var (i := 6)) (ga_ix (ga_var (i := 5)) (ga_neg ga_int)))))))) (fun s H C cl fp => (ga_add (ga_var (i := 5)) (ga_tup (gs_cons (ga_var (i := 6)) gs_nil)))) (tw_name (by decide))) gs_nil)))))
    (gb_one (gs_set (i := 2) sc__law_lots.nd (ga_bty ba_list T.f_list (gs_cons (ga_var (i := 4)) gs_nil)))))))
    (gb_one (gs_ret (ga_bty ba_tuple T.f_tuple (gs_cons (ga_var (i := 2)) gs_nil))))))⟩

theorem htm__law_toldof (T : Tx K mg P w base) {fd : FuncData} {ad : Addr} (F : FunD K "_law_toldof" "_law_toldof" (defArgs st__law_toldof) (defBody st__law_toldof) (defScope st__law_toldof) [] [] ad fd)
    (len : ∀ a e ds A q x, hsp__law_toldof a e ds A q x → ds.length = 1) (pure : ∀ a ε ds A q x, hsp__law_toldof a ε ds A q x → (has__law_toldof K a ε) (endsA q x) (startA ["e", "found"] ds) A) : FnE P w K mg base (L2N.CX P w) 1 ad fd ["e"] (liftH K excs hsp__law_toldof) := by
  refine fnH_of (cl := excs) F sc__law_toldof len (fun cdv A outer s H E p ε hcl hot hz hf rh tk hp => ?_) pure
  have hu : (A.deeper (envOfC "_law_toldof" (defScope st__law_toldof) s.heap.objs.size ad cdv)).units + 64 < cLine := by
    have := rh.un
    omega
  have hpn : p ∈ [p] := List.mem_cons_self
  have hc : L2H.HotC (L2H.cxH (L2N.CX P w) P w K mg base ["e", "found"] "_law_toldof" (defScope st__law_toldof) ad cdv A outer s H E p) := ⟨p, hot, hpn⟩
  obtain ⟨a, oe⟩ := p
  exact ⟨_, (gb_cons (gs_set (i := 1) sc__law_toldof.nd (ga_lst gs_nil))
    (gb_cons (gs_if (gt_val (ga_blt (ba_isE (T.ec _ hcl) hz hf hpn) T.f_isinstance (gs_cons (ga_var (i := 0)) (gs_cons (ga_globC T.n_BadName) gs_nil)))) (gb_one (gs_expr (ga_mL ml_append (ga_var (i := 1)) (gs_cons (ga_tup (gs_cons ga_str (gs_cons (ga_tup (gs_cons (gh_fld (ε := ε) (T.ec _ hcl).xf (T.na_name _ hcl) hz hf hpn (ga_var (i := 0))) gs_nil)) gs_nil))) gs_nil)))) gb_nil)
    (gb_cons (gs_if (gt_val (ga_blt (ba_isE (T.ec _ hcl) hz hf hpn) T.f_isinstance (gs_cons (ga_var (i := 0)) (gs_cons (ga_globC T.n_TooMany) gs_nil)))) (gb_one (gs_expr (ga_mL ml_append (ga_var (i := 1)) (gs_cons (ga_tup (gs_cons ga_str (gs_cons (ga_tup (gs_cons (gh_fld (ε := ε) (T.ec _ hcl).xf (T.na_what _ hcl) hz hf hpn (ga_var (i := 0))) (gs_cons (gh_fld (ε := ε) (T.ec _ hcl).xf (T.na_limit _ hcl) hz hf hpn (ga_var (i := 0))) gs_nil))) gs_nil))) gs_nil)))) gb_nil)
    (gb_cons (gs_if (gt_val (ga_blt (ba_isE (T.ec _ hcl) hz hf hpn) T.f_isinstance (gs_cons (ga_var (i := 0)) (gs_cons (ga_globC T.n_BadLot) gs_nil)))) (gb_one (gs_expr (ga_mL ml_append (ga_var (i := 1)) (gs_cons (ga_tup (gs_cons ga_str (gs_cons (ga_tup (gs_cons (gh_fld (ε := ε) (T.ec _ hcl).xf (T.na_at _ hcl) hz hf hpn (ga_var (i := 0))) gs_nil)) gs_nil))) gs_nil)))) gb_nil)
    (gb_cons (gs_if (gt_val (ga_blt (ba_isE (T.ec _ hcl) hz hf hpn) T.f_isinstance (gs_cons (ga_var (i := 0)) (gs_cons (ga_globC T.n_NoSuchLine) gs_nil)))) (gb_one (gs_expr (ga_mL ml_append (ga_var (i := 1)) (gs_cons (ga_tup (gs_cons ga_str (gs_cons (ga_tup (gs_cons (gh_fld (ε := ε) (T.ec _ hcl).xf (T.na_name _ hcl) hz hf hpn (ga_var (i := 0))) gs_nil)) gs_nil))) gs_nil)))) gb_nil)
    (gb_cons (gs_if (gt_val (ga_blt (ba_isE (T.ec _ hcl) hz hf hpn) T.f_isinstance (gs_cons (ga_var (i := 0)) (gs_cons (ga_globC T.n_BadNumber) gs_nil)))) (gb_one (gs_expr (ga_mL ml_append (ga_var (i := 1)) (gs_cons (ga_tup (gs_cons ga_str (gs_cons (ga_tup (gs_cons (gh_fld (ε := ε) (T.ec _ hcl).xf (T.na_number _ hcl) hz hf hpn (ga_var (i := 0))) gs_nil)) gs_nil))) gs_nil)))) gb_nil)
    (gb_cons (gs_if (gt_val (ga_blt (ba_isE (T.ec _ hcl) hz hf hpn) T.f_isinstance (gs_cons (ga_var (i := 0)) (gs_cons (ga_tup (gs_cons (ga_globC T.n_BadKind) (gs_cons (ga_globC T.n_BadLog) (gs_cons (ga_globC T.n_BadMachine) (gs_cons (ga_globC T.n_BadMatrix) (gs_cons (ga_globC T.n_BadMove) (gs_cons (ga_globC T.n_BadTable) (gs_cons (ga_globC T.n_BadText) (gs_cons (ga_globC T.n_BadTree) (gs_cons (ga_globC T.n_BadWish) (gs_cons (ga_globC T.n_Barred) (gs_cons (ga_globC T.n_LastLine) (gs_cons (ga_globC T.n_Mismatch) (gs_cons (ga_globC T.n_NoCover) (gs_cons (ga_globC T.n_NoEdit) (gs_cons (ga_globC T.n_NoGrant) (gs_cons (ga_globC T.n_NoSubtree) (gs_cons (ga_globC T.n_NoTree) (gs_cons (ga_globC T.n_Twice) gs_nil))))))))))))))))))) gs_nil)))) (gb_one (gs_ret (ga_tup (gs_cons ga_str (gs_cons (ga_tup gs_nil) gs_nil))))) gb_nil)
    (gb_cons (gs_if (gt_bool (gw_or (gt_cmp (ca_ne hu) (ga_blt ba_len T.f_len (gs_cons (ga_var (i := 1)) gs_nil)) ga_int) (gw_or (gt_not (gt_val (ga_blt (ba_isE (T.ec _ hcl) hz hf hpn) T.f_isinstance (gs_cons (ga_var (i := 0)) (gs_cons (ga_globC T.n_GrantError) gs_nil))))) (gw_or1 (gt_not (gt_val (ga_blt (ba_isE (T.ec _ hcl) hz hf hpn) T.f_isinstance (gs_cons (ga_var (i := 0)) (gs_cons (ga_bltn T.f_ValueError (v := .ty "ValueError") (u := .type "ValueError") (by decide +kernel) rfl (fun _ => .ty _)) gs_nil))))))))) (gb_one (gs_ret (ga_tup (gs_cons ga_str (gs_cons (ga_tup gs_nil) gs_nil))))) gb_nil)
    (gb_one (gs_ret (ga_ix (ga_var (i := 1)) ga_int)))))))))))⟩

theorem tm__law_equal (T : Tx K mg P w base) {fd : FuncData} {ad : Addr} (F : FunD K "_law_equal" "_law_equal" (defArgs st__law_equal) (defBody st__law_equal) (defScope st__law_equal) [] [] ad fd)
    (len : ∀ ds A q e, sp__law_equal ds A q e → ds.length = 2) (pure : ∀ ds A q x, sp__law_equal ds A q x → (as__law_equal) (endsA q x) (startA ["got", "due", "stack", "k", "pair", "i"] ds) A) : FnA P w K mg base 1 ad fd ["got", "due"] sp__law_equal := by
  refine fnA_of F sc__law_equal len (fun cdv A outer s H E hr tk hp => ?_) pure
  have hu := hr.units
  exact ⟨_, (gb_cons (gs_set (i := 2) sc__law_equal.nd (ga_lst (gs_cons (ga_tup (gs_cons (ga_var (i := 0)) (gs_cons (ga_var (i := 1)) gs_nil))) gs_nil)))
    (gb_cons (gs_for hp rfl (gi_rng1 (gs_cons ga_int gs_nil) T.f_range) (gg_name (i := 3) sc__law_equal.nd) (gb_cons (gs_if (gt_cmp (ca_eq hu) (ga_blt ba_len T.f_len (gs_cons (ga_var (i := 2)) gs_nil)) ga_int) (gb_one (gs_ret ga_bl)) gb_nil)
    (gb_cons (gs_set (i := 4) sc__law_equal.nd (ga_mL0 ml_pop (ga_var (i := 2))))
    (gb_one (gs_if (gt_val (ga_blt ba_isi T.f_isinstance (gs_cons (ga_ix (ga_var (i := 4)) ga_int) (gs_cons (ga_bltn T.f_tuple (v := .ty "tuple") (u := .type "tuple") (by decide +kernel) rfl (fun _ => .ty _)) gs_nil)))) (gb_cons (gs_if (gt_bool (gw_or (gt_not (gt_val (ga_blt ba_isi T.f_isinstance (gs_cons (ga_ix (ga_var (i := 4)) ga_int) (gs_cons (ga_bltn T.f_tuple (v := .ty "tuple") (u := .type "tuple") (by decide +kernel) rfl (fun _ => .ty _)) gs_nil))))) (gw_or1 (gt_cmp (ca_ne hu) (ga_blt ba_len T.f_len (gs_cons (ga_ix (ga_var (i := 4)) ga_int) gs_nil)) (ga_blt ba_len T.f_len (gs_cons (ga_ix (ga_var (i := 4)) ga_int) gs_nil)))))) (gb_one (gs_ret ga_bl)) gb_nil)
    (gb_one (gs_for hp rfl (gi_rng1 (gs_cons (ga_blt ba_len T.f_len (gs_cons (ga_ix (ga_var (i := 4)) ga_int) gs_nil)) gs_nil) T.f_range) (gg_name (i := 5) sc__law_equal.nd) (gb_one (gs_expr (ga_mL ml_append (ga_var (i := 2)) (gs_cons (ga_tup (gs_cons (ga_ix (ga_ix (ga_var (i := 4)) ga_int) (ga_var (i := 5))) (gs_cons (ga_ix (ga_ix (ga_var (i := 4)) ga_int) (ga_var (i := 5))) gs_nil))) gs_nil))))))) (gb_one (gs_if (gt_bool (gw_or (gt_cmp (ca_ne hu) (ga_ix (ga_var (i := 4)) ga_int) (ga_ix (ga_var (i := 4)) ga_int)) (gw_or1 (gt_cmp (ca_ne hu) (ga_blt ba_isi T.f_isinstance (gs_cons (ga_ix (ga_var (i := 4)) ga_int) (gs_cons (ga_bltn T.f_bool (v := .ty "bool") (u := .type "bool") (by decide +kernel) rfl (fun _ => .ty _)) gs_nil))) (ga_blt ba_isi T.f_isinstance (gs_cons (ga_ix (ga_var (i := 4)) ga_int) (gs_cons (ga_bltn T.f_bool (v := .ty "bool") (u := .type "bool") (by decide +kernel) rfl (fun _ => .ty _)) gs_nil))))))) (gb_one (gs_ret ga_bl)) gb_nil)))))))
    (gb_one (gs_ret ga_bl))))⟩
theorem htm__law_equal (T : Tx K mg P w base) {fd : FuncData} {ad : Addr} (F : FunD K "_law_equal" "_law_equal" (defArgs st__law_equal) (defBody st__law_equal) (defScope st__law_equal) [] [] ad fd)
    (len : ∀ a e ds A q x, hsp__law_equal a e ds A q x → ds.length = 2) (pure : ∀ a ε ds A q x, hsp__law_equal a ε ds A q x → (has__law_equal K a ε) (endsA q x) (startA ["got", "due", "stack", "k", "pair", "i"] ds) A) : FnE P w K mg base (L2N.CX P w) 1 ad fd ["got", "due"] (liftH K excs hsp__law_equal) := by
  refine fnH_of (cl := excs) F sc__law_equal len (fun cdv A outer s H E p ε hcl hot hz hf rh tk hp => ?_) pure
  have hu : (A.deeper (envOfC "_law_equal" (defScope st__law_equal) s.heap.objs.size ad cdv)).units + 64 < cLine := by
    have := rh.un
    omega
  have hpn : p ∈ [p] := List.mem_cons_self
  have hc : L2H.HotC (L2H.cxH (L2N.CX P w) P w K mg base ["got", "due", "stack", "k", "pair", "i"] "_law_equal" (defScope st__law_equal) ad cdv A outer s H E p) := ⟨p, hot, hpn⟩
  obtain ⟨a, oe⟩ := p
  exact ⟨_, (gb_cons (gs_set (i := 2) sc__law_equal.nd (ga_lst (gs_cons (ga_tup (gs_cons (ga_var (i := 0)) (gs_cons (ga_var (i := 1)) gs_nil))) gs_nil)))
    (gb_cons (gh_for hp hc (gh_rng1 (gs_cons ga_int gs_nil) T.f_range) (gg_name (i := 3) sc__law_equal.nd) (gb_cons (gs_if (gt_cmp (ca_eq hu) (ga_blt ba_len T.f_len (gs_cons (ga_var (i := 2)) gs_nil)) ga_int) (gb_one (gs_ret ga_bl)) gb_nil)
    (gb_cons (gs_set (i := 4) sc__law_equal.nd (ga_mL0 ml_pop (ga_var (i := 2))))
    (gb_one (gs_if (gt_val (ga_blt ba_isi T.f_isinstance (gs_cons (ga_ix (ga_var (i := 4)) ga_int) (gs_cons (ga_bltn T.f_tuple (v := .ty "tuple") (u := .type "tuple") (by decide +kernel) rfl (fun _ => .ty _)) gs_nil)))) (gb_cons (gs_if (gt_bool (gw_or (gt_not (gt_val (ga_blt ba_isi T.f_isinstance (gs_cons (ga_ix (ga_var (i := 4)) ga_int) (gs_cons (ga_bltn T.f_tuple (v := .ty "tuple") (u := .type "tuple") (by decide +kernel) rfl (fun _ => .ty _)) gs_nil))))) (gw_or1 (gt_cmp (ca_ne hu) (ga_blt ba_len T.f_len (gs_cons (ga_ix (ga_var (i := 4)) ga_int) gs_nil)) (ga_blt ba_len T.f_len (gs_cons (ga_ix (ga_var (i := 4)) ga_int) gs_nil)))))) (gb_one (gs_ret ga_bl)) gb_nil)
    (gb_one (gh_for hp hc (gh_rng1 (gs_cons (ga_blt ba_len T.f_len (gs_cons (ga_ix (ga_var (i := 4)) ga_int) gs_nil)) gs_nil) T.f_range) (gg_name (i := 5) sc__law_equal.nd) (gb_one (gs_expr (ga_mL ml_append (ga_var (i := 2)) (gs_cons (ga_tup (gs_cons (ga_ix (ga_ix (ga_var (i := 4)) ga_int) (ga_var (i := 5))) (gs_cons (ga_ix (ga_ix (ga_var (i := 4)) ga_int) (ga_var (i := 5))) gs_nil))) gs_nil))))))) (gb_one (gs_if (gt_bool (gw_or (gt_cmp (ca_ne hu) (ga_ix (ga_var (i := 4)) ga_int) (ga_ix (ga_var (i := 4)) ga_int)) (gw_or1 (gt_cmp (ca_ne hu) (ga_blt ba_isi T.f_isinstance (gs_cons (ga_ix (ga_var (i := 4)) ga_int) (gs_cons (ga_bltn T.f_bool (v := .ty "bool") (u := .type "bool") (by decide +kernel) rfl (fun _ => .ty _)) gs_nil))) (ga_blt ba_isi T.f_isinstance (gs_cons (ga_ix (ga_var (i := 4)) ga_int) (gs_cons (ga_bltn T.f_bool (v := .ty "bool") (u := .type "bool") (by decide +kernel) rfl (fun _ => .ty _)) gs_nil))))))) (gb_one (gs_ret ga_bl)) gb_nil)))))))
    (gb_one (gs_ret ga_bl))))⟩

theorem tm__law_doubled (T : Tx K mg P w base) {fd : FuncData} {ad : Addr} (F : FunD K "_law_doubled" "_law_doubled" (defArgs st__law_doubled) (defBody st__law_doubled) (defScope st__law_doubled) [] [] ad fd)
    (len : ∀ ds A q e, sp__law_doubled ds A q e → ds.length = 1) (pure : ∀ ds A q x, sp__law_doubled ds A q x → (as__law_doubled) (endsA q x) (startA ["lines", "found", "line", "lot"] ds) A) : FnA P w K mg base 1 ad fd ["lines"] sp__law_doubled := by
  refine fnA_of F sc__law_doubled len (fun cdv A outer s H E hr tk hp => ?_) pure
  have hu := hr.units
  exact ⟨_, (gb_cons (gs_set (i := 1) sc__law_doubled.nd (ga_lst (gs_cons (ga_tup gs_nil) gs_nil)))
    (gb_cons (gs_for hp rfl (gi_seq (ga_bty ba_list T.f_list (gs_cons (ga_var (i := 0)) gs_nil))) (gg_name (i := 2) sc__law_doubled.nd) (gb_one (gs_set (i := 1) sc__law_doubled.nd (ga_add (ga_var (i := 1)) (ga_lc (own := [("lot", 3)]) rfl sc__law_doubled.nd (gi_seq (ga_var (i := 1))) (show BlkOk ["lines", "found", "line", "lot"] (defScope st__law_doubled) _ [("lot", 3)] from ⟨rfl, by decide +kernel, by decide +kernel, by decide +kernel, by decide +kernel⟩) (fun s H C cl fp => (gg_name (i := 3) sc__law_doubled.nd)) (fun s H C cl fp => gts_nil) (fun s H C cl fp => (ga_add (ga_var (i := 3)) (ga_tup (gs_cons (ga_var (i := 2)) gs_nil)))) (tw_name (by decide)))))))
    (gb_one (gs_ret (ga_sl (ga_var (i := 1)) (go_some ga_int) go_none)))))⟩

theorem tm__law_store (T : Tx K mg P w base) (h__law_mix : Fn0 P w K mg base "_law_mix" 1 sp__law_mix) {fd : FuncData} {ad : Addr} (F : FunD K "_law_store" "_law_store" (defArgs st__law_store) (defBody st__law_store) (defScope st__law_store) [] [] ad fd)
    (len : ∀ ds A q e, sp__law_store ds A q e → ds.length = 1) (pure : ∀ ds A q x, sp__law_store ds A q x → (as__law_store) (endsA q x) (startA ["script", "wide", "store", "cell", "amount", "sign"] ds) A) : FnA P w K mg base 2 ad fd ["script"] sp__law_store := by
  refine fnA_of F sc__law_store len (fun cdv A outer s H E hr tk hp => ?_) pure
  have hu := hr.units
  exact ⟨_, (gb_cons (gs_set (i := 1) sc__law_store.nd (ga_mul (ga_mul (ga_mul (ga_pow ga_int ga_int) (ga_pow ga_int ga_int)) (ga_pow ga_int ga_int)) (ga_pow ga_int ga_int)))
    (gb_cons (gs_set (i := 2) sc__law_store.nd (ga_lst (gs_cons ga_int (gs_cons ga_int (gs_cons ga_int (gs_cons ga_int (gs_cons ga_int (gs_cons ga_int gs_nil))))))))
    (gb_cons (gs_for hp rfl (gi_seq (ga_sl (ga_bty ba_list T.f_list (gs_cons (ga_var (i := 0)) gs_nil)) go_none (go_some ga_int))) (gg_name (i := 3) sc__law_store.nd) (gb_cons (gs_set (i := 4) sc__law_store.nd (ga_mod (ga_bty ba_int T.f_int (gs_cons (ga_blt ba_abs T.f_abs (gs_cons (ga_bty ba_int T.f_int (gs_cons (ga_var (i := 3)) gs_nil)) gs_nil)) gs_nil)) (ga_var (i := 1))))
    (gb_cons (gs_set (i := 5) sc__law_store.nd (ga_bty ba_int T.f_int (gs_cons (ga_cmp ca_lt (ga_var (i := 3)) ga_int) gs_nil)))
    (gb_cons (gs_asg (ga_call h__law_mix (hr.mono (by decide)) tk (gs_cons (ga_add (ga_add (ga_ix (ga_var (i := 2)) ga_int) (ga_mul (ga_var (i := 4)) ga_int)) (ga_var (i := 5))) gs_nil)) (gg_subL (ga_var (i := 2)) ga_int))
    (gb_one (gs_if (gt_cmp ca_ge (ga_var (i := 4)) (ga_pow ga_int ga_int)) (gb_one (gs_expr (ga_mL ml_append (ga_var (i := 2)) (gs_cons (ga_var (i := 4)) gs_nil)))) (gb_one (gs_expr (ga_mL ml_append (ga_var (i := 2)) (gs_cons (ga_mod (ga_bty ba_int T.f_int (gs_cons (ga_call h__law_mix (hr.mono (by decide)) tk (gs_cons (ga_sub (ga_add (ga_add (ga_mul (ga_var (i := 4)) ga_int) (ga_mul (ga_var (i := 5)) ga_int)) (ga_blt ba_len T.f_len (gs_cons (ga_var (i := 2)) gs_nil))) ga_int) gs_nil)) gs_nil)) (ga_pow ga_int ga_int)) gs_nil))))))))))
    (gb_one (gs_ret (ga_var (i := 2)))))))⟩

theorem tm__law_take (T : Tx K mg P w base) (h__law_mix : Fn0 P w K mg base "_law_mix" 1 sp__law_mix) {fd : FuncData} {ad : Addr} (F : FunD K "_law_take" "_law_take" (defArgs st__law_take) (defBody st__law_take) (defScope st__law_take) [] [] ad fd)
    (len : ∀ ds A q e, sp__law_take ds A q e → ds.length = 2) (pure : ∀ ds A q x, sp__law_take ds A q x → (as__law_take) (endsA q x) (startA ["store", "many", "found"] ds) A) : FnA P w K mg base 2 ad fd ["store", "many"] sp__law_take := by
  refine fnA_of F sc__law_take len (fun cdv A outer s H E hr tk hp => ?_) pure
  have hu := hr.units
  exact ⟨_, (gb_cons (gs_if (gt_cmp ca_lt (ga_var (i := 1)) ga_int) (gb_one (gs_ret ga_int)) gb_nil)
    (gb_cons (gs_if (gt_bool (gw_and (gt_cmp (ca_eq hu) (ga_ix (ga_var (i := 0)) ga_int) ga_int) (gw_and1 (gt_cmp ca_lt (ga_ix (ga_var (i := 0)) ga_int) (ga_blt ba_len T.f_len (gs_cons (ga_var (i := 0)) gs_nil)))))) (gb_cons (gs_asg (ga_ix (ga_var (i := 0)) (ga_ix (ga_var (i := 0)) ga_int)) (gg_subL (ga_var (i := 0)) ga_int))
    (gb_cons (gs_asg (ga_add (ga_ix (ga_var (i := 0)) ga_int) ga_int) (gg_subL (ga_var (i := 0)) ga_int))
    (gb_cons (gs_asg (ga_bty ba_int T.f_int (gs_cons (ga_cmp ca_ge (ga_ix (ga_var (i := 0)) ga_int) (ga_pow ga_int ga_int)) gs_nil)) (gg_subL (ga_var (i := 0)) ga_int))
    (gb_one (gs_asg (ga_add ga_int (ga_mul ga_int (ga_ix (ga_var (i := 0)) ga_int))) (gg_subL (ga_var (i := 0)) ga_int)))))) gb_nil)
    (gb_cons (gs_asg (ga_add (ga_ix (ga_var (i := 0)) ga_int) ga_int) (gg_subL (ga_var (i := 0)) ga_int))
    (gb_cons (gs_if (gt_cmp (ca_eq hu) (ga_ix (ga_var (i := 0)) ga_int) ga_int) (gb_one (gs_ret (ga_mod (ga_bty ba_int T.f_int (gs_cons (ga_call h__law_mix (hr.mono (by decide)) tk (gs_cons (ga_call h__law_mix (hr.mono (by decide)) tk (gs_cons (ga_add (ga_ix (ga_var (i := 0)) ga_int) (ga_mul (ga_ix (ga_var (i := 0)) ga_int) ga_int)) gs_nil)) gs_nil)) gs_nil)) (ga_var (i := 1))))) gb_nil)
    (gb_cons (gs_asg (ga_sub (ga_ix (ga_var (i := 0)) ga_int) ga_int) (gg_subL (ga_var (i := 0)) ga_int))
    (gb_cons (gs_if (gt_cmp (ca_eq hu) (ga_ix (ga_var (i := 0)) ga_int) ga_int) (gb_one (gs_ret (ga_mod (ga_bty ba_int T.f_int (gs_cons (ga_call h__law_mix (hr.mono (by decide)) tk (gs_cons (ga_call h__law_mix (hr.mono (by decide)) tk (gs_cons (ga_add (ga_mul (ga_ix (ga_var (i := 0)) ga_int) ga_int) (ga_ix (ga_var (i := 0)) ga_int)) gs_nil)) gs_nil)) gs_nil)) (ga_var (i := 1))))) gb_nil)
    (gb_cons (gs_set (i := 2) sc__law_take.nd (ga_mod (ga_bty ba_int T.f_int (gs_cons (ga_ix (ga_var (i := 0)) ga_int) gs_nil)) (ga_var (i := 1))))
    (gb_cons (gs_asg (ga_div (ga_ix (ga_var (i := 0)) ga_int) (ga_var (i := 1))) (gg_subL (ga_var (i := 0)) ga_int))
    (gb_cons (gs_if (gt_cmp (ca_eq hu) (ga_ix (ga_var (i := 0)) ga_int) ga_int) (gb_one (gs_asg ga_int (gg_subL (ga_var (i := 0)) ga_int))) gb_nil)
    (gb_one (gs_ret (ga_var (i := 2)))))))))))))⟩

theorem tm_check_name (T : Tx K mg P w base) (h_is_name : Fn0 P w K mg base "is_name" 1 sp_is_name) {fd : FuncData} {ad : Addr} (F : FunD K "check_name" "check_name" (defArgs st_check_name) (defBody st_check_name) (defScope st_check_name) [] [] ad fd)
    (len : ∀ ds A q e, sp_check_name ds A q e → ds.length = 1) (pure : ∀ ds A q x, sp_check_name ds A q x → (as_check_name) (endsA q x) (startA ["name"] ds) A) : FnA P w K mg base 3 ad fd ["name"] sp_check_name := by
  refine fnA_of F sc_check_name len (fun cdv A outer s H E hr tk hp => ?_) pure
  have hu := hr.units
  exact ⟨_, (gb_cons (gs_if (gt_not (gt_val (ga_call h_is_name (hr.mono (by decide)) tk (gs_cons (ga_var (i := 0)) gs_nil)))) (gb_one (gs_raise T.x_BadName (hr.mono (by decide)) rfl tk (gs_cons (ga_var (i := 0)) gs_nil))) gb_nil)
    (gb_one (gs_ret (ga_var (i := 0)))))⟩

theorem tm_check_known_lot (T : Tx K mg P w base) {fd : FuncData} {ad : Addr} (F : FunD K "check_known_lot" "check_known_lot" (defArgs st_check_known_lot) (defBody st_check_known_lot) (defScope st_check_known_lot) [] [] ad fd)
    (len : ∀ ds A q e, sp_check_known_lot ds A q e → ds.length = 2) (pure : ∀ ds A q x, sp_check_known_lot ds A q x → (as_check_known_lot) (endsA q x) (startA ["lines", "lot", "index"] ds) A) : FnA P w K mg base 3 ad fd ["lines", "lot"] sp_check_known_lot := by
  refine fnA_of F sc_check_known_lot len (fun cdv A outer s H E hr tk hp => ?_) pure
  have hu := hr.units
  exact ⟨_, (gb_cons (gs_if (gt_cmp (ca_eq hu) (ga_blt ba_len T.f_len (gs_cons (ga_var (i := 1)) gs_nil)) ga_int) (gb_one (gs_raise T.x_BadLot (hr.mono (by decide)) rfl tk (gs_cons ga_int gs_nil))) gb_nil)
    (gb_cons (gs_for hp rfl (gi_rng1 (gs_cons (ga_blt ba_len T.f_len (gs_cons (ga_var (i := 1)) gs_nil)) gs_nil) T.f_range) (gg_name (i := 2) sc_check_known_lot.nd) (gb_cons (gs_if (gt_cmp ca_ni (ga_ix (ga_var (i := 1)) (ga_var (i := 2))) (ga_var (i := 0))) (gb_one (gs_raise T.x_NoSuchLine (hr.mono (by decide)) rfl tk (gs_cons (ga_ix (ga_var (i := 1)) (ga_var (i := 2))) gs_nil))) gb_nil)
    (gb_one (gs_if (gt_bool (gw_and (gt_cmp ca_gt (ga_var (i := 2)) ga_int) (gw_and1 (gt_cmp ca_le (ga_ix (ga_var (i := 1)) (ga_var (i := 2))) (ga_ix (ga_var (i := 1)) (ga_sub (ga_var (i := 2)) ga_int)))))) (gb_one (gs_raise T.x_BadLot (hr.mono (by decide)) rfl tk (gs_cons (ga_var (i := 2)) gs_nil))) gb_nil))))
    (gb_one (gs_ret (ga_var (i := 1))))))⟩

theorem tm__law_pick (T : Tx K mg P w base) (h__law_take : Fn0 P w K mg base "_law_take" 2 sp__law_take) {fd : FuncData} {ad : Addr} (F : FunD K "_law_pick" "_law_pick" (defArgs st__law_pick) (defBody st__law_pick) (defScope st__law_pick) [] [] ad fd)
    (len : ∀ ds A q e, sp__law_pick ds A q e → ds.length = 2) (pure : ∀ ds A q x, sp__law_pick ds A q x → (as__law_pick) (endsA q x) (startA ["store", "items"] ds) A) : FnA P w K mg base 3 ad fd ["store", "items"] sp__law_pick := by
  refine fnA_of F sc__law_pick len (fun cdv A outer s H E hr tk hp => ?_) pure
  have hu := hr.units
  exact ⟨_, (gb_one (gs_ret (ga_ix (ga_var (i := 1)) (ga_call h__law_take (hr.mono (by decide)) tk (gs_cons (ga_var (i := 0)) (gs_cons (ga_blt ba_len T.f_len (gs_cons (ga_var (i := 1)) gs_nil)) gs_nil))))))⟩

theorem tm__law_number (T : Tx K mg P w base) (h__law_take : Fn0 P w K mg base "_law_take" 2 sp__law_take) {fd : FuncData} {ad : Addr} (F : FunD K "_law_number" "_law_number" (defArgs st__law_number) (defBody st__law_number) (defScope st__law_number) [] [] ad fd)
    (len : ∀ ds A q e, sp__law_number ds A q e → ds.length = 3) (pure : ∀ ds A q x, sp__law_number ds A q x → (as__law_number) (endsA q x) (startA ["store", "least", "most", "span", "way", "value", "k"] ds) A) : FnA P w K mg base 3 ad fd ["store", "least", "most"] sp__law_number := by
  refine fnA_of F sc__law_number len (fun cdv A outer s H E hr tk hp => ?_) pure
  have hu := hr.units
  exact ⟨_, (gb_cons (gs_set (i := 3) sc__law_number.nd (ga_add (ga_sub (ga_var (i := 2)) (ga_var (i := 1))) ga_int))
    (gb_cons (gs_set (i := 4) sc__law_number.nd (ga_call h__law_take (hr.mono (by decide)) tk (gs_cons (ga_var (i := 0)) (gs_cons ga_int gs_nil))))
    (gb_cons (gs_if (gt_cmp (ca_eq hu) (ga_var (i := 4)) ga_int) (gb_one (gs_ret (ga_var (i := 1)))) gb_nil)
    (gb_cons (gs_if (gt_cmp (ca_eq hu) (ga_var (i := 4)) ga_int) (gb_one (gs_ret (ga_var (i := 2)))) gb_nil)
    (gb_cons (gs_if (gt_cmp (ca_eq hu) (ga_var (i := 4)) ga_int) (gb_one (gs_ret (ga_add (ga_var (i := 1)) (ga_call h__law_take (hr.mono (by decide)) tk (gs_cons (ga_var (i := 0)) (gs_cons (ga_blt (ba_min2 rfl) T.f_min (gs_cons (ga_var (i := 3)) (gs_cons ga_int gs_nil))) gs_nil)))))) gb_nil)
    (gb_cons (gs_if (gt_cmp ca_le (ga_var (i := 3)) (ga_pow ga_int ga_int)) (gb_one (gs_ret (ga_add (ga_var (i := 1)) (ga_call h__law_take (hr.mono (by decide)) tk (gs_cons (ga_var (i := 0)) (gs_cons (ga_var (i := 3)) gs_nil)))))) gb_nil)
    (gb_cons (gs_set (i := 5) sc__law_number.nd ga_int)
    (gb_cons (gs_for hp rfl (gi_rng1 (gs_cons ga_int gs_nil) T.f_range) (gg_name (i := 6) sc__law_number.nd) (gb_one (gs_set (i := 5) sc__law_number.nd (ga_add (ga_mul (ga_var (i := 5)) (ga_pow ga_int ga_int)) (ga_call h__law_take (hr.mono (by decide)) tk (gs_cons (ga_var (i := 0)) (gs_cons (ga_pow ga_int ga_int) gs_nil)))))))
    (gb_one (gs_ret (ga_add (ga_var (i := 1)) (ga_mod (ga_bty ba_int T.f_int (gs_cons (ga_var (i := 5)) gs_nil)) (ga_var (i := 3))))))))))))))⟩

theorem tm_check_free_lot (T : Tx K mg P w base) (h_check_name : Fn0 P w K mg base "check_name" 3 sp_check_name) {fd : FuncData} {ad : Addr} (F : FunD K "check_free_lot" "check_free_lot" (defArgs st_check_free_lot) (defBody st_check_free_lot) (defScope st_check_free_lot) [] [] ad fd)
    (len : ∀ ds A q e, sp_check_free_lot ds A q e → ds.length = 1) (pure : ∀ ds A q x, sp_check_free_lot ds A q x → (as_check_free_lot) (endsA q x) (startA ["lot", "index"] ds) A) : FnA P w K mg base 4 ad fd ["lot"] sp_check_free_lot := by
  refine fnA_of F sc_check_free_lot len (fun cdv A outer s H E hr tk hp => ?_) pure
  have hu := hr.units
  exact ⟨_, (gb_cons (gs_if (gt_cmp (ca_eq hu) (ga_blt ba_len T.f_len (gs_cons (ga_var (i := 0)) gs_nil)) ga_int) (gb_one (gs_raise T.x_BadLot (hr.mono (by decide)) rfl tk (gs_cons ga_int gs_nil))) gb_nil)
    (gb_cons (gs_for hp rfl (gi_rng1 (gs_cons (ga_blt ba_len T.f_len (gs_cons (ga_var (i := 0)) gs_nil)) gs_nil) T.f_range) (gg_name (i := 1) sc_check_free_lot.nd) (gb_cons (gs_expr (ga_call h_check_name (hr.mono (by decide)) tk (gs_cons (ga_ix (ga_var (i := 0)) (ga_var (i := 1))) gs_nil)))
    (gb_one (gs_if (gt_bool (gw_and (gt_cmp ca_gt (ga_var (i := 1)) ga_int) (gw_and1 (gt_cmp ca_le (ga_ix (ga_var (i := 0)) (ga_var (i := 1))) (ga_ix (ga_var (i := 0)) (ga_sub (ga_var (i := 1)) ga_int)))))) (gb_one (gs_raise T.x_BadLot (hr.mono (by decide)) rfl tk (gs_cons (ga_var (i := 1)) gs_nil))) gb_nil))))
    (gb_one (gs_ret (ga_var (i := 0))))))⟩

theorem tm_lot_of (T : Tx K mg P w base) (h_check_name : Fn0 P w K mg base "check_name" 3 sp_check_name) {fd : FuncData} {ad : Addr} (F : FunD K "lot_of" "lot_of" (defArgs st_lot_of) (defBody st_lot_of) (defScope st_lot_of) [] [] ad fd)
    (len : ∀ ds A q e, sp_lot_of ds A q e → ds.length = 1) (pure : ∀ ds A q x, sp_lot_of ds A q x → (as_lot_of) (endsA q x) (startA ["names", "found", "name"] ds) A) : FnA P w K mg base 4 ad fd ["names"] sp_lot_of := by
  refine fnA_of F sc_lot_of len (fun cdv A outer s H E hr tk hp => ?_) pure
  have hu := hr.units
  exact ⟨_, (gb_cons (gs_if (gt_cmp (ca_eq hu) (ga_blt ba_len T.f_len (gs_cons (ga_var (i := 0)) gs_nil)) ga_int) (gb_one (gs_raise T.x_BadLot (hr.mono (by decide)) rfl tk (gs_cons ga_int gs_nil))) gb_nil)
    (gb_cons (gs_set (i := 1) sc_lot_of.nd ga_dnew)
    (gb_cons (gs_for hp rfl (gi_seq (ga_var (i := 0))) (gg_name (i := 2) sc_lot_of.nd) (gb_cons (gs_expr (ga_call h_check_name (hr.mono (by decide)) tk (gs_cons (ga_var (i := 2)) gs_nil)))
    (gb_one (gs_dput hu (ga_var (i := 1)) (ga_var (i := 2)) ga_bl))))
    (gb_one (gs_ret (ga_bty ba_tuple T.f_tuple (gs_cons (ga_blt (ba_sortK rfl) T.f_sorted (gs_cons (ga_var (i := 1)) gs_nil)) gs_nil)))))))⟩

theorem tm__law_name (T : Tx K mg P w base) (h__law_take : Fn0 P w K mg base "_law_take" 2 sp__law_take) (h__law_pick : Fn0 P w K mg base "_law_pick" 3 sp__law_pick) {fd : FuncData} {ad : Addr} (F : FunD K "_law_name" "_law_name" (defArgs st__law_name) (defBody st__law_name) (defScope st__law_name) [] [] ad fd)
    (len : ∀ ds A q e, sp__law_name ds A q e → ds.length = 1) (pure : ∀ ds A q x, sp__law_name ds A q x → (as__law_name) (endsA q x) (startA ["store", "letters", "way", "size", "name", "k", "sign"] ds) A) : FnA P w K mg base 4 ad fd ["store"] sp__law_name := by
  refine fnA_of F sc__law_name len (fun cdv A outer s H E hr tk hp => ?_) pure
  have hu := hr.units
  exact ⟨_, (gb_cons (gs_set (i := 1) sc__law_name.nd ga_str)
    (gb_cons (gs_set (i := 2) sc__law_name.nd (ga_call h__law_take (hr.mono (by decide)) tk (gs_cons (ga_var (i := 0)) (gs_cons ga_int gs_nil))))
    (gb_cons (gs_if (gt_cmp (ca_eq hu) (ga_var (i := 2)) ga_int) (gb_one (gs_ret (ga_call h__law_pick (hr.mono (by decide)) tk (gs_cons (ga_var (i := 0)) (gs_cons (ga_var (i := 1)) gs_nil))))) gb_nil)
    (gb_cons (gs_if (gt_cmp (ca_eq hu) (ga_var (i := 2)) ga_int) (gb_one (gs_ret (ga_add (ga_call h__law_pick (hr.mono (by decide)) tk (gs_cons (ga_var (i := 0)) (gs_cons (ga_var (i := 1)) gs_nil))) (ga_bty ba_str T.f_str (gs_cons (ga_call h__law_take (hr.mono (by decide)) tk (gs_cons (ga_var (i := 0)) (gs_cons ga_int gs_nil))) gs_nil))))) gb_nil)
    (gb_cons (gs_if (gt_cmp (ca_eq hu) (ga_var (i := 2)) ga_int) (gb_one (gs_ret (ga_call h__law_pick (hr.mono (by decide)) tk (gs_cons (ga_var (i := 0)) (gs_cons (ga_lst (gs_cons ga_str (gs_cons ga_str (gs_cons ga_str (gs_cons ga_str (gs_cons ga_str (gs_cons ga_str (gs_cons ga_str (gs_cons ga_str (gs_cons ga_str gs_nil)))))))))) gs_nil))))) gb_nil)
    (gb_cons (gs_set (i := 3) sc__law_name.nd ga_int)
    (gb_cons (gs_if (gt_cmp ca_gt (ga_var (i := 2)) ga_int) (gb_one (gs_set (i := 3) sc__law_name.nd (ga_add ga_int (ga_call h__law_take (hr.mono (by decide)) tk (gs_cons (ga_var (i := 0)) (gs_cons ga_int gs_nil)))))) gb_nil)
    (gb_cons (gs_set (i := 4) sc__law_name.nd (ga_call h__law_pick (hr.mono (by decide)) tk (gs_cons (ga_var (i := 0)) (gs_cons (ga_var (i := 1)) gs_nil))))
    (gb_cons (gs_for hp rfl (gi_rng1 (gs_cons (ga_sub (ga_var (i := 3)) ga_int) gs_nil) T.f_range) (gg_name (i := 5) sc__law_name.nd) (gb_cons (gs_set (i := 6) sc__law_name.nd (ga_call h__law_pick (hr.mono (by decide)) tk (gs_cons (ga_var (i := 0)) (gs_cons (ga_add (ga_var (i := 1)) ga_str) gs_nil))))
    (gb_cons (gs_if (gt_bool (gw_and (gt_cmp (ca_eq hu) (ga_var (i := 6)) ga_str) (gw_and1 (gt_bool (gw_or (gt_cmp (ca_eq hu) (ga_ix (ga_var (i := 4)) (ga_neg ga_int)) ga_str) (gw_or1 (gt_cmp (ca_eq hu) (ga_var (i := 5)) (ga_sub (ga_var (i := 3)) ga_int)))))))) (gb_one (gs_set (i := 6) sc__law_name.nd ga_str)) gb_nil)
    (gb_one (gs_set (i := 4) sc__law_name.nd (ga_add (ga_var (i := 4)) (ga_var (i := 6))))))))
    (gb_cons (gs_if (gt_cmp ca_in (ga_var (i := 4)) (ga_lst (gs_cons ga_str (gs_cons ga_str (gs_cons ga_str (gs_cons ga_str (gs_cons ga_str gs_nil))))))) (gb_one (gs_set (i := 4) sc__law_name.nd (ga_add (ga_var (i := 4)) ga_str))) gb_nil)
    (gb_one (gs_ret (ga_var (i := 4))))))))))))))⟩

theorem tm__law_nonname (T : Tx K mg P w base) (h__law_pick : Fn0 P w K mg base "_law_pick" 3 sp__law_pick) (h__law_take : Fn0 P w K mg base "_law_take" 2 sp__law_take) {fd : FuncData} {ad : Addr} (F : FunD K "_law_nonname" "_law_nonname" (defArgs st__law_nonname) (defBody st__law_nonname) (defScope st__law_nonname) [] [] ad fd)
    (len : ∀ ds A q e, sp__law_nonname ds A q e → ds.length = 1) (pure : ∀ ds A q x, sp__law_nonname ds A q x → (as__law_nonname) (endsA q x) (startA ["store", "letters", "base", "way", "figure"] ds) A) : FnA P w K mg base 4 ad fd ["store"] sp__law_nonname := by
  refine fnA_of F sc__law_nonname len (fun cdv A outer s H E hr tk hp => ?_) pure
  have hu := hr.units
  exact ⟨_, (gb_cons (gs_set (i := 1) sc__law_nonname.nd ga_str)
    (gb_cons (gs_set (i := 2) sc__law_nonname.nd (ga_add (ga_call h__law_pick (hr.mono (by decide)) tk (gs_cons (ga_var (i := 0)) (gs_cons (ga_var (i := 1)) gs_nil))) (ga_call h__law_pick (hr.mono (by decide)) tk (gs_cons (ga_var (i := 0)) (gs_cons (ga_var (i := 1)) gs_nil)))))
    (gb_cons (gs_set (i := 3) sc__law_nonname.nd (ga_call h__law_take (hr.mono (by decide)) tk (gs_cons (ga_var (i := 0)) (gs_cons ga_int gs_nil))))
    (gb_cons (gs_if (gt_cmp (ca_eq hu) (ga_var (i := 3)) ga_int) (gb_one (gs_ret ga_str)) gb_nil)
    (gb_cons (gs_if (gt_cmp (ca_eq hu) (ga_var (i := 3)) ga_int) (gb_one (gs_ret (ga_call h__law_pick (hr.mono (by decide)) tk (gs_cons (ga_var (i := 0)) (gs_cons (ga_lst (gs_cons ga_str (gs_cons ga_str (gs_cons ga_str (gs_cons ga_str (gs_cons ga_str gs_nil)))))) gs_nil))))) gb_nil)
    (gb_cons (gs_if (gt_cmp (ca_eq hu) (ga_var (i := 3)) ga_int) (gb_one (gs_ret (ga_add (ga_add (ga_var (i := 2)) (ga_call h__law_pick (hr.mono (by decide)) tk (gs_cons (ga_var (i := 0)) (gs_cons ga_str gs_nil)))) (ga_var (i := 2))))) gb_nil)
    (gb_cons (gs_if (gt_cmp (ca_eq hu) (ga_var (i := 3)) ga_int) (gb_one (gs_ret (ga_call h__law_pick (hr.mono (by decide)) tk (gs_cons (ga_var (i := 0)) (gs_cons (ga_lst (gs_cons (ga_add ga_str (ga_var (i := 2))) (gs_cons (ga_add (ga_var (i := 2)) ga_str) (gs_cons (ga_add (ga_var (i := 2)) ga_str) (gs_cons (ga_add ga_str (ga_var (i := 2))) gs_nil))))) gs_nil))))) gb_nil)
    (gb_cons (gs_if (gt_cmp (ca_eq hu) (ga_var (i := 3)) ga_int) (gb_one (gs_ret (ga_add (ga_add (ga_ix (ga_var (i := 2)) ga_int) (ga_call h__law_pick (hr.mono (by decide)) tk (gs_cons (ga_var (i := 0)) (gs_cons ga_str gs_nil)))) (ga_ix (ga_var (i := 2)) ga_int)))) gb_nil)
    (gb_cons (gs_set (i := 4) sc__law_nonname.nd (ga_bty ba_str T.f_str (gs_cons (ga_call h__law_take (hr.mono (by decide)) tk (gs_cons (ga_var (i := 0)) (gs_cons ga_int gs_nil))) gs_nil)))
    (gb_one (gs_ret (ga_ix (ga_lst (gs_cons ga_str (gs_cons ga_str (gs_cons (ga_add (ga_var (i := 2)) ga_str) (gs_cons (ga_add (ga_var (i := 4)) (ga_var (i := 2))) (gs_cons (ga_add ga_str (ga_var (i := 2))) (gs_cons (ga_add (ga_var (i := 2)) ga_str) (gs_cons (ga_add (ga_add (ga_var (i := 2)) ga_str) (ga_var (i := 2))) (gs_cons (ga_mul (ga_var (i := 2)) ga_int) gs_nil))))))))) (ga_var (i := 3))))))))))))))⟩

theorem tm__law_word (T : Tx K mg P w base) (h__law_take : Fn0 P w K mg base "_law_take" 2 sp__law_take) (h__law_pick : Fn0 P w K mg base "_law_pick" 3 sp__law_pick) (h__law_number : Fn0 P w K mg base "_law_number" 3 sp__law_number) {fd : FuncData} {ad : Addr} (F : FunD K "_law_word" "_law_word" (defArgs st__law_word) (defBody st__law_word) (defScope st__law_word) [] [] ad fd)
    (len : ∀ ds A q e, sp__law_word ds A q e → ds.length = 3) (pure : ∀ ds A q x, sp__law_word ds A q x → (as__law_word) (endsA q x) (startA ["store", "lines", "most", "way", "line", "found", "k"] ds) A) : FnA P w K mg base 4 ad fd ["store", "lines", "most"] sp__law_word := by
  refine fnA_of F sc__law_word len (fun cdv A outer s H E hr tk hp => ?_) pure
  have hu := hr.units
  exact ⟨_, (gb_cons (gs_set (i := 3) sc__law_word.nd (ga_call h__law_take (hr.mono (by decide)) tk (gs_cons (ga_var (i := 0)) (gs_cons ga_int gs_nil))))
    (gb_cons (gs_set (i := 4) sc__law_word.nd (ga_call h__law_pick (hr.mono (by decide)) tk (gs_cons (ga_var (i := 0)) (gs_cons (ga_var (i := 1)) gs_nil))))
    (gb_cons (gs_set (i := 5) sc__law_word.nd (ga_lst gs_nil))
    (gb_cons (gs_for hp rfl (gi_rng1 (gs_cons (ga_call h__law_number (hr.mono (by decide)) tk (gs_cons (ga_var (i := 0)) (gs_cons ga_int (gs_cons (ga_var (i := 2)) gs_nil)))) gs_nil) T.f_range) (gg_name (i := 6) sc__law_word.nd) (gb_cons (gs_if (gt_cmp ca_gt (ga_var (i := 3)) ga_int) (gb_one (gs_set (i := 4) sc__law_word.nd (ga_call h__law_pick (hr.mono (by decide)) tk (gs_cons (ga_var (i := 0)) (gs_cons (ga_var (i := 1)) gs_nil))))) gb_nil)
    (gb_one (gs_expr (ga_mL ml_append (ga_var (i := 5)) (gs_cons (ga_var (i := 4)) gs_nil))))))
    (gb_one (gs_ret (ga_bty ba_tuple T.f_tuple (gs_cons (ga_var (i := 5)) gs_nil))))))))⟩

theorem tm__law_badnumber (T : Tx K mg P w base) (h__law_pick : Fn0 P w K mg base "_law_pick" 3 sp__law_pick) {fd : FuncData} {ad : Addr} (F : FunD K "_law_badnumber" "_law_badnumber" (defArgs st__law_badnumber) (defBody st__law_badnumber) (defScope st__law_badnumber) [] [] ad fd)
    (len : ∀ ds A q e, sp__law_badnumber ds A q e → ds.length = 3) (pure : ∀ ds A q x, sp__law_badnumber ds A q x → (as__law_badnumber) (endsA q x) (startA ["store", "least", "most", "bad"] ds) A) : FnA P w K mg base 4 ad fd ["store", "least", "most"] sp__law_badnumber := by
  refine fnA_of F sc__law_badnumber len (fun cdv A outer s H E hr tk hp => ?_) pure
  have hu := hr.units
  exact ⟨_, (gb_cons (gs_set (i := 3) sc__law_badnumber.nd (ga_call h__law_pick (hr.mono (by decide)) tk (gs_cons (ga_var (i := 0)) (gs_cons (ga_lst (gs_cons (ga_sub (ga_var (i := 1)) ga_int) (gs_cons (ga_add (ga_var (i := 2)) ga_int) (gs_cons (ga_sub (ga_var (i := 1)) ga_int) (gs_cons (ga_add (ga_var (i := 2)) ga_int) (gs_cons (ga_neg (ga_pow ga_int ga_int)) (gs_cons (ga_pow ga_int ga_int) gs_nil))))))) gs_nil))))
    (gb_one (gs_ret (ga_lst (gs_cons (ga_var (i := 3)) (gs_cons ga_str (gs_cons (ga_tup (gs_cons (ga_var (i := 3)) gs_nil)) gs_nil)))))))⟩

theorem tm_check_lines (T : Tx K mg P w base) (h_check_free_lot : Fn0 P w K mg base "check_free_lot" 4 sp_check_free_lot) {fd : FuncData} {ad : Addr} (F : FunD K "check_lines" "check_lines" (defArgs st_check_lines) (defBody st_check_lines) (defScope st_check_lines) [] [("most", .int 24)] ad fd)
    (len : ∀ ds A q e, sp_check_lines ds A q e → ds.length = 2) (pure : ∀ ds A q x, sp_check_lines ds A q x → (as_check_lines) (endsA q x) (startA ["lines", "most"] ds) A) : FnA P w K mg base 5 ad fd ["lines", "most"] sp_check_lines := by
  refine fnA_of F sc_check_lines len (fun cdv A outer s H E hr tk hp => ?_) pure
  have hu := hr.units
  exact ⟨_, (gb_cons (gs_if (gt_cmp (ca_eq hu) (ga_blt ba_len T.f_len (gs_cons (ga_var (i := 0)) gs_nil)) ga_int) (gb_one (gs_raise T.x_BadLot (hr.mono (by decide)) rfl tk (gs_cons ga_int gs_nil))) gb_nil)
    (gb_cons (gs_if (gt_cmp ca_gt (ga_blt ba_len T.f_len (gs_cons (ga_var (i := 0)) gs_nil)) (ga_var (i := 1))) (gb_one (gs_raise T.x_TooMany (hr.mono (by decide)) rfl tk (gs_cons ga_str (gs_cons (ga_var (i := 1)) gs_nil)))) gb_nil)
    (gb_one (gs_ret (ga_call h_check_free_lot (hr.mono (by decide)) tk (gs_cons (ga_var (i := 0)) gs_nil))))))⟩

theorem tm__law_lines (T : Tx K mg P w base) (h__law_take : Fn0 P w K mg base "_law_take" 2 sp__law_take) (h__law_unlike : Fn0 P w K mg base "_law_unlike" 1 sp__law_unlike) (h__law_name : Fn0 P w K mg base "_law_name" 4 sp__law_name) {fd : FuncData} {ad : Addr} (F : FunD K "_law_lines" "_law_lines" (defArgs st__law_lines) (defBody st__law_lines) (defScope st__law_lines) [] [] ad fd)
    (len : ∀ ds A q e, sp__law_lines ds A q e → ds.length = 2) (pure : ∀ ds A q x, sp__law_lines ds A q x → (as__law_lines) (endsA q x) (startA ["store", "many", "letters", "way", "at", "found", "k"] ds) A) : FnA P w K mg base 5 ad fd ["store", "many"] sp__law_lines := by
  refine fnA_of F sc__law_lines len (fun cdv A outer s H E hr tk hp => ?_) pure
  have hu := hr.units
  exact ⟨_, (gb_cons (gs_set (i := 2) sc__law_lines.nd ga_str)
    (gb_cons (gs_set (i := 3) sc__law_lines.nd (ga_call h__law_take (hr.mono (by decide)) tk (gs_cons (ga_var (i := 0)) (gs_cons ga_int gs_nil))))
    (gb_cons (gs_set (i := 4) sc__law_lines.nd (ga_call h__law_take (hr.mono (by decide)) tk (gs_cons (ga_var (i := 0)) (gs_cons ga_int gs_nil))))
    (gb_cons (gs_set (i := 5) sc__law_lines.nd (ga_lst gs_nil))
    (gb_cons (gs_for hp rfl (gi_rng1 (gs_cons (ga_var (i := 1)) gs_nil) T.f_range) (gg_name (i := 6) sc__law_lines.nd) (gb_one (gs_if (gt_cmp (ca_eq hu) (ga_var (i := 3)) ga_int) (gb_one (gs_expr (ga_mL ml_append (ga_var (i := 5)) (gs_cons (ga_ix (ga_var (i := 2)) (ga_add (ga_mod (ga_var (i := 4)) ga_int) (ga_var (i := 6)))) gs_nil)))) (gb_one (gs_if (gt_cmp (ca_eq hu) (ga_var (i := 3)) ga_int) (gb_one (gs_expr (ga_mL ml_append (ga_var (i := 5)) (gs_cons (ga_add ga_str (ga_bty ba_str T.f_str (gs_cons (ga_add (ga_ix (ga_lst (gs_cons ga_int (gs_cons ga_int (gs_cons ga_int (gs_cons ga_int gs_nil))))) (ga_mod (ga_var (i := 4)) ga_int)) (ga_mul (ga_var (i := 6)) (ga_add (ga_div (ga_var (i := 4)) ga_int) ga_int))) gs_nil))) gs_nil)))) (gb_one (gs_if (gt_cmp (ca_eq hu) (ga_var (i := 3)) ga_int) (gb_one (gs_expr (ga_mL ml_append (ga_var (i := 5)) (gs_cons (ga_add (ga_add (ga_sl ga_str go_none (go_some (ga_var (i := 4)))) (ga_ix (ga_var (i := 2)) (ga_var (i := 6)))) (ga_sl ga_str (go_some (ga_var (i := 4))) go_none)) gs_nil)))) (gb_one (gs_if (gt_cmp (ca_eq hu) (ga_var (i := 3)) ga_int) (gb_one (gs_expr (ga_mL ml_append (ga_var (i := 5)) (gs_cons (ga_mul (ga_ix (ga_var (i := 2)) (ga_add (ga_var (i := 4)) (ga_div (ga_var (i := 6)) ga_int))) (ga_add (ga_mod (ga_var (i := 6)) ga_int) ga_int)) gs_nil)))) (gb_one (gs_if (gt_cmp (ca_eq hu) (ga_var (i := 3)) ga_int) (gb_one (gs_expr (ga_mL ml_append (ga_var (i := 5)) (gs_cons (ga_add (ga_add (ga_ix (ga_var (i := 2)) (ga_add (ga_sub ga_int (ga_var (i := 4))) (ga_div (ga_var (i := 6)) ga_int))) ga_str) (ga_ix (ga_var (i := 2)) (ga_mod (ga_var (i := 6)) ga_int))) gs_nil)))) (gb_one (gs_expr (ga_mL ml_append (ga_var (i := 5)) (gs_cons (ga_call h__law_unlike (hr.mono (by decide)) tk (gs_cons (ga_call h__law_name (hr.mono (by decide)) tk (gs_cons (ga_var (i := 0)) gs_nil)) (gs_cons (ga_var (i := 5)) gs_nil))) gs_nil)))))))))))))))
    (gb_one (gs_ret (ga_bty ba_tuple T.f_tuple (gs_cons (ga_blt ba_sorted T.f_sorted (gs_cons (ga_var (i := 5)) gs_nil)) gs_nil)))))))))⟩

theorem tm__law_badlines (T : Tx K mg P w base) (h__law_take : Fn0 P w K mg base "_law_take" 2 sp__law_take) (h__law_nonname : Fn0 P w K mg base "_law_nonname" 4 sp__law_nonname) {fd : FuncData} {ad : Addr} (F : FunD K "_law_badlines" "_law_badlines" (defArgs st__law_badlines) (defBody st__law_badlines) (defScope st__law_badlines) [] [] ad fd)
    (len : ∀ ds A q e, sp__law_badlines ds A q e → ds.length = 3) (pure : ∀ ds A q x, sp__law_badlines ds A q x → (as__law_badlines) (endsA q x) (startA ["store", "lines", "most", "way", "at", "bad", "k"] ds) A) : FnA P w K mg base 5 ad fd ["store", "lines", "most"] sp__law_badlines := by
  refine fnA_of F sc__law_badlines len (fun cdv A outer s H E hr tk hp => ?_) pure
  have hu := hr.units
  exact ⟨_, (gb_cons (gs_set (i := 3) sc__law_badlines.nd (ga_call h__law_take (hr.mono (by decide)) tk (gs_cons (ga_var (i := 0)) (gs_cons ga_int gs_nil))))
    (gb_cons (gs_set (i := 4) sc__law_badlines.nd (ga_call h__law_take (hr.mono (by decide)) tk (gs_cons (ga_var (i := 0)) (gs_cons (ga_blt ba_len T.f_len (gs_cons (ga_var (i := 1)) gs_nil)) gs_nil))))
    (gb_cons (gs_if (gt_cmp (ca_eq hu) (ga_var (i := 3)) ga_int) (gb_one (gs_ret (ga_lst (gs_cons (ga_tup gs_nil) (gs_cons ga_str (gs_cons (ga_tup (gs_cons ga_int gs_nil)) gs_nil)))))) gb_nil)
    (gb_cons (gs_if (gt_cmp (ca_eq hu) (ga_var (i := 3)) ga_int) (gb_one (gs_ret (ga_lst (gs_cons (ga_bty ba_tuple T.f_tuple (gs_cons (ga_lc (own := [("k", 6)]) rfl sc__law_badlines.nd (gi_rng1 (gs_cons (ga_add (ga_add (ga_var (i := 2)) ga_int) (ga_var (i := 4))) gs_nil) T.f_range) (show BlkOk ["store", "lines", "most", "way", "at", "bad", "k"] (defScope st__law_badlines) _ [("k", 6)] from ⟨rfl, by decide +kernel, by decide +kernel, by decide +kernel, by decide +kernel⟩) (fun s H C cl fp => (gg_name (i := 6) sc__law_badlines.nd)) (fun s H C cl fp => gts_nil) (fun s H C cl fp => (ga_add ga_str (ga_bty ba_str T.f_str (gs_cons (ga_add ga_int (ga_var (i := 6))) gs_nil)))) (tw_name (by decide))) gs_nil)) (gs_cons ga_str (gs_cons (ga_tup (gs_cons ga_str (gs_cons (ga_var (i := 2)) gs_nil))) gs_nil)))))) gb_nil)
    (gb_cons (gs_if (gt_cmp (ca_eq hu) (ga_var (i := 3)) ga_int) (gb_cons (gs_set (i := 5) sc__law_badlines.nd (ga_call h__law_nonname (hr.mono (by decide)) tk (gs_cons (ga_var (i := 0)) gs_nil)))
    (gb_one (gs_ret (ga_lst (gs_cons (ga_add (ga_add (ga_bty ba_tuple T.f_tuple (gs_cons (ga_sl (ga_var (i := 1)) go_none (go_some (ga_var (i := 4)))) gs_nil)) (ga_tup (gs_cons (ga_var (i := 5)) gs_nil))) (ga_bty ba_tuple T.f_tuple (gs_cons (ga_sl (ga_var (i := 1)) (go_some (ga_add (ga_var (i := 4)) ga_int)) go_none) gs_nil))) (gs_cons ga_str (gs_cons (ga_tup (gs_cons (ga_var (i := 5)) gs_nil)) gs_nil))))))) gb_nil)
    (gb_cons (gs_if (gt_bool (gw_and (gt_cmp (ca_eq hu) (ga_var (i := 3)) ga_int) (gw_and1 (gt_cmp ca_gt (ga_blt ba_len T.f_len (gs_cons (ga_var (i := 1)) gs_nil)) ga_int)))) (gb_cons (gs_set (i := 4) sc__law_badlines.nd (ga_blt (ba_max2 rfl) T.f_max (gs_cons (ga_var (i := 4)) (gs_cons ga_int gs_nil))))
    (gb_one (gs_ret (ga_lst (gs_cons (ga_add (ga_add (ga_bty ba_tuple T.f_tuple (gs_cons (ga_sl (ga_var (i := 1)) go_none (go_some (ga_sub (ga_var (i := 4)) ga_int))) gs_nil)) (ga_tup (gs_cons (ga_ix (ga_var (i := 1)) (ga_var (i := 4))) (gs_cons (ga_ix (ga_var (i := 1)) (ga_sub (ga_var (i := 4)) ga_int)) gs_nil)))) (ga_bty ba_tuple T.f_tuple (gs_cons (ga_sl (ga_var (i := 1)) (go_some (ga_add (ga_var (i := 4)) ga_int)) go_none) gs_nil))) (gs_cons ga_str (gs_cons (ga_tup (gs_cons (ga_var (i := 4)) gs_nil)) gs_nil))))))) gb_nil)
    (gb_cons (gs_if (gt_cmp (ca_eq hu) (ga_blt ba_len T.f_len (gs_cons (ga_var (i := 1)) gs_nil)) (ga_var (i := 2))) (gb_one (gs_ret (ga_if (gt_cmp ca_gt (ga_var (i := 2)) ga_int) (ga_lst (gs_cons (ga_tup (gs_cons ga_str (gs_cons ga_str gs_nil))) (gs_cons ga_str (gs_cons (ga_tup (gs_cons ga_int gs_nil)) gs_nil)))) (ga_lst (gs_cons (ga_tup gs_nil) (gs_cons ga_str (gs_cons (ga_tup (gs_cons ga_int gs_nil)) gs_nil))))))) gb_nil)
    (gb_one (gs_ret (ga_lst (gs_cons (ga_add (ga_bty ba_tuple T.f_tuple (gs_cons (ga_sl (ga_var (i := 1)) go_none (go_some (ga_add (ga_var (i := 4)) ga_int))) gs_nil)) (ga_bty ba_tuple T.f_tuple (gs_cons (ga_sl (ga_var (i := 1)) (go_some (ga_var (i := 4))) go_none) gs_nil))) (gs_cons ga_str (gs_cons (ga_tup (gs_cons (ga_add (ga_var (i := 4)) ga_int) gs_nil)) gs_nil)))))))))))))⟩

theorem tm__law_lotspoilt (T : Tx K mg P w base) (h__law_lotof : Fn0 P w K mg base "_law_lotof" 1 sp__law_lotof) (h__law_number : Fn0 P w K mg base "_law_number" 3 sp__law_number) (h__law_take : Fn0 P w K mg base "_law_take" 2 sp__law_take) (h__law_nonname : Fn0 P w K mg base "_law_nonname" 4 sp__law_nonname) (h__law_unlike : Fn0 P w K mg base "_law_unlike" 1 sp__law_unlike) (h__law_name : Fn0 P w K mg base "_law_name" 4 sp__law_name) {fd : FuncData} {ad : Addr} (F : FunD K "_law_lotspoilt" "_law_lotspoilt" (defArgs st__law_lotspoilt) (defBody st__law_lotspoilt) (defScope st__law_lotspoilt) [] [] ad fd)
    (len : ∀ ds A q e, sp__law_lotspoilt ds A q e → ds.length = 3) (pure : ∀ ds A q x, sp__law_lotspoilt ds A q x → (as__law_lotspoilt) (endsA q x) (startA ["store", "lines", "top", "lot", "at", "way", "strange"] ds) A) : FnA P w K mg base 5 ad fd ["store", "lines", "top"] sp__law_lotspoilt := by
  refine fnA_of F sc__law_lotspoilt len (fun cdv A outer s H E hr tk hp => ?_) pure
  have hu := hr.units
  exact ⟨_, (gb_cons (gs_set (i := 3) sc__law_lotspoilt.nd (ga_bty ba_list T.f_list (gs_cons (ga_call h__law_lotof (hr.mono (by decide)) tk (gs_cons (ga_var (i := 1)) (gs_cons (ga_call h__law_number (hr.mono (by decide)) tk (gs_cons (ga_var (i := 0)) (gs_cons ga_int (gs_cons (ga_var (i := 2)) gs_nil)))) gs_nil))) gs_nil)))
    (gb_cons (gs_set (i := 4) sc__law_lotspoilt.nd (ga_call h__law_take (hr.mono (by decide)) tk (gs_cons (ga_var (i := 0)) (gs_cons (ga_blt ba_len T.f_len (gs_cons (ga_var (i := 3)) gs_nil)) gs_nil))))
    (gb_cons (gs_set (i := 5) sc__law_lotspoilt.nd (ga_call h__law_take (hr.mono (by decide)) tk (gs_cons (ga_var (i := 0)) (gs_cons ga_int gs_nil))))
    (gb_cons (gs_set (i := 6) sc__law_lotspoilt.nd (ga_call h__law_nonname (hr.mono (by decide)) tk (gs_cons (ga_var (i := 0)) gs_nil)))
    (gb_cons (gs_if (gt_cmp (ca_eq hu) (ga_call h__law_take (hr.mono (by decide)) tk (gs_cons (ga_var (i := 0)) (gs_cons ga_int gs_nil))) ga_int) (gb_one (gs_set (i := 6) sc__law_lotspoilt.nd (ga_call h__law_unlike (hr.mono (by decide)) tk (gs_cons (ga_call h__law_name (hr.mono (by decide)) tk (gs_cons (ga_var (i := 0)) gs_nil)) (gs_cons (ga_bty ba_list T.f_list (gs_cons (ga_var (i := 1)) gs_nil)) gs_nil))))) gb_nil)
    (gb_cons (gs_if (gt_cmp (ca_eq hu) (ga_var (i := 5)) ga_int) (gb_one (gs_ret (ga_lst (gs_cons (ga_tup gs_nil) (gs_cons ga_str (gs_cons (ga_tup (gs_cons ga_int gs_nil)) gs_nil)))))) gb_nil)
    (gb_cons (gs_if (gt_cmp (ca_eq hu) (ga_var (i := 5)) ga_int) (gb_one (gs_ret (ga_lst (gs_cons (ga_bty ba_tuple T.f_tuple (gs_cons (ga_add (ga_add (ga_sl (ga_var (i := 3)) go_none (go_some (ga_add (ga_var (i := 4)) ga_int))) (ga_sl (ga_var (i := 3)) (go_some (ga_var (i := 4))) go_none)) (ga_lst (gs_cons (ga_var (i := 6)) gs_nil))) gs_nil)) (gs_cons ga_str (gs_cons (ga_tup (gs_cons (ga_add (ga_var (i := 4)) ga_int) gs_nil)) gs_nil)))))) gb_nil)
    (gb_cons (gs_if (gt_bool (gw_and (gt_cmp (ca_eq hu) (ga_var (i := 5)) ga_int) (gw_and1 (gt_cmp ca_gt (ga_blt ba_len T.f_len (gs_cons (ga_var (i := 3)) gs_nil)) ga_int)))) (gb_cons (gs_set (i := 4) sc__law_lotspoilt.nd (ga_blt (ba_max2 rfl) T.f_max (gs_cons (ga_var (i := 4)) (gs_cons ga_int gs_nil))))
    (gb_one (gs_ret (ga_lst (gs_cons (ga_bty ba_tuple T.f_tuple (gs_cons (ga_add (ga_add (ga_sl (ga_var (i := 3)) go_none (go_some (ga_sub (ga_var (i := 4)) ga_int))) (ga_lst (gs_cons (ga_ix (ga_var (i := 3)) (ga_var (i := 4))) (gs_cons (ga_ix (ga_var (i := 3)) (ga_sub (ga_var (i := 4)) ga_int)) gs_nil)))) (ga_sl (ga_var (i := 3)) (go_some (ga_add (ga_var (i := 4)) ga_int)) go_none)) gs_nil)) (gs_cons ga_str (gs_cons (ga_tup (gs_cons (ga_var (i := 4)) gs_nil)) gs_nil))))))) gb_nil)
    (gb_one (gs_ret (ga_lst (gs_cons (ga_bty ba_tuple T.f_tuple (gs_cons (ga_add (ga_add (ga_sl (ga_var (i := 3)) go_none (go_some (ga_var (i := 4)))) (ga_lst (gs_cons (ga_var (i := 6)) gs_nil))) (ga_sl (ga_var (i := 3)) (go_some (ga_add (ga_var (i := 4)) (ga_call h__law_take (hr.mono (by decide)) tk (gs_cons (ga_var (i := 0)) (gs_cons ga_int gs_nil))))) go_none)) gs_nil)) (gs_cons ga_str (gs_cons (ga_tup (gs_cons (ga_var (i := 6)) gs_nil)) gs_nil))))))))))))))⟩

theorem tm_lots_of (T : Tx K mg P w base) (h_check_lines : FnK0 P w K mg base "check_lines" 5 sp_check_lines 1 ["most"] [.int 24] [.int 24]) (h_lots_of_size : Fn0 P w K mg base "lots_of_size" 1 sp_lots_of_size) {fd : FuncData} {ad : Addr} (F : FunD K "lots_of" "lots_of" (defArgs st_lots_of) (defBody st_lots_of) (defScope st_lots_of) [] [] ad fd)
    (len : ∀ ds A q e, sp_lots_of ds A q e → ds.length = 2) (pure : ∀ ds A q x, sp_lots_of ds A q x → (as_lots_of) (endsA q x) (startA ["lines", "size"] ds) A) : FnA P w K mg base 6 ad fd ["lines", "size"] sp_lots_of := by
  refine fnA_of F sc_lots_of len (fun cdv A outer s H E hr tk hp => ?_) pure
  have hu := hr.units
  exact ⟨_, (gb_cons (gs_expr (ga_callD h_check_lines (hr.mono (by decide)) tk (gs_cons (ga_var (i := 0)) gs_nil)))
    (gb_cons (gs_if (gt_not (gt_chain ca_le ca_le ga_int (ga_var (i := 1)) ga_int)) (gb_one (gs_raise T.x_BadNumber (hr.mono (by decide)) rfl tk (gs_cons (ga_var (i := 1)) gs_nil))) gb_nil)
    (gb_one (gs_ret (ga_call h_lots_of_size (hr.mono (by decide)) tk (gs_cons (ga_var (i := 0)) (gs_cons (ga_var (i := 1)) gs_nil)))))))⟩

theorem tm_pairs_of (T : Tx K mg P w base) (h_check_lines : FnK0 P w K mg base "check_lines" 5 sp_check_lines 1 ["most"] [.int 24] [.int 24]) (h_lots_of_size : Fn0 P w K mg base "lots_of_size" 1 sp_lots_of_size) {fd : FuncData} {ad : Addr} (F : FunD K "pairs_of" "pairs_of" (defArgs st_pairs_of) (defBody st_pairs_of) (defScope st_pairs_of) [] [] ad fd)
    (len : ∀ ds A q e, sp_pairs_of ds A q e → ds.length = 1) (pure : ∀ ds A q x, sp_pairs_of ds A q x → (as_pairs_of) (endsA q x) (startA ["lines"] ds) A) : FnA P w K mg base 6 ad fd ["lines"] sp_pairs_of := by
  refine fnA_of F sc_pairs_of len (fun cdv A outer s H E hr tk hp => ?_) pure
  have hu := hr.units
  exact ⟨_, (gb_cons (gs_expr (ga_callD h_check_lines (hr.mono (by decide)) tk (gs_cons (ga_var (i := 0)) gs_nil)))
    (gb_one (gs_ret (ga_call h_lots_of_size (hr.mono (by decide)) tk (gs_cons (ga_var (i := 0)) (gs_cons ga_int gs_nil))))))⟩

theorem tm_sub_lots (T : Tx K mg P w base) (h_check_lines : FnK0 P w K mg base "check_lines" 5 sp_check_lines 1 ["most"] [.int 24] [.int 24]) (h_mask_end : Fn0 P w K mg base "mask_end" 1 sp_mask_end) (h_pick_lot : Fn0 P w K mg base "pick_lot" 1 sp_pick_lot) {fd : FuncData} {ad : Addr} (F : FunD K "sub_lots" "sub_lots" (defArgs st_sub_lots) (defBody st_sub_lots) (defScope st_sub_lots) [] [] ad fd)
    (len : ∀ ds A q e, sp_sub_lots ds A q e → ds.length = 1) (pure : ∀ ds A q x, sp_sub_lots ds A q x → (as_sub_lots) (endsA q x) (startA ["lines", "number"] ds) A) : FnA P w K mg base 6 ad fd ["lines"] sp_sub_lots := by
  refine fnA_of F sc_sub_lots len (fun cdv A outer s H E hr tk hp => ?_) pure
  have hu := hr.units
  exact ⟨_, (gb_cons (gs_expr (ga_callK h_check_lines (hr.mono (by decide)) tk (gs_cons (ga_var (i := 0)) gs_nil) (gk_cons ga_int gk_nil)))
    (gb_one (gs_ret (ga_bty ba_tuple T.f_tuple (gs_cons (ga_lc (own := [("number", 1)]) rfl sc_sub_lots.nd (gi_rng2 (gs_cons ga_int (gs_cons (ga_call h_mask_end (hr.mono (by decide)) tk (gs_cons (ga_var (i := 0)) gs_nil)) gs_nil)) T.f_range) (show BlkOk ["lines", "number"] (defScope st_sub_lots) _ [("number", 1)] from ⟨rfl, by decide +kernel, by decide +kernel, by decide +kernel, by decide +kernel⟩) (fun s H C cl fp => (gg_name (i := 1) sc_sub_lots.nd)) (fun s H C cl fp => gts_nil) (fun s H C cl fp => (ga_call h_pick_lot (hr.mono (by decide)) takesF (gs_cons (ga_var (i := 0)) (gs_cons (ga_var (i := 1)) gs_nil)))) (tw_name (by decide))) gs_nil)))))⟩

theorem tm_mask_of (T : Tx K mg P w base) (h_check_lines : FnK0 P w K mg base "check_lines" 5 sp_check_lines 1 ["most"] [.int 24] [.int 24]) (h_check_known_lot : Fn0 P w K mg base "check_known_lot" 3 sp_check_known_lot) {fd : FuncData} {ad : Addr} (F : FunD K "mask_of" "mask_of" (defArgs st_mask_of) (defBody st_mask_of) (defScope st_mask_of) [] [] ad fd)
    (len : ∀ ds A q e, sp_mask_of ds A q e → ds.length = 2) (pure : ∀ ds A q x, sp_mask_of ds A q x → (as_mask_of) (endsA q x) (startA ["lines", "lot", "mask", "weight", "name"] ds) A) : FnA P w K mg base 6 ad fd ["lines", "lot"] sp_mask_of := by
  refine fnA_of F sc_mask_of len (fun cdv A outer s H E hr tk hp => ?_) pure
  have hu := hr.units
  exact ⟨_, (gb_cons (gs_expr (ga_callD h_check_lines (hr.mono (by decide)) tk (gs_cons (ga_var (i := 0)) gs_nil)))
    (gb_cons (gs_expr (ga_call h_check_known_lot (hr.mono (by decide)) tk (gs_cons (ga_var (i := 0)) (gs_cons (ga_var (i := 1)) gs_nil))))
    (gb_cons (gs_set (i := 2) sc_mask_of.nd ga_int)
    (gb_cons (gs_set (i := 3) sc_mask_of.nd ga_int)
    (gb_cons (gs_for hp rfl (gi_seq (ga_var (i := 0))) (gg_name (i := 4) sc_mask_of.nd) (gb_cons (gs_if (gt_cmp ca_in (ga_var (i := 4)) (ga_var (i := 1))) (gb_one (gs_set (i := 2) sc_mask_of.nd (ga_add (ga_var (i := 2)) (ga_var (i := 3))))) gb_nil)
    (gb_one (gs_set (i := 3) sc_mask_of.nd (ga_mul (ga_var (i := 3)) ga_int)))))
    (gb_one (gs_ret (ga_var (i := 2)))))))))⟩

theorem tm_lot_of_mask (T : Tx K mg P w base) (h_check_lines : FnK0 P w K mg base "check_lines" 5 sp_check_lines 1 ["most"] [.int 24] [.int 24]) (h_mask_end : Fn0 P w K mg base "mask_end" 1 sp_mask_end) (h_pick_lot : Fn0 P w K mg base "pick_lot" 1 sp_pick_lot) {fd : FuncData} {ad : Addr} (F : FunD K "lot_of_mask" "lot_of_mask" (defArgs st_lot_of_mask) (defBody st_lot_of_mask) (defScope st_lot_of_mask) [] [] ad fd)
    (len : ∀ ds A q e, sp_lot_of_mask ds A q e → ds.length = 2) (pure : ∀ ds A q x, sp_lot_of_mask ds A q x → (as_lot_of_mask) (endsA q x) (startA ["lines", "number"] ds) A) : FnA P w K mg base 6 ad fd ["lines", "number"] sp_lot_of_mask := by
  refine fnA_of F sc_lot_of_mask len (fun cdv A outer s H E hr tk hp => ?_) pure
  have hu := hr.units
  exact ⟨_, (gb_cons (gs_expr (ga_callD h_check_lines (hr.mono (by decide)) tk (gs_cons (ga_var (i := 0)) gs_nil)))
    (gb_cons (gs_if (gt_not (gt_chain ca_le ca_lt ga_int (ga_var (i := 1)) (ga_call h_mask_end (hr.mono (by decide)) tk (gs_cons (ga_var (i := 0)) gs_nil)))) (gb_one (gs_raise T.x_BadNumber (hr.mono (by decide)) rfl tk (gs_cons (ga_var (i := 1)) gs_nil))) gb_nil)
    (gb_one (gs_ret (ga_call h_pick_lot (hr.mono (by decide)) tk (gs_cons (ga_var (i := 0)) (gs_cons (ga_var (i := 1)) gs_nil)))))))⟩

theorem tm__law_ask (T : Tx K mg P w base) (h_check_lines : FnK0 P w K mg base "check_lines" 5 sp_check_lines 1 ["most"] [.int 24] [.int 24]) (h_lots_of : Fn0 P w K mg base "lots_of" 6 sp_lots_of) (h_pairs_of : Fn0 P w K mg base "pairs_of" 6 sp_pairs_of) (h_sub_lots : Fn0 P w K mg base "sub_lots" 6 sp_sub_lots) (h_mask_of : Fn0 P w K mg base "mask_of" 6 sp_mask_of) (h_lot_of_mask : Fn0 P w K mg base "lot_of_mask" 6 sp_lot_of_mask) (h_lot_of : Fn0 P w K mg base "lot_of" 4 sp_lot_of) {fd : FuncData} {ad : Addr} (F : FunD K "_law_ask" "_law_ask" (defArgs st__law_ask) (defBody st__law_ask) (defScope st__law_ask) [] [] ad fd)
    (len : ∀ ds A q e, sp__law_ask ds A q e → ds.length = 3) (pure : ∀ ds A q x, sp__law_ask ds A q x → (as__law_ask) (endsA q x) (startA ["word", "lines", "thing"] ds) A) : FnA P w K mg base 7 ad fd ["word", "lines", "thing"] sp__law_ask := by
  refine fnA_of F sc__law_ask len (fun cdv A outer s H E hr tk hp => ?_) pure
  have hu := hr.units
  exact ⟨_, (gb_cons (gs_if (gt_cmp (ca_eq hu) (ga_var (i := 0)) ga_str) (gb_one (gs_ret (ga_callD h_check_lines (hr.mono (by decide)) tk (gs_cons (ga_var (i := 1)) gs_nil)))) gb_nil)
    (gb_cons (gs_if (gt_cmp (ca_eq hu) (ga_var (i := 0)) ga_str) (gb_one (gs_ret (ga_callK h_check_lines (hr.mono (by decide)) tk (gs_cons (ga_var (i := 1)) gs_nil) (gk_cons (ga_var (i := 2)) gk_nil)))) gb_nil)
    (gb_cons (gs_if (gt_cmp (ca_eq hu) (ga_var (i := 0)) ga_str) (gb_one (gs_ret (ga_call h_lots_of (hr.mono (by decide)) tk (gs_cons (ga_var (i := 1)) (gs_cons (ga_var (i := 2)) gs_nil))))) gb_nil)
    (gb_cons (gs_if (gt_cmp (ca_eq hu) (ga_var (i := 0)) ga_str) (gb_one (gs_ret (ga_call h_pairs_of (hr.mono (by decide)) tk (gs_cons (ga_var (i := 1)) gs_nil)))) gb_nil)
    (gb_cons (gs_if (gt_cmp (ca_eq hu) (ga_var (i := 0)) ga_str) (gb_one (gs_ret (ga_call h_sub_lots (hr.mono (by decide)) tk (gs_cons (ga_var (i := 1)) gs_nil)))) gb_nil)
    (gb_cons (gs_if (gt_cmp (ca_eq hu) (ga_var (i := 0)) ga_str) (gb_one (gs_ret (ga_call h_mask_of (hr.mono (by decide)) tk (gs_cons (ga_var (i := 1)) (gs_cons (ga_var (i := 2)) gs_nil))))) gb_nil)
    (gb_cons (gs_if (gt_cmp (ca_eq hu) (ga_var (i := 0)) ga_str) (gb_one (gs_ret (ga_call h_lot_of_mask (hr.mono (by decide)) tk (gs_cons (ga_var (i := 1)) (gs_cons (ga_var (i := 2)) gs_nil))))) gb_nil)
    (gb_one (gs_ret (ga_call h_lot_of (hr.mono (by decide)) tk (gs_cons (ga_var (i := 1)) gs_nil)))))))))))⟩

theorem tm__law_masksgood (T : Tx K mg P w base) (h__law_number : Fn0 P w K mg base "_law_number" 3 sp__law_number) (h__law_lotof : Fn0 P w K mg base "_law_lotof" 1 sp__law_lotof) (h__law_equal : Fn0 P w K mg base "_law_equal" 1 sp__law_equal) (h_lot_of_mask : Fn0 P w K mg base "lot_of_mask" 6 sp_lot_of_mask) (h_mask_of : Fn0 P w K mg base "mask_of" 6 sp_mask_of) {fd : FuncData} {ad : Addr} (F : FunD K "_law_masksgood" "_law_masksgood" (defArgs st__law_masksgood) (defBody st__law_masksgood) (defScope st__law_masksgood) [] [] ad fd)
    (len : ∀ ds A q e, sp__law_masksgood ds A q e → ds.length = 3) (pure : ∀ ds A q x, sp__law_masksgood ds A q x → (as__law_masksgood) (endsA q x) (startA ["store", "lines", "top", "numbers", "k", "number", "lot"] ds) A) : FnA P w K mg base 7 ad fd ["store", "lines", "top"] sp__law_masksgood := by
  refine fnA_of F sc__law_masksgood len (fun cdv A outer s H E hr tk hp => ?_) pure
  have hu := hr.units
  exact ⟨_, (gb_cons (gs_set (i := 3) sc__law_masksgood.nd (ga_lst (gs_cons ga_int (gs_cons (ga_var (i := 2)) (gs_cons (ga_add (ga_div (ga_var (i := 2)) ga_int) ga_int) gs_nil)))))
    (gb_cons (gs_for hp rfl (gi_rng1 (gs_cons ga_int gs_nil) T.f_range) (gg_name (i := 4) sc__law_masksgood.nd) (gb_one (gs_expr (ga_mL ml_append (ga_var (i := 3)) (gs_cons (ga_call h__law_number (hr.mono (by decide)) tk (gs_cons (ga_var (i := 0)) (gs_cons ga_int (gs_cons (ga_var (i := 2)) gs_nil)))) gs_nil)))))
    (gb_cons (gs_if (gt_cmp ca_lt (ga_var (i := 2)) ga_int) (gb_one (gs_set (i := 3) sc__law_masksgood.nd (ga_lrng2 rfl ga_int (ga_add (ga_var (i := 2)) ga_int) T.f_range T.f_list))) gb_nil)
    (gb_cons (gs_for hp rfl (gi_seq (ga_var (i := 3))) (gg_name (i := 5) sc__law_masksgood.nd) (gb_cons (gs_set (i := 6) sc__law_masksgood.nd (ga_call h__law_lotof (hr.mono (by decide)) tk (gs_cons (ga_var (i := 1)) (gs_cons (ga_var (i := 5)) gs_nil))))
    (gb_one (gs_if (gt_bool (gw_or (gt_not (gt_val (ga_call h__law_equal (hr.mono (by decide)) tk (gs_cons (ga_call h_lot_of_mask (hr.mono (by decide)) tk (gs_cons (ga_var (i := 1)) (gs_cons (ga_var (i := 5)) gs_nil))) (gs_cons (ga_var (i := 6)) gs_nil))))) (gw_or1 (gt_not (gt_val (ga_call h__law_equal (hr.mono (by decide)) tk (gs_cons (ga_call h_mask_of (hr.mono (by decide)) tk (gs_cons (ga_var (i := 1)) (gs_cons (ga_var (i := 6)) gs_nil))) (gs_cons (ga_var (i := 5)) gs_nil)))))))) (gb_one (gs_ret ga_bl)) gb_nil))))
    (gb_one (gs_ret ga_bl))))))⟩

theorem tm__law_refused (T : Tx K mg P w base) (h__law_ask : Fn0 P w K mg base "_law_ask" 7 sp__law_ask) (hh__law_equal : FnH0 P w K mg base excs "_law_equal" 1 hsp__law_equal) (hh__law_toldof : FnH0 P w K mg base excs "_law_toldof" 1 hsp__law_toldof) {fd : FuncData} {ad : Addr} (F : FunD K "_law_refused" "_law_refused" (defArgs st__law_refused) (defBody st__law_refused) (defScope st__law_refused) [] [] ad fd)
    (len : ∀ ds A q e, sp__law_refused ds A q e → ds.length = 4) (pure : ∀ ds A q x, sp__law_refused ds A q x → (as__law_refused) (endsA q x) (startA ["word", "lines", "thing", "due", "e"] ds) A) : FnA P w K mg base 8 ad fd ["word", "lines", "thing", "due"] sp__law_refused := by
  refine fnA_of F sc__law_refused len (fun cdv A outer s H E hr tk hp => ?_) pure
  have hu := hr.units
  exact ⟨_, (gb_cons (gs_try (i := 4) (names := excs) rfl rfl sc__law_refused.nd rfl rfl ⟨rfl, by decide, .inl T.n_GrantError⟩ T.exm takesF (fun W pn xe tk hp => (gb_one (gs_expr (ga_call h__law_ask (hr.mono (by decide)) tk (gs_cons (ga_var (i := 0)) (gs_cons (ga_var (i := 1)) (gs_cons (ga_var (i := 2)) gs_nil))))))) (fun a oe ε pn hcl hz hf => (gb_one (gs_ret (gh_call hh__law_equal hcl (L2H.roomH_mark hr _) (by decide) (hot_suite hz hf) List.mem_cons_self hz hf takesF (gs_cons (gh_call hh__law_toldof hcl (L2H.roomH_mark hr _) (by decide) (hot_suite hz hf) List.mem_cons_self hz hf takesF (gs_cons (ga_var (i := 4)) gs_nil)) (gs_cons (ga_var (i := 3)) gs_nil)))))))
    (gb_one (gs_ret ga_bl)))⟩

theorem tm__law_lotsgood (T : Tx K mg P w base) (h__law_lots : Fn0 P w K mg base "_law_lots" 1 sp__law_lots) (h__law_doubled : Fn0 P w K mg base "_law_doubled" 1 sp__law_doubled) (h_sub_lots : Fn0 P w K mg base "sub_lots" 6 sp_sub_lots) (h__law_refused : Fn0 P w K mg base "_law_refused" 8 sp__law_refused) (h_lots_of : Fn0 P w K mg base "lots_of" 6 sp_lots_of) (h__law_equal : Fn0 P w K mg base "_law_equal" 1 sp__law_equal) (h_pairs_of : Fn0 P w K mg base "pairs_of" 6 sp_pairs_of) (h_check_lines : FnK0 P w K mg base "check_lines" 5 sp_check_lines 1 ["most"] [.int 24] [.int 24]) {fd : FuncData} {ad : Addr} (F : FunD K "_law_lotsgood" "_law_lotsgood" (defArgs st__law_lotsgood) (defBody st__law_lotsgood) (defScope st__law_lotsgood) [] [] ad fd)
    (len : ∀ ds A q e, sp__law_lotsgood ds A q e → ds.length = 2) (pure : ∀ ds A q x, sp__law_lotsgood ds A q x → (as__law_lotsgood) (endsA q x) (startA ["lines", "size", "due", "every", "got", "lot"] ds) A) : FnA P w K mg base 9 ad fd ["lines", "size"] sp__law_lotsgood := by
  refine fnA_of F sc__law_lotsgood len (fun cdv A outer s H E hr tk hp => ?_) pure
  have hu := hr.units
  exact ⟨_, (gb_cons (gs_set (i := 2) sc__law_lotsgood.nd (ga_call h__law_lots (hr.mono (by decide)) tk (gs_cons (ga_var (i := 0)) (gs_cons (ga_var (i := 1)) gs_nil))))
    (gb_cons (gs_if (gt_cmp ca_lt (ga_blt ba_len T.f_len (gs_cons (ga_var (i := 0)) gs_nil)) ga_int) (gb_cons (gs_set (i := 3) sc__law_lotsgood.nd (ga_call h__law_doubled (hr.mono (by decide)) tk (gs_cons (ga_var (i := 0)) gs_nil)))
    (gb_cons (gs_set (i := 2) sc__law_lotsgood.nd (ga_bty ba_tuple T.f_tuple (gs_cons (ga_blt (ba_sortD hu) T.f_sorted (gs_cons (ga_lc (own := [("lot", 5)]) rfl sc__law_lotsgood.nd (gi_seq (ga_var (i := 3))) (show BlkOk ["lines", "size", "due", "every", "got", "lot"] (defScope st__law_lotsgood) _ [("lot", 5)] from ⟨rfl, by decide +kernel, by decide +kernel, by decide +kernel, by decide +kernel⟩) (fun s H C cl fp => (gg_name (i := 5) sc__law_lotsgood.nd)) (fun s H C cl fp => (gts_one (gt_cmp (ca_eq hu) (ga_blt ba_len T.f_len (gs_cons (ga_var (i := 5)) gs_nil)) (ga_var (i := 1))))) (fun s H C cl fp => (ga_var (i := 5))) (tw_name (by decide))) gs_nil)) gs_nil)))
    (gb_cons (gs_set (i := 4) sc__law_lotsgood.nd (ga_call h_sub_lots (hr.mono (by decide)) tk (gs_cons (ga_var (i := 0)) gs_nil)))
    (gb_one (gs_if (gt_bool (gw_or (gt_not (gt_val (ga_blt ba_isi T.f_isinstance (gs_cons (ga_var (i := 4)) (gs_cons (ga_bltn T.f_tuple (v := .ty "tuple") (u := .type "tuple") (by decide +kernel) rfl (fun _ => .ty _)) gs_nil))))) (gw_or1 (gt_cmp (ca_ne hu) (ga_var (i := 4)) (ga_bty ba_tuple T.f_tuple (gs_cons (ga_var (i := 3)) gs_nil)))))) (gb_one (gs_ret ga_bl)) gb_nil))))) (gb_one (gs_if (gt_not (gt_val (ga_call h__law_refused (hr.mono (by decide)) tk (gs_cons ga_str (gs_cons (ga_var (i := 0)) (gs_cons ga_int (gs_cons (ga_tup (gs_cons ga_str (gs_cons (ga_tup (gs_cons ga_str (gs_cons ga_int gs_nil))) gs_nil))) gs_nil))))))) (gb_one (gs_ret ga_bl)) gb_nil)))
    (gb_cons (gs_set (i := 4) sc__law_lotsgood.nd (ga_call h_lots_of (hr.mono (by decide)) tk (gs_cons (ga_var (i := 0)) (gs_cons (ga_var (i := 1)) gs_nil))))
    (gb_cons (gs_if (gt_bool (gw_or (gt_not (gt_val (ga_blt ba_isi T.f_isinstance (gs_cons (ga_var (i := 4)) (gs_cons (ga_bltn T.f_tuple (v := .ty "tuple") (u := .type "tuple") (by decide +kernel) rfl (fun _ => .ty _)) gs_nil))))) (gw_or1 (gt_cmp (ca_ne hu) (ga_var (i := 4)) (ga_var (i := 2)))))) (gb_one (gs_ret ga_bl)) gb_nil)
    (gb_one (gs_ret (ga_and (ga_call h__law_equal (hr.mono (by decide)) tk (gs_cons (ga_call h_pairs_of (hr.mono (by decide)) tk (gs_cons (ga_var (i := 0)) gs_nil)) (gs_cons (ga_call h__law_lots (hr.mono (by decide)) tk (gs_cons (ga_var (i := 0)) (gs_cons ga_int gs_nil))) gs_nil))) (ga_one (ga_call h__law_equal (hr.mono (by decide)) tk (gs_cons (ga_callD h_check_lines (hr.mono (by decide)) tk (gs_cons (ga_var (i := 0)) gs_nil)) (gs_cons (ga_var (i := 0)) gs_nil)))))))))))⟩

theorem tm__law_limits (T : Tx K mg P w base) (h__law_take : Fn0 P w K mg base "_law_take" 2 sp__law_take) (h__law_equal : Fn0 P w K mg base "_law_equal" 1 sp__law_equal) (h__law_ask : Fn0 P w K mg base "_law_ask" 7 sp__law_ask) (h__law_refused : Fn0 P w K mg base "_law_refused" 8 sp__law_refused) (h__law_word : Fn0 P w K mg base "_law_word" 4 sp__law_word) (h_lot_of : Fn0 P w K mg base "lot_of" 4 sp_lot_of) (h__law_nonname : Fn0 P w K mg base "_law_nonname" 4 sp__law_nonname) (h__law_pick : Fn0 P w K mg base "_law_pick" 3 sp__law_pick) {fd : FuncData} {ad : Addr} (F : FunD K "_law_limits" "_law_limits" (defArgs st__law_limits) (defBody st__law_limits) (defScope st__law_limits) [] [] ad fd)
    (len : ∀ ds A q e, sp__law_limits ds A q e → ds.length = 2) (pure : ∀ ds A q x, sp__law_limits ds A q x → (as__law_limits) (endsA q x) (startA ["store", "lines", "limit", "names", "due", "bad", "at", "spoilt", "line"] ds) A) : FnA P w K mg base 9 ad fd ["store", "lines"] sp__law_limits := by
  refine fnA_of F sc__law_limits len (fun cdv A outer s H E hr tk hp => ?_) pure
  have hu := hr.units
  exact ⟨_, (gb_cons (gs_set (i := 2) sc__law_limits.nd (ga_add (ga_blt ba_len T.f_len (gs_cons (ga_var (i := 1)) gs_nil)) (ga_call h__law_take (hr.mono (by decide)) tk (gs_cons (ga_var (i := 0)) (gs_cons (ga_sub ga_int (ga_blt ba_len T.f_len (gs_cons (ga_var (i := 1)) gs_nil))) gs_nil)))))
    (gb_cons (gs_if (gt_not (gt_val (ga_call h__law_equal (hr.mono (by decide)) tk (gs_cons (ga_call h__law_ask (hr.mono (by decide)) tk (gs_cons ga_str (gs_cons (ga_var (i := 1)) (gs_cons (ga_var (i := 2)) gs_nil)))) (gs_cons (ga_var (i := 1)) gs_nil))))) (gb_one (gs_ret ga_bl)) gb_nil)
    (gb_cons (gs_set (i := 2) sc__law_limits.nd (ga_blt (ba_max2 rfl) T.f_max (gs_cons ga_int (gs_cons (ga_sub (ga_sub (ga_blt ba_len T.f_len (gs_cons (ga_var (i := 1)) gs_nil)) ga_int) (ga_call h__law_take (hr.mono (by decide)) tk (gs_cons (ga_var (i := 0)) (gs_cons ga_int gs_nil)))) gs_nil))))
    (gb_cons (gs_if (gt_bool (gw_and (gt_cmp ca_lt (ga_var (i := 2)) (ga_blt ba_len T.f_len (gs_cons (ga_var (i := 1)) gs_nil))) (gw_and1 (gt_not (gt_val (ga_call h__law_refused (hr.mono (by decide)) tk (gs_cons ga_str (gs_cons (ga_var (i := 1)) (gs_cons (ga_var (i := 2)) (gs_cons (ga_tup (gs_cons ga_str (gs_cons (ga_tup (gs_cons ga_str (gs_cons (ga_var (i := 2)) gs_nil))) gs_nil))) gs_nil)))))))))) (gb_one (gs_ret ga_bl)) gb_nil)
    (gb_cons (gs_set (i := 3) sc__law_limits.nd (ga_call h__law_word (hr.mono (by decide)) tk (gs_cons (ga_var (i := 0)) (gs_cons (ga_var (i := 1)) (gs_cons ga_int gs_nil)))))
    (gb_cons (gs_if (gt_cmp (ca_eq hu) (ga_var (i := 3)) (ga_tup gs_nil)) (gb_one (gs_ret (ga_call h__law_refused (hr.mono (by decide)) tk (gs_cons ga_str (gs_cons (ga_tup gs_nil) (gs_cons ga_int (gs_cons (ga_tup (gs_cons ga_str (gs_cons (ga_tup (gs_cons ga_int gs_nil)) gs_nil))) gs_nil))))))) gb_nil)
    (gb_cons (gs_set (i := 4) sc__law_limits.nd (ga_bty ba_tuple T.f_tuple (gs_cons (ga_lc (own := [("line", 8)]) rfl sc__law_limits.nd (gi_seq (ga_var (i := 1))) (show BlkOk ["store", "lines", "limit", "names", "due", "bad", "at", "spoilt", "line"] (defScope st__law_limits) _ [("line", 8)] from ⟨rfl, by decide +kernel, by decide +kernel, by decide +kernel, by decide +kernel⟩) (fun s H C cl fp => (gg_name (i := 8) sc__law_limits.nd)) (fun s H C cl fp => (gts_one (gt_cmp ca_in (ga_var (i := 8)) (ga_var (i := 3))))) (fun s H C cl fp => (ga_var (i := 8))) (tw_name (by decide))) gs_nil)))
    (gb_cons (gs_if (gt_not (gt_val (ga_call h__law_equal (hr.mono (by decide)) tk (gs_cons (ga_call h_lot_of (hr.mono (by decide)) tk (gs_cons (ga_var (i := 3)) gs_nil)) (gs_cons (ga_var (i := 4)) gs_nil))))) (gb_one (gs_ret ga_bl)) gb_nil)
    (gb_cons (gs_set (i := 5) sc__law_limits.nd (ga_call h__law_nonname (hr.mono (by decide)) tk (gs_cons (ga_var (i := 0)) gs_nil)))
    (gb_cons (gs_set (i := 6) sc__law_limits.nd (ga_call h__law_take (hr.mono (by decide)) tk (gs_cons (ga_var (i := 0)) (gs_cons (ga_add (ga_blt ba_len T.f_len (gs_cons (ga_var (i := 3)) gs_nil)) ga_int) gs_nil))))
    (gb_cons (gs_set (i := 7) sc__law_limits.nd (ga_add (ga_add (ga_add (ga_sl (ga_var (i := 3)) go_none (go_some (ga_var (i := 6)))) (ga_tup (gs_cons (ga_var (i := 5)) gs_nil))) (ga_sl (ga_var (i := 3)) (go_some (ga_var (i := 6))) go_none)) (ga_tup (gs_cons (ga_call h__law_pick (hr.mono (by decide)) tk (gs_cons (ga_var (i := 0)) (gs_cons (ga_lst (gs_cons ga_str (gs_cons ga_str (gs_cons ga_str gs_nil)))) gs_nil))) gs_nil))))
    (gb_one (gs_ret (ga_call h__law_refused (hr.mono (by decide)) tk (gs_cons ga_str (gs_cons (ga_var (i := 7)) (gs_cons ga_int (gs_cons (ga_tup (gs_cons ga_str (gs_cons (ga_tup (gs_cons (ga_var (i := 5)) gs_nil)) gs_nil))) gs_nil))))))))))))))))))⟩

theorem tm__law_badthere (T : Tx K mg P w base) (h__law_pick : Fn0 P w K mg base "_law_pick" 3 sp__law_pick) (h__law_badlines : Fn0 P w K mg base "_law_badlines" 5 sp__law_badlines) (h__law_refused : Fn0 P w K mg base "_law_refused" 8 sp__law_refused) (h__law_nonname : Fn0 P w K mg base "_law_nonname" 4 sp__law_nonname) {fd : FuncData} {ad : Addr} (F : FunD K "_law_badthere" "_law_badthere" (defArgs st__law_badthere) (defBody st__law_badthere) (defScope st__law_badthere) [] [] ad fd)
    (len : ∀ ds A q e, sp__law_badthere ds A q e → ds.length = 2) (pure : ∀ ds A q x, sp__law_badthere ds A q x → (as__law_badthere) (endsA q x) (startA ["store", "lines", "things", "word", "thing", "limit", "bad", "wide"] ds) A) : FnA P w K mg base 9 ad fd ["store", "lines"] sp__law_badthere := by
  refine fnA_of F sc__law_badthere len (fun cdv A outer s H E hr tk hp => ?_) pure
  have hu := hr.units
  exact ⟨_, (gb_cons (gs_set (i := 2) sc__law_badthere.nd (ga_disp (gd_cons (ga_lst (gs_cons ga_int gs_nil)) (gd_cons (ga_lst (gs_cons ga_int (gs_cons ga_int (gs_cons ga_int gs_nil)))) (gd_cons (ga_lst (gs_cons (ga_sl (ga_var (i := 1)) go_none (go_some ga_int)) (gs_cons (ga_tup gs_nil) (gs_cons (ga_tup (gs_cons ga_str gs_nil)) gs_nil)))) (gd_cons (ga_lst (gs_cons ga_int (gs_cons ga_int (gs_cons (ga_neg ga_int) gs_nil)))) gd_nil))))))
    (gb_cons (gs_for hp rfl (gi_seq (ga_lst (gs_cons ga_str (gs_cons ga_str (gs_cons ga_str (gs_cons ga_str (gs_cons ga_str (gs_cons ga_str (gs_cons ga_str gs_nil))))))))) (gg_name (i := 3) sc__law_badthere.nd) (gb_cons (gs_set (i := 4) sc__law_badthere.nd (ga_call h__law_pick (hr.mono (by decide)) tk (gs_cons (ga_var (i := 0)) (gs_cons (ga_dget2 hu (ga_var (i := 2)) (ga_var (i := 3)) (ga_lst (gs_cons ga_int gs_nil))) gs_nil))))
    (gb_cons (gs_set (i := 5) sc__law_badthere.nd ga_int)
    (gb_cons (gs_if (gt_cmp (ca_eq hu) (ga_var (i := 3)) ga_str) (gb_one (gs_set (i := 5) sc__law_badthere.nd ga_int)) gb_nil)
    (gb_cons (gs_set (i := 6) sc__law_badthere.nd (ga_call h__law_badlines (hr.mono (by decide)) tk (gs_cons (ga_var (i := 0)) (gs_cons (ga_sl (ga_var (i := 1)) go_none (go_some (ga_var (i := 5)))) (gs_cons (ga_var (i := 5)) gs_nil)))))
    (gb_cons (gs_if (gt_not (gt_val (ga_call h__law_refused (hr.mono (by decide)) tk (gs_cons (ga_var (i := 3)) (gs_cons (ga_ix (ga_var (i := 6)) ga_int) (gs_cons (ga_var (i := 4)) (gs_cons (ga_tup (gs_cons (ga_ix (ga_var (i := 6)) ga_int) (gs_cons (ga_ix (ga_var (i := 6)) ga_int) gs_nil))) gs_nil))))))) (gb_one (gs_ret ga_bl)) gb_nil)
    (gb_cons (gs_set (i := 7) sc__law_badthere.nd (ga_mul (ga_tup (gs_cons (ga_call h__law_nonname (hr.mono (by decide)) tk (gs_cons (ga_var (i := 0)) gs_nil)) gs_nil)) (ga_add (ga_var (i := 5)) ga_int)))
    (gb_one (gs_if (gt_not (gt_val (ga_call h__law_refused (hr.mono (by decide)) tk (gs_cons (ga_var (i := 3)) (gs_cons (ga_var (i := 7)) (gs_cons (ga_var (i := 4)) (gs_cons (ga_tup (gs_cons ga_str (gs_cons (ga_tup (gs_cons ga_str (gs_cons (ga_var (i := 5)) gs_nil))) gs_nil))) gs_nil))))))) (gb_one (gs_ret ga_bl)) gb_nil)))))))))
    (gb_one (gs_ret ga_bl))))⟩

theorem tm__law_badbehind (T : Tx K mg P w base) (h__law_badnumber : Fn0 P w K mg base "_law_badnumber" 4 sp__law_badnumber) (h__law_refused : Fn0 P w K mg base "_law_refused" 8 sp__law_refused) (h__law_lotspoilt : Fn0 P w K mg base "_law_lotspoilt" 5 sp__law_lotspoilt) {fd : FuncData} {ad : Addr} (F : FunD K "_law_badbehind" "_law_badbehind" (defArgs st__law_badbehind) (defBody st__law_badbehind) (defScope st__law_badbehind) [] [] ad fd)
    (len : ∀ ds A q e, sp__law_badbehind ds A q e → ds.length = 3) (pure : ∀ ds A q x, sp__law_badbehind ds A q x → (as__law_badbehind) (endsA q x) (startA ["store", "lines", "top", "bad", "k"] ds) A) : FnA P w K mg base 9 ad fd ["store", "lines", "top"] sp__law_badbehind := by
  refine fnA_of F sc__law_badbehind len (fun cdv A outer s H E hr tk hp => ?_) pure
  have hu := hr.units
  exact ⟨_, (gb_cons (gs_set (i := 3) sc__law_badbehind.nd (ga_call h__law_badnumber (hr.mono (by decide)) tk (gs_cons (ga_var (i := 0)) (gs_cons ga_int (gs_cons ga_int gs_nil)))))
    (gb_cons (gs_if (gt_not (gt_val (ga_call h__law_refused (hr.mono (by decide)) tk (gs_cons ga_str (gs_cons (ga_var (i := 1)) (gs_cons (ga_ix (ga_var (i := 3)) ga_int) (gs_cons (ga_tup (gs_cons (ga_ix (ga_var (i := 3)) ga_int) (gs_cons (ga_ix (ga_var (i := 3)) ga_int) gs_nil))) gs_nil))))))) (gb_one (gs_ret ga_bl)) gb_nil)
    (gb_cons (gs_for hp rfl (gi_rng1 (gs_cons ga_int gs_nil) T.f_range) (gg_name (i := 4) sc__law_badbehind.nd) (gb_cons (gs_set (i := 3) sc__law_badbehind.nd (ga_call h__law_badnumber (hr.mono (by decide)) tk (gs_cons (ga_var (i := 0)) (gs_cons ga_int (gs_cons (ga_var (i := 2)) gs_nil)))))
    (gb_cons (gs_if (gt_not (gt_val (ga_call h__law_refused (hr.mono (by decide)) tk (gs_cons ga_str (gs_cons (ga_var (i := 1)) (gs_cons (ga_ix (ga_var (i := 3)) ga_int) (gs_cons (ga_tup (gs_cons (ga_ix (ga_var (i := 3)) ga_int) (gs_cons (ga_ix (ga_var (i := 3)) ga_int) gs_nil))) gs_nil))))))) (gb_one (gs_ret ga_bl)) gb_nil)
    (gb_cons (gs_set (i := 3) sc__law_badbehind.nd (ga_call h__law_lotspoilt (hr.mono (by decide)) tk (gs_cons (ga_var (i := 0)) (gs_cons (ga_var (i := 1)) (gs_cons (ga_var (i := 2)) gs_nil)))))
    (gb_one (gs_if (gt_not (gt_val (ga_call h__law_refused (hr.mono (by decide)) tk (gs_cons ga_str (gs_cons (ga_var (i := 1)) (gs_cons (ga_ix (ga_var (i := 3)) ga_int) (gs_cons (ga_tup (gs_cons (ga_ix (ga_var (i := 3)) ga_int) (gs_cons (ga_ix (ga_var (i := 3)) ga_int) gs_nil))) gs_nil))))))) (gb_one (gs_ret ga_bl)) gb_nil))))))
    (gb_one (gs_ret ga_bl)))))⟩

theorem tm_law (T : Tx K mg P w base) (h__law_store : Fn0 P w K mg base "_law_store" 2 sp__law_store) (h__law_number : Fn0 P w K mg base "_law_number" 3 sp__law_number) (h__law_take : Fn0 P w K mg base "_law_take" 2 sp__law_take) (h__law_lines : Fn0 P w K mg base "_law_lines" 5 sp__law_lines) (h__law_lotsgood : Fn0 P w K mg base "_law_lotsgood" 9 sp__law_lotsgood) (h__law_masksgood : Fn0 P w K mg base "_law_masksgood" 7 sp__law_masksgood) (h__law_limits : Fn0 P w K mg base "_law_limits" 9 sp__law_limits) (h__law_badthere : Fn0 P w K mg base "_law_badthere" 9 sp__law_badthere) (h__law_badbehind : Fn0 P w K mg base "_law_badbehind" 9 sp__law_badbehind) {fd : FuncData} {ad : Addr} (F : FunD K "law" "law" (defArgs st_law) (defBody st_law) (defScope st_law) [] [] ad fd)
    (len : ∀ ds A q e, sp_law ds A q e → ds.length = 1) (pure : ∀ ds A q x, sp_law ds A q x → (as_law) (endsA q x) (startA ["script", "store", "many", "lines", "size", "top", "line", "other"] ds) A) : FnA P w K mg base 10 ad fd ["script"] sp_law := by
  refine fnA_of F sc_law len (fun cdv A outer s H E hr tk hp => ?_) pure
  have hu := hr.units
  exact ⟨_, (gb_cons (gs_set (i := 1) sc_law.nd (ga_call h__law_store (hr.mono (by decide)) tk (gs_cons (ga_var (i := 0)) gs_nil)))
    (gb_cons (gs_set (i := 2) sc_law.nd (ga_call h__law_number (hr.mono (by decide)) tk (gs_cons (ga_var (i := 1)) (gs_cons ga_int (gs_cons ga_int gs_nil)))))
    (gb_cons (gs_if (gt_cmp (ca_eq hu) (ga_call h__law_take (hr.mono (by decide)) tk (gs_cons (ga_var (i := 1)) (gs_cons ga_int gs_nil))) ga_int) (gb_one (gs_set (i := 2) sc_law.nd (ga_call h__law_number (hr.mono (by decide)) tk (gs_cons (ga_var (i := 1)) (gs_cons ga_int (gs_cons ga_int gs_nil)))))) gb_nil)
    (gb_cons (gs_set (i := 3) sc_law.nd (ga_call h__law_lines (hr.mono (by decide)) tk (gs_cons (ga_var (i := 1)) (gs_cons (ga_var (i := 2)) gs_nil))))
    (gb_cons (gs_set (i := 4) sc_law.nd (ga_add ga_int (ga_call h__law_take (hr.mono (by decide)) tk (gs_cons (ga_var (i := 1)) (gs_cons ga_int gs_nil)))))
    (gb_cons (gs_set (i := 5) sc_law.nd ga_int)
    (gb_cons (gs_for hp rfl (gi_seq (ga_var (i := 3))) (gg_name (i := 6) sc_law.nd) (gb_one (gs_set (i := 5) sc_law.nd (ga_mul (ga_var (i := 5)) ga_int))))
    (gb_cons (gs_set (i := 5) sc_law.nd (ga_sub (ga_var (i := 5)) ga_int))
    (gb_cons (gs_set (i := 7) sc_law.nd (ga_call h__law_lines (hr.mono (by decide)) tk (gs_cons (ga_var (i := 1)) (gs_cons (ga_add ga_int (ga_call h__law_take (hr.mono (by decide)) tk (gs_cons (ga_var (i := 1)) (gs_cons ga_int gs_nil)))) gs_nil))))
    (gb_cons (gs_if (gt_bool (gw_or (gt_not (gt_val (ga_call h__law_lotsgood (hr.mono (by decide)) tk (gs_cons (ga_var (i := 3)) (gs_cons (ga_var (i := 4)) gs_nil))))) (gw_or1 (gt_not (gt_val (ga_call h__law_lotsgood (hr.mono (by decide)) tk (gs_cons (ga_var (i := 7)) (gs_cons (ga_add ga_int (ga_call h__law_take (hr.mono (by decide)) tk (gs_cons (ga_var (i := 1)) (gs_cons ga_int gs_nil)))) gs_nil)))))))) (gb_one (gs_ret ga_bl)) gb_nil)
    (gb_cons (gs_if (gt_bool (gw_or (gt_not (gt_val (ga_call h__law_masksgood (hr.mono (by decide)) tk (gs_cons (ga_var (i := 1)) (gs_cons (ga_var (i := 3)) (gs_cons (ga_var (i := 5)) gs_nil)))))) (gw_or1 (gt_not (gt_val (ga_call h__law_limits (hr.mono (by decide)) tk (gs_cons (ga_var (i := 1)) (gs_cons (ga_var (i := 3)) gs_nil)))))))) (gb_one (gs_ret ga_bl)) gb_nil)
    (gb_cons (gs_if (gt_bool (gw_or (gt_not (gt_val (ga_call h__law_badthere (hr.mono (by decide)) tk (gs_cons (ga_var (i := 1)) (gs_cons (ga_var (i := 3)) gs_nil))))) (gw_or1 (gt_not (gt_val (ga_call h__law_badbehind (hr.mono (by decide)) tk (gs_cons (ga_var (i := 1)) (gs_cons (ga_var (i := 3)) (gs_cons (ga_var (i := 5)) gs_nil))))))))) (gb_one (gs_ret ga_bl)) gb_nil)
    (gb_one (gs_ret (ga_call h__law_lotsgood (hr.mono (by decide)) tk (gs_cons (ga_var (i := 3)) (gs_cons (ga_var (i := 4)) gs_nil)))))))))))))))))⟩


end
def clsB (st : Stmt) : List Stmt := match st with
  | .ClassDef _ _ _ b _ _ _ _ _ _ _ => b
  | _ => []
abbrev in_BadName : Stmt := (clsB (top 2)).getD 0 (.Pass ⟨0, 0, 0, 0⟩)
abbrev in_BadLot : Stmt := (clsB (top 9)).getD 0 (.Pass ⟨0, 0, 0, 0⟩)
abbrev in_NoSuchLine : Stmt := (clsB (top 10)).getD 0 (.Pass ⟨0, 0, 0, 0⟩)
abbrev in_TooMany : Stmt := (clsB (top 7)).getD 0 (.Pass ⟨0, 0, 0, 0⟩)
abbrev in_BadNumber : Stmt := (clsB (top 12)).getD 0 (.Pass ⟨0, 0, 0, 0⟩)
def fx : List Fx := [.free "ValueError",
  .free "abs",
  .free "bool",
  .free "int",
  .free "isinstance",
  .free "len",
  .free "list",
  .free "max",
  .free "min",
  .free "range",
  .free "sorted",
  .free "str",
  .free "tuple",
  .tup "KEPT_WORDS" [.str "first", .str "back", .str "round", .str "let", .str "tree"],
  .str "LETTERS" "abcdefghijklmnopqrstuvwxyz",
  .str "NAME_SIGNS" "abcdefghijklmnopqrstuvwxyz0123456789.",
  .glo "GrantError",
  .glo "BadKind",
  .glo "BadLog",
  .glo "BadMachine",
  .glo "BadMatrix",
  .glo "BadMove",
  .glo "BadTable",
  .glo "BadText",
  .glo "BadTree",
  .glo "BadWish",
  .glo "Barred",
  .glo "LastLine",
  .glo "Mismatch",
  .glo "NoCover",
  .glo "NoEdit",
  .glo "NoGrant",
  .glo "NoSubtree",
  .glo "NoTree",
  .glo "Twice",
  .exc "BadName",
  .ini "BadName",
  .noat "BadName" "at",
  .noat "BadName" "limit",
  .noat "BadName" "name",
  .noat "BadName" "number",
  .noat "BadName" "what",
  .exm "BadName" "GrantError",
  .kit "BadName" "GrantError" true,
  .kit "BadName" "BadName" true,
  .kit "BadName" "TooMany" false,
  .kit "BadName" "BadLot" false,
  .kit "BadName" "NoSuchLine" false,
  .kit "BadName" "BadNumber" false,
  .kit "BadName" "BadKind" false,
  .kit "BadName" "BadLog" false,
  .kit "BadName" "BadMachine" false,
  .kit "BadName" "BadMatrix" false,
  .kit "BadName" "BadMove" false,
  .kit "BadName" "BadTable" false,
  .kit "BadName" "BadText" false,
  .kit "BadName" "BadTree" false,
  .kit "BadName" "BadWish" false,
  .kit "BadName" "Barred" false,
  .kit "BadName" "LastLine" false,
  .kit "BadName" "Mismatch" false,
  .kit "BadName" "NoCover" false,
  .kit "BadName" "NoEdit" false,
  .kit "BadName" "NoGrant" false,
  .kit "BadName" "NoSubtree" false,
  .kit "BadName" "NoTree" false,
  .kit "BadName" "Twice" false,
  .kitT "BadName" "ValueError" true,
  .exc "BadLot",
  .ini "BadLot",
  .noat "BadLot" "at",
  .noat "BadLot" "limit",
  .noat "BadLot" "name",
  .noat "BadLot" "number",
  .noat "BadLot" "what",
  .exm "BadLot" "GrantError",
  .kit "BadLot" "GrantError" true,
  .kit "BadLot" "BadName" false,
  .kit "BadLot" "TooMany" false,
  .kit "BadLot" "BadLot" true,
  .kit "BadLot" "NoSuchLine" false,
  .kit "BadLot" "BadNumber" false,
  .kit "BadLot" "BadKind" false,
  .kit "BadLot" "BadLog" false,
  .kit "BadLot" "BadMachine" false,
  .kit "BadLot" "BadMatrix" false,
  .kit "BadLot" "BadMove" false,
  .kit "BadLot" "BadTable" false,
  .kit "BadLot" "BadText" false,
  .kit "BadLot" "BadTree" false,
  .kit "BadLot" "BadWish" false,
  .kit "BadLot" "Barred" false,
  .kit "BadLot" "LastLine" false,
  .kit "BadLot" "Mismatch" false,
  .kit "BadLot" "NoCover" false,
  .kit "BadLot" "NoEdit" false,
  .kit "BadLot" "NoGrant" false,
  .kit "BadLot" "NoSubtree" false,
  .kit "BadLot" "NoTree" false,
  .kit "BadLot" "Twice" false,
  .kitT "BadLot" "ValueError" true,
  .exc "NoSuchLine",
  .ini "NoSuchLine",
  .noat "NoSuchLine" "at",
  .noat "NoSuchLine" "limit",
  .noat "NoSuchLine" "name",
  .noat "NoSuchLine" "number",
  .noat "NoSuchLine" "what",
  .exm "NoSuchLine" "GrantError",
  .kit "NoSuchLine" "GrantError" true,
  .kit "NoSuchLine" "BadName" false,
  .kit "NoSuchLine" "TooMany" false,
  .kit "NoSuchLine" "BadLot" false,
  .kit "NoSuchLine" "NoSuchLine" true,
  .kit "NoSuchLine" "BadNumber" false,
  .kit "NoSuchLine" "BadKind" false,
  .kit "NoSuchLine" "BadLog" false,
  .kit "NoSuchLine" "BadMachine" false,
  .kit "NoSuchLine" "BadMatrix" false,
  .kit "NoSuchLine" "BadMove" false,
  .kit "NoSuchLine" "BadTable" false,
  .kit "NoSuchLine" "BadText" false,
  .kit "NoSuchLine" "BadTree" false,
  .kit "NoSuchLine" "BadWish" false,
  .kit "NoSuchLine" "Barred" false,
  .kit "NoSuchLine" "LastLine" false,
  .kit "NoSuchLine" "Mismatch" false,
  .kit "NoSuchLine" "NoCover" false,
  .kit "NoSuchLine" "NoEdit" false,
  .kit "NoSuchLine" "NoGrant" false,
  .kit "NoSuchLine" "NoSubtree" false,
  .kit "NoSuchLine" "NoTree" false,
  .kit "NoSuchLine" "Twice" false,
  .kitT "NoSuchLine" "ValueError" true,
  .exc "TooMany",
  .ini "TooMany",
  .noat "TooMany" "at",
  .noat "TooMany" "limit",
  .noat "TooMany" "name",
  .noat "TooMany" "number",
  .noat "TooMany" "what",
  .exm "TooMany" "GrantError",
  .kit "TooMany" "GrantError" true,
  .kit "TooMany" "BadName" false,
  .kit "TooMany" "TooMany" true,
  .kit "TooMany" "BadLot" false,
  .kit "TooMany" "NoSuchLine" false,
  .kit "TooMany" "BadNumber" false,
  .kit "TooMany" "BadKind" false,
  .kit "TooMany" "BadLog" false,
  .kit "TooMany" "BadMachine" false,
  .kit "TooMany" "BadMatrix" false,
  .kit "TooMany" "BadMove" false,
  .kit "TooMany" "BadTable" false,
  .kit "TooMany" "BadText" false,
  .kit "TooMany" "BadTree" false,
  .kit "TooMany" "BadWish" false,
  .kit "TooMany" "Barred" false,
  .kit "TooMany" "LastLine" false,
  .kit "TooMany" "Mismatch" false,
  .kit "TooMany" "NoCover" false,
  .kit "TooMany" "NoEdit" false,
  .kit "TooMany" "NoGrant" false,
  .kit "TooMany" "NoSubtree" false,
  .kit "TooMany" "NoTree" false,
  .kit "TooMany" "Twice" false,
  .kitT "TooMany" "ValueError" true,
  .exc "BadNumber",
  .ini "BadNumber",
  .noat "BadNumber" "at",
  .noat "BadNumber" "limit",
  .noat "BadNumber" "name",
  .noat "BadNumber" "number",
  .noat "BadNumber" "what",
  .exm "BadNumber" "GrantError",
  .kit "BadNumber" "GrantError" true,
  .kit "BadNumber" "BadName" false,
  .kit "BadNumber" "TooMany" false,
  .kit "BadNumber" "BadLot" false,
  .kit "BadNumber" "NoSuchLine" false,
  .kit "BadNumber" "BadNumber" true,
  .kit "BadNumber" "BadKind" false,
  .kit "BadNumber" "BadLog" false,
  .kit "BadNumber" "BadMachine" false,
  .kit "BadNumber" "BadMatrix" false,
  .kit "BadNumber" "BadMove" false,
  .kit "BadNumber" "BadTable" false,
  .kit "BadNumber" "BadText" false,
  .kit "BadNumber" "BadTree" false,
  .kit "BadNumber" "BadWish" false,
  .kit "BadNumber" "Barred" false,
  .kit "BadNumber" "LastLine" false,
  .kit "BadNumber" "Mismatch" false,
  .kit "BadNumber" "NoCover" false,
  .kit "BadNumber" "NoEdit" false,
  .kit "BadNumber" "NoGrant" false,
  .kit "BadNumber" "NoSubtree" false,
  .kit "BadNumber" "NoTree" false,
  .kit "BadNumber" "Twice" false,
  .kitT "BadNumber" "ValueError" true,
  .glo "is_name",
  .glo "lots_of_size",
  .glo "mask_end",
  .glo "pick_lot",
  .glo "_law_mix",
  .glo "_law_unlike",
  .glo "_law_lotof",
  .glo "_law_lots",
  .glo "_law_toldof",
  .glo "_law_equal",
  .glo "_law_doubled",
  .glo "_law_store",
  .glo "_law_take",
  .glo "check_name",
  .glo "check_known_lot",
  .glo "_law_pick",
  .glo "_law_number",
  .glo "check_free_lot",
  .glo "lot_of",
  .glo "_law_name",
  .glo "_law_nonname",
  .glo "_law_word",
  .glo "_law_badnumber",
  .glo "check_lines",
  .glo "_law_lines",
  .glo "_law_badlines",
  .glo "_law_lotspoilt",
  .glo "lots_of",
  .glo "pairs_of",
  .glo "sub_lots",
  .glo "mask_of",
  .glo "lot_of_mask",
  .glo "_law_ask",
  .glo "_law_masksgood",
  .glo "_law_refused",
  .glo "_law_lotsgood",
  .glo "_law_limits",
  .glo "_law_badthere",
  .glo "_law_badbehind",
  .glo "law"]
def fn : List He.DefD := [⟨("is_name", none), "is_name", "is_name", defArgs st_is_name, defBody st_is_name, defScope st_is_name, [], []⟩,
  ⟨("lots_of_size", none), "lots_of_size", "lots_of_size", defArgs st_lots_of_size, defBody st_lots_of_size, defScope st_lots_of_size, [], []⟩,
  ⟨("mask_end", none), "mask_end", "mask_end", defArgs st_mask_end, defBody st_mask_end, defScope st_mask_end, [], []⟩,
  ⟨("pick_lot", none), "pick_lot", "pick_lot", defArgs st_pick_lot, defBody st_pick_lot, defScope st_pick_lot, [], []⟩,
  ⟨("_law_mix", none), "_law_mix", "_law_mix", defArgs st__law_mix, defBody st__law_mix, defScope st__law_mix, [], []⟩,
  ⟨("_law_unlike", none), "_law_unlike", "_law_unlike", defArgs st__law_unlike, defBody st__law_unlike, defScope st__law_unlike, [], []⟩,
  ⟨("_law_lotof", none), "_law_lotof", "_law_lotof", defArgs st__law_lotof, defBody st__law_lotof, defScope st__law_lotof, [], []⟩,
  ⟨("_law_lots", none), "_law_lots", "_law_lots", defArgs st__law_lots, defBody st__law_lots, defScope st__law_lots, [], []⟩,
  ⟨("_law_toldof", none), "_law_toldof", "_law_toldof", defArgs st__law_toldof, defBody st__law_toldof, defScope st__law_toldof, [], []⟩,
  ⟨("_law_equal", none), "_law_equal", "_law_equal", defArgs st__law_equal, defBody st__law_equal, defScope st__law_equal, [], []⟩,
  ⟨("_law_doubled", none), "_law_doubled", "_law_doubled", defArgs st__law_doubled, defBody st__law_doubled, defScope st__law_doubled, [], []⟩,
  ⟨("_law_store", none), "_law_store", "_law_store", defArgs st__law_store, defBody st__law_store, defScope st__law_store, [], []⟩,
  ⟨("_law_take", none), "_law_take", "_law_take", defArgs st__law_take, defBody st__law_take, defScope st__law_take, [], []⟩,
  ⟨("check_name", none), "check_name", "check_name", defArgs st_check_name, defBody st_check_name, defScope st_check_name, [], []⟩,
  ⟨("check_known_lot", none), "check_known_lot", "check_known_lot", defArgs st_check_known_lot, defBody st_check_known_lot, defScope st_check_known_lot, [], []⟩,
  ⟨("_law_pick", none), "_law_pick", "_law_pick", defArgs st__law_pick, defBody st__law_pick, defScope st__law_pick, [], []⟩,
  ⟨("_law_number", none), "_law_number", "_law_number", defArgs st__law_number, defBody st__law_number, defScope st__law_number, [], []⟩,
  ⟨("check_free_lot", none), "check_free_lot", "check_free_lot", defArgs st_check_free_lot, defBody st_check_free_lot, defScope st_check_free_lot, [], []⟩,
  ⟨("lot_of", none), "lot_of", "lot_of", defArgs st_lot_of, defBody st_lot_of, defScope st_lot_of, [], []⟩,
  ⟨("_law_name", none), "_law_name", "_law_name", defArgs st__law_name, defBody st__law_name, defScope st__law_name, [], []⟩,
  ⟨("_law_nonname", none), "_law_nonname", "_law_nonname", defArgs st__law_nonname, defBody st__law_nonname, defScope st__law_nonname, [], []⟩,
  ⟨("_law_word", none), "_law_word", "_law_word", defArgs st__law_word, defBody st__law_word, defScope st__law_word, [], []⟩,
  ⟨("_law_badnumber", none), "_law_badnumber", "_law_badnumber", defArgs st__law_badnumber, defBody st__law_badnumber, defScope st__law_badnumber, [], []⟩,
  ⟨("check_lines", none), "check_lines", "check_lines", defArgs st_check_lines, defBody st_check_lines, defScope st_check_lines, [], [("most", .int 24)]⟩,
  ⟨("_law_lines", none), "_law_lines", "_law_lines", defArgs st__law_lines, defBody st__law_lines, defScope st__law_lines, [], []⟩,
  ⟨("_law_badlines", none), "_law_badlines", "_law_badlines", defArgs st__law_badlines, defBody st__law_badlines, defScope st__law_badlines, [], []⟩,
  ⟨("_law_lotspoilt", none), "_law_lotspoilt", "_law_lotspoilt", defArgs st__law_lotspoilt, defBody st__law_lotspoilt, defScope st__law_lotspoilt, [], []⟩,
  ⟨("lots_of", none), "lots_of", "lots_of", defArgs st_lots_of, defBody st_lots_of, defScope st_lots_of, [], []⟩,
  ⟨("pairs_of", none), "pairs_of", "pairs_of", defArgs st_pairs_of, defBody st_pairs_of, defScope st_pairs_of, [], []⟩,
  ⟨("sub_lots", none), "sub_lots", "sub_lots", defArgs st_sub_lots, defBody st_sub_lots, defScope st_sub_lots, [], []⟩,
  ⟨("mask_of", none), "mask_of", "mask_of", defArgs st_mask_of, defBody st_mask_of, defScope st_mask_of, [], []⟩,
  ⟨("lot_of_mask", none), "lot_of_mask", "lot_of_mask", defArgs st_lot_of_mask, defBody st_lot_of_mask, defScope st_lot_of_mask, [], []⟩,
  ⟨("_law_ask", none), "_law_ask", "_law_ask", defArgs st__law_ask, defBody st__law_ask, defScope st__law_ask, [], []⟩,
  ⟨("_law_masksgood", none), "_law_masksgood", "_law_masksgood", defArgs st__law_masksgood, defBody st__law_masksgood, defScope st__law_masksgood, [], []⟩,
  ⟨("_law_refused", none), "_law_refused", "_law_refused", defArgs st__law_refused, defBody st__law_refused, defScope st__law_refused, [], []⟩,
  ⟨("_law_lotsgood", none), "_law_lotsgood", "_law_lotsgood", defArgs st__law_lotsgood, defBody st__law_lotsgood, defScope st__law_lotsgood, [], []⟩,
  ⟨("_law_limits", none), "_law_limits", "_law_limits", defArgs st__law_limits, defBody st__law_limits, defScope st__law_limits, [], []⟩,
  ⟨("_law_badthere", none), "_law_badthere", "_law_badthere", defArgs st__law_badthere, defBody st__law_badthere, defScope st__law_badthere, [], []⟩,
  ⟨("_law_badbehind", none), "_law_badbehind", "_law_badbehind", defArgs st__law_badbehind, defBody st__law_badbehind, defScope st__law_badbehind, [], []⟩,
  ⟨("law", none), "law", "law", defArgs st_law, defBody st_law, defScope st_law, [], []⟩,
  ⟨("BadName", some "__init__"), "__init__", "BadName.__init__", defArgs in_BadName, defBody in_BadName, defScope in_BadName, [], []⟩,
  ⟨("BadLot", some "__init__"), "__init__", "BadLot.__init__", defArgs in_BadLot, defBody in_BadLot, defScope in_BadLot, [], []⟩,
  ⟨("NoSuchLine", some "__init__"), "__init__", "NoSuchLine.__init__", defArgs in_NoSuchLine, defBody in_NoSuchLine, defScope in_NoSuchLine, [], []⟩,
  ⟨("TooMany", some "__init__"), "__init__", "TooMany.__init__", defArgs in_TooMany, defBody in_TooMany, defScope in_TooMany, [], []⟩,
  ⟨("BadNumber", some "__init__"), "__init__", "BadNumber.__init__", defArgs in_BadNumber, defBody in_BadNumber, defScope in_BadNumber, [], []⟩]
abbrev R : PySem.W.OpenRow := PySem.W.OpenLaw.row PySem.Challenge.rw_grantedbyturns_k01_lots_and_masks
abbrev hk : PySem.W.Hook := hookX 4 fx fn
def ob (s : PySem.W.SharedT) : AlX := obsXG 4 fx fn (HandSHeadRun.getT s)
theorem ob_eq (s : PySem.W.SharedT) : ob s = hk.obs s.abs := obsXG_eq (HandSHeadRun.getT_eq s)
def loose0 : List PySem.Str := ["GrantError", "BadName", "BadKind", "BadTree", "NoSubtree", "Twice", "TooMany", "BadText", "BadLot", "NoSuchLine", "BadLog", "BadNumber", "Mismatch", "BadMove", "BadTable", "NoTree", "BadMatrix", "NoGrant", "BadMachine", "BadWish", "NoCover", "Barred", "LastLine", "NoEdit", "LETTERS", "NAME_SIGNS", "KEPT_WORDS", "is_name", "check_name", "check_free_lot"]
def loose1 : List PySem.Str := ["check_known_lot", "check_lines", "lot_of", "lots_of_size", "lots_of", "pairs_of", "mask_end", "pick_lot", "sub_lots", "mask_of", "lot_of_mask", "_law_mix", "_law_store", "_law_take", "_law_pick", "_law_number", "_law_name", "_law_nonname", "_law_unlike", "_law_lines", "_law_lotof", "_law_lots", "_law_word", "_law_badlines", "_law_badnumber", "_law_toldof", "_law_equal", "_law_ask", "_law_refused", "_law_doubled"]
def loose2 : List PySem.Str := ["_law_lotsgood", "_law_masksgood", "_law_limits", "_law_badthere", "_law_lotspoilt", "_law_badbehind"]
def loose : List PySem.Str := loose0 ++ loose1 ++ loose2
theorem run (w : World) : HandSHeadRun.RunEq R (PySem.W.view R.prog [69]) hk ob 12000 loose w := by
  intro os
  kernel_rfl
section
variable {P : Program} {w : World} {K : Fg} {h : Heap} {mg : Str → Option Value} {base : Heap}
theorem sci_BadName : FnScope ["self", "name"] ["self", "name"] (defScope in_BadName) := ⟨rfl, rfl, rfl, by decide +kernel, rfl, by decide +kernel, by decide +kernel⟩
theorem exc_BadName (X : K.In h) (G : h.Ns mainGlobals mg) (c : SaysX fx fn K) : ExcT0 P w K mg base "BadName" ["name"] := by
  obtain ⟨fd, F⟩ := c.def_ 40 rfl
  have F : FunD K "__init__" "BadName.__init__" (defArgs in_BadName) (defBody in_BadName) (defScope in_BadName) [] [] (He.fAd K ("BadName", some "__init__")) fd := F
  have e := exc_mg X G (x := "BadName") (c.fact 35 rfl)
  have i := ini_ok (x := "BadName") (c.fact 36 rfl)
  exact ⟨by decide, e.1, e.2.oc, _, fd, ["self", "name"], i.1, i.2, ok_init1 F sci_BadName e.2.oc (noat_ok (c.fact 39 rfl)) rfl rfl (by decide) (by decide), F.bindsN (ps := ["self", "name"]) fun _ _ _ _ _ _ us hl => match us, hl with | [_, _], _ => rfl⟩
theorem sci_BadLot : FnScope ["self", "at"] ["self", "at"] (defScope in_BadLot) := ⟨rfl, rfl, rfl, by decide +kernel, rfl, by decide +kernel, by decide +kernel⟩
theorem exc_BadLot (X : K.In h) (G : h.Ns mainGlobals mg) (c : SaysX fx fn K) : ExcT0 P w K mg base "BadLot" ["at"] := by
  obtain ⟨fd, F⟩ := c.def_ 41 rfl
  have F : FunD K "__init__" "BadLot.__init__" (defArgs in_BadLot) (defBody in_BadLot) (defScope in_BadLot) [] [] (He.fAd K ("BadLot", some "__init__")) fd := F
  have e := exc_mg X G (x := "BadLot") (c.fact 68 rfl)
  have i := ini_ok (x := "BadLot") (c.fact 69 rfl)
  exact ⟨by decide, e.1, e.2.oc, _, fd, ["self", "at"], i.1, i.2, ok_init1 F sci_BadLot e.2.oc (noat_ok (c.fact 70 rfl)) rfl rfl (by decide) (by decide), F.bindsN (ps := ["self", "at"]) fun _ _ _ _ _ _ us hl => match us, hl with | [_, _], _ => rfl⟩
theorem sci_NoSuchLine : FnScope ["self", "name"] ["self", "name"] (defScope in_NoSuchLine) := ⟨rfl, rfl, rfl, by decide +kernel, rfl, by decide +kernel, by decide +kernel⟩
theorem exc_NoSuchLine (X : K.In h) (G : h.Ns mainGlobals mg) (c : SaysX fx fn K) : ExcT0 P w K mg base "NoSuchLine" ["name"] := by
  obtain ⟨fd, F⟩ := c.def_ 42 rfl
  have F : FunD K "__init__" "NoSuchLine.__init__" (defArgs in_NoSuchLine) (defBody in_NoSuchLine) (defScope in_NoSuchLine) [] [] (He.fAd K ("NoSuchLine", some "__init__")) fd := F
  have e := exc_mg X G (x := "NoSuchLine") (c.fact 101 rfl)
  have i := ini_ok (x := "NoSuchLine") (c.fact 102 rfl)
  exact ⟨by decide, e.1, e.2.oc, _, fd, ["self", "name"], i.1, i.2, ok_init1 F sci_NoSuchLine e.2.oc (noat_ok (c.fact 105 rfl)) rfl rfl (by decide) (by decide), F.bindsN (ps := ["self", "name"]) fun _ _ _ _ _ _ us hl => match us, hl with | [_, _], _ => rfl⟩
theorem sci_TooMany : FnScope ["self", "what", "limit"] ["self", "what", "limit"] (defScope in_TooMany) := ⟨rfl, rfl, rfl, by decide +kernel, rfl, by decide +kernel, by decide +kernel⟩
theorem exc_TooMany (X : K.In h) (G : h.Ns mainGlobals mg) (c : SaysX fx fn K) : ExcT0 P w K mg base "TooMany" ["what", "limit"] := by
  obtain ⟨fd, F⟩ := c.def_ 43 rfl
  have F : FunD K "__init__" "TooMany.__init__" (defArgs in_TooMany) (defBody in_TooMany) (defScope in_TooMany) [] [] (He.fAd K ("TooMany", some "__init__")) fd := F
  have e := exc_mg X G (x := "TooMany") (c.fact 134 rfl)
  have i := ini_ok (x := "TooMany") (c.fact 135 rfl)
  exact ⟨by decide, e.1, e.2.oc, _, fd, ["self", "what", "limit"], i.1, i.2, ok_init2 F sci_TooMany e.2.oc (noat_ok (c.fact 140 rfl)) (noat_ok (c.fact 137 rfl)) rfl rfl rfl (by decide) (by decide) (by decide) (by decide), F.bindsN (ps := ["self", "what", "limit"]) fun _ _ _ _ _ _ us hl => match us, hl with | [_, _, _], _ => rfl⟩
theorem sci_BadNumber : FnScope ["self", "number"] ["self", "number"] (defScope in_BadNumber) := ⟨rfl, rfl, rfl, by decide +kernel, rfl, by decide +kernel, by decide +kernel⟩
theorem exc_BadNumber (X : K.In h) (G : h.Ns mainGlobals mg) (c : SaysX fx fn K) : ExcT0 P w K mg base "BadNumber" ["number"] := by
  obtain ⟨fd, F⟩ := c.def_ 44 rfl
  have F : FunD K "__init__" "BadNumber.__init__" (defArgs in_BadNumber) (defBody in_BadNumber) (defScope in_BadNumber) [] [] (He.fAd K ("BadNumber", some "__init__")) fd := F
  have e := exc_mg X G (x := "BadNumber") (c.fact 167 rfl)
  have i := ini_ok (x := "BadNumber") (c.fact 168 rfl)
  exact ⟨by decide, e.1, e.2.oc, _, fd, ["self", "number"], i.1, i.2, ok_init1 F sci_BadNumber e.2.oc (noat_ok (c.fact 172 rfl)) rfl rfl (by decide) (by decide), F.bindsN (ps := ["self", "number"]) fun _ _ _ _ _ _ us hl => match us, hl with | [_, _], _ => rfl⟩
theorem mkTx (X : K.In h) (G : h.Ns mainGlobals mg) (c : SaysX fx fn K) : Tx K mg P w base where
  f_ValueError := free_mg X G (c.fact 0 rfl)
  f_abs := free_mg X G (c.fact 1 rfl)
  f_bool := free_mg X G (c.fact 2 rfl)
  f_int := free_mg X G (c.fact 3 rfl)
  f_isinstance := free_mg X G (c.fact 4 rfl)
  f_len := free_mg X G (c.fact 5 rfl)
  f_list := free_mg X G (c.fact 6 rfl)
  f_max := free_mg X G (c.fact 7 rfl)
  f_min := free_mg X G (c.fact 8 rfl)
  f_range := free_mg X G (c.fact 9 rfl)
  f_sorted := free_mg X G (c.fact 10 rfl)
  f_str := free_mg X G (c.fact 11 rfl)
  f_tuple := free_mg X G (c.fact 12 rfl)
  c_KEPT_WORDS := ⟨(tup_mg X G (c.fact 13 rfl)).1, (tup_mg X G (c.fact 13 rfl)).2, fun _ => .cons (.str _) (.cons (.str _) (.cons (.str _) (.cons (.str _) (.cons (.str _) .nil))))⟩
  c_LETTERS := str_mg X G (c.fact 14 rfl)
  c_NAME_SIGNS := str_mg X G (c.fact 15 rfl)
  n_GrantError := glo_mg X G (c.fact 16 rfl)
  n_BadName := (exc_mg X G (c.fact 35 rfl)).1
  n_TooMany := (exc_mg X G (c.fact 134 rfl)).1
  n_BadLot := (exc_mg X G (c.fact 68 rfl)).1
  n_NoSuchLine := (exc_mg X G (c.fact 101 rfl)).1
  n_BadNumber := (exc_mg X G (c.fact 167 rfl)).1
  n_BadKind := glo_mg X G (c.fact 17 rfl)
  n_BadLog := glo_mg X G (c.fact 18 rfl)
  n_BadMachine := glo_mg X G (c.fact 19 rfl)
  n_BadMatrix := glo_mg X G (c.fact 20 rfl)
  n_BadMove := glo_mg X G (c.fact 21 rfl)
  n_BadTable := glo_mg X G (c.fact 22 rfl)
  n_BadText := glo_mg X G (c.fact 23 rfl)
  n_BadTree := glo_mg X G (c.fact 24 rfl)
  n_BadWish := glo_mg X G (c.fact 25 rfl)
  n_Barred := glo_mg X G (c.fact 26 rfl)
  n_LastLine := glo_mg X G (c.fact 27 rfl)
  n_Mismatch := glo_mg X G (c.fact 28 rfl)
  n_NoCover := glo_mg X G (c.fact 29 rfl)
  n_NoEdit := glo_mg X G (c.fact 30 rfl)
  n_NoGrant := glo_mg X G (c.fact 31 rfl)
  n_NoSubtree := glo_mg X G (c.fact 32 rfl)
  n_NoTree := glo_mg X G (c.fact 33 rfl)
  n_Twice := glo_mg X G (c.fact 34 rfl)
  x_BadName := exc_BadName X G c
  x_BadLot := exc_BadLot X G c
  x_NoSuchLine := exc_NoSuchLine X G c
  x_TooMany := exc_TooMany X G c
  x_BadNumber := exc_BadNumber X G c
  exm := by
    intro m hm
    simp only [excs, List.mem_cons, List.not_mem_nil, or_false] at hm
    rcases hm with rfl | rfl | rfl | rfl | rfl
    · skip
      exact exm_ok (c.fact 42 rfl)
    · skip
      exact exm_ok (c.fact 75 rfl)
    · skip
      exact exm_ok (c.fact 108 rfl)
    · skip
      exact exm_ok (c.fact 141 rfl)
    · skip
      exact exm_ok (c.fact 174 rfl)
  ec := by
    intro m hm
    simp only [excs, List.mem_cons, List.not_mem_nil, or_false] at hm
    rcases hm with rfl | rfl | rfl | rfl | rfl
    · skip
      exact (exc_mg X G (x := "BadName") (c.fact 35 rfl)).2.ec
    · skip
      exact (exc_mg X G (x := "BadLot") (c.fact 68 rfl)).2.ec
    · skip
      exact (exc_mg X G (x := "NoSuchLine") (c.fact 101 rfl)).2.ec
    · skip
      exact (exc_mg X G (x := "TooMany") (c.fact 134 rfl)).2.ec
    · skip
      exact (exc_mg X G (x := "BadNumber") (c.fact 167 rfl)).2.ec
  na_at := by
    intro m hm
    simp only [excs, List.mem_cons, List.not_mem_nil, or_false] at hm
    rcases hm with rfl | rfl | rfl | rfl | rfl
    · skip
      exact noat_ok (c.fact 37 rfl)
    · skip
      exact noat_ok (c.fact 70 rfl)
    · skip
      exact noat_ok (c.fact 103 rfl)
    · skip
      exact noat_ok (c.fact 136 rfl)
    · skip
      exact noat_ok (c.fact 169 rfl)
  na_limit := by
    intro m hm
    simp only [excs, List.mem_cons, List.not_mem_nil, or_false] at hm
    rcases hm with rfl | rfl | rfl | rfl | rfl
    · skip
      exact noat_ok (c.fact 38 rfl)
    · skip
      exact noat_ok (c.fact 71 rfl)
    · skip
      exact noat_ok (c.fact 104 rfl)
    · skip
      exact noat_ok (c.fact 137 rfl)
    · skip
      exact noat_ok (c.fact 170 rfl)
  na_name := by
    intro m hm
    simp only [excs, List.mem_cons, List.not_mem_nil, or_false] at hm
    rcases hm with rfl | rfl | rfl | rfl | rfl
    · skip
      exact noat_ok (c.fact 39 rfl)
    · skip
      exact noat_ok (c.fact 72 rfl)
    · skip
      exact noat_ok (c.fact 105 rfl)
    · skip
      exact noat_ok (c.fact 138 rfl)
    · skip
      exact noat_ok (c.fact 171 rfl)
  na_number := by
    intro m hm
    simp only [excs, List.mem_cons, List.not_mem_nil, or_false] at hm
    rcases hm with rfl | rfl | rfl | rfl | rfl
    · skip
      exact noat_ok (c.fact 40 rfl)
    · skip
      exact noat_ok (c.fact 73 rfl)
    · skip
      exact noat_ok (c.fact 106 rfl)
    · skip
      exact noat_ok (c.fact 139 rfl)
    · skip
      exact noat_ok (c.fact 172 rfl)
  na_what := by
    intro m hm
    simp only [excs, List.mem_cons, List.not_mem_nil, or_false] at hm
    rcases hm with rfl | rfl | rfl | rfl | rfl
    · skip
      exact noat_ok (c.fact 41 rfl)
    · skip
      exact noat_ok (c.fact 74 rfl)
    · skip
      exact noat_ok (c.fact 107 rfl)
    · skip
      exact noat_ok (c.fact 140 rfl)
    · skip
      exact noat_ok (c.fact 173 rfl)
  kit := by
    intro m hm n hn
    simp only [excs, List.mem_cons, List.not_mem_nil, or_false] at hm
    rcases hm with rfl | rfl | rfl | rfl | rfl
    · skip
      simp only [kits, List.mem_cons, List.not_mem_nil, or_false] at hn
      rcases hn with rfl | rfl | rfl | rfl | rfl | rfl | rfl | rfl | rfl | rfl | rfl | rfl | rfl | rfl | rfl | rfl | rfl | rfl | rfl | rfl | rfl | rfl | rfl | rfl
      · skip
        exact kit_ok (c.fact 43 rfl)
      · skip
        exact kit_ok (c.fact 44 rfl)
      · skip
        exact kit_ok (c.fact 45 rfl)
      · skip
        exact kit_ok (c.fact 46 rfl)
      · skip
        exact kit_ok (c.fact 47 rfl)
      · skip
        exact kit_ok (c.fact 48 rfl)
      · skip
        exact kit_ok (c.fact 49 rfl)
      · skip
        exact kit_ok (c.fact 50 rfl)
      · skip
        exact kit_ok (c.fact 51 rfl)
      · skip
        exact kit_ok (c.fact 52 rfl)
      · skip
        exact kit_ok (c.fact 53 rfl)
      · skip
        exact kit_ok (c.fact 54 rfl)
      · skip
        exact kit_ok (c.fact 55 rfl)
      · skip
        exact kit_ok (c.fact 56 rfl)
      · skip
        exact kit_ok (c.fact 57 rfl)
      · skip
        exact kit_ok (c.fact 58 rfl)
      · skip
        exact kit_ok (c.fact 59 rfl)
      · skip
        exact kit_ok (c.fact 60 rfl)
      · skip
        exact kit_ok (c.fact 61 rfl)
      · skip
        exact kit_ok (c.fact 62 rfl)
      · skip
        exact kit_ok (c.fact 63 rfl)
      · skip
        exact kit_ok (c.fact 64 rfl)
      · skip
        exact kit_ok (c.fact 65 rfl)
      · skip
        exact kit_ok (c.fact 66 rfl)
    · skip
      simp only [kits, List.mem_cons, List.not_mem_nil, or_false] at hn
      rcases hn with rfl | rfl | rfl | rfl | rfl | rfl | rfl | rfl | rfl | rfl | rfl | rfl | rfl | rfl | rfl | rfl | rfl | rfl | rfl | rfl | rfl | rfl | rfl | rfl
      · skip
        exact kit_ok (c.fact 76 rfl)
      · skip
        exact kit_ok (c.fact 77 rfl)
      · skip
        exact kit_ok (c.fact 78 rfl)
      · skip
        exact kit_ok (c.fact 79 rfl)
      · skip
        exact kit_ok (c.fact 80 rfl)
      · skip
        exact kit_ok (c.fact 81 rfl)
      · skip
        exact kit_ok (c.fact 82 rfl)
      · skip
        exact kit_ok (c.fact 83 rfl)
      · skip
        exact kit_ok (c.fact 84 rfl)
      · skip
        exact kit_ok (c.fact 85 rfl)
      · skip
        exact kit_ok (c.fact 86 rfl)
      · skip
        exact kit_ok (c.fact 87 rfl)
      · skip
        exact kit_ok (c.fact 88 rfl)
      · skip
        exact kit_ok (c.fact 89 rfl)
      · skip
        exact kit_ok (c.fact 90 rfl)
      · skip
        exact kit_ok (c.fact 91 rfl)
      · skip
        exact kit_ok (c.fact 92 rfl)
      · skip
        exact kit_ok (c.fact 93 rfl)
      · skip
        exact kit_ok (c.fact 94 rfl)
      · skip
        exact kit_ok (c.fact 95 rfl)
      · skip
        exact kit_ok (c.fact 96 rfl)
      · skip
        exact kit_ok (c.fact 97 rfl)
      · skip
        exact kit_ok (c.fact 98 rfl)
      · skip
        exact kit_ok (c.fact 99 rfl)
    · skip
      simp only [kits, List.mem_cons, List.not_mem_nil, or_false] at hn
      rcases hn with rfl | rfl | rfl | rfl | rfl | rfl | rfl | rfl | rfl | rfl | rfl | rfl | rfl | rfl | rfl | rfl | rfl | rfl | rfl | rfl | rfl | rfl | rfl | rfl
      · skip
        exact kit_ok (c.fact 109 rfl)
      · skip
        exact kit_ok (c.fact 110 rfl)
      · skip
        exact kit_ok (c.fact 111 rfl)
      · skip
        exact kit_ok (c.fact 112 rfl)
      · skip
        exact kit_ok (c.fact 113 rfl)
      · skip
        exact kit_ok (c.fact 114 rfl)
      · skip
        exact kit_ok (c.fact 115 rfl)
      · skip
        exact kit_ok (c.fact 116 rfl)
      · skip
        exact kit_ok (c.fact 117 rfl)
      · skip
        exact kit_ok (c.fact 118 rfl)
      · skip
        exact kit_ok (c.fact 119 rfl)
      · skip
        exact kit_ok (c.fact 120 rfl)
      · skip
        exact kit_ok (c.fact 121 rfl)
      · skip
        exact kit_ok (c.fact 122 rfl)
      · skip
        exact kit_ok (c.fact 123 rfl)
      · skip
        exact kit_ok (c.fact 124 rfl)
      · skip
        exact kit_ok (c.fact 125 rfl)
      · skip
        exact kit_ok (c.fact 126 rfl)
      · skip
        exact kit_ok (c.fact 127 rfl)
      · skip
        exact kit_ok (c.fact 128 rfl)
      · skip
        exact kit_ok (c.fact 129 rfl)
      · skip
        exact kit_ok (c.fact 130 rfl)
      · skip
        exact kit_ok (c.fact 131 rfl)
      · skip
        exact kit_ok (c.fact 132 rfl)
    · skip
      simp only [kits, List.mem_cons, List.not_mem_nil, or_false] at hn
      rcases hn with rfl | rfl | rfl | rfl | rfl | rfl | rfl | rfl | rfl | rfl | rfl | rfl | rfl | rfl | rfl | rfl | rfl | rfl | rfl | rfl | rfl | rfl | rfl | rfl
      · skip
        exact kit_ok (c.fact 142 rfl)
      · skip
        exact kit_ok (c.fact 143 rfl)
      · skip
        exact kit_ok (c.fact 144 rfl)
      · skip
        exact kit_ok (c.fact 145 rfl)
      · skip
        exact kit_ok (c.fact 146 rfl)
      · skip
        exact kit_ok (c.fact 147 rfl)
      · skip
        exact kit_ok (c.fact 148 rfl)
      · skip
        exact kit_ok (c.fact 149 rfl)
      · skip
        exact kit_ok (c.fact 150 rfl)
      · skip
        exact kit_ok (c.fact 151 rfl)
      · skip
        exact kit_ok (c.fact 152 rfl)
      · skip
        exact kit_ok (c.fact 153 rfl)
      · skip
        exact kit_ok (c.fact 154 rfl)
      · skip
        exact kit_ok (c.fact 155 rfl)
      · skip
        exact kit_ok (c.fact 156 rfl)
      · skip
        exact kit_ok (c.fact 157 rfl)
      · skip
        exact kit_ok (c.fact 158 rfl)
      · skip
        exact kit_ok (c.fact 159 rfl)
      · skip
        exact kit_ok (c.fact 160 rfl)
      · skip
        exact kit_ok (c.fact 161 rfl)
      · skip
        exact kit_ok (c.fact 162 rfl)
      · skip
        exact kit_ok (c.fact 163 rfl)
      · skip
        exact kit_ok (c.fact 164 rfl)
      · skip
        exact kit_ok (c.fact 165 rfl)
    · skip
      simp only [kits, List.mem_cons, List.not_mem_nil, or_false] at hn
      rcases hn with rfl | rfl | rfl | rfl | rfl | rfl | rfl | rfl | rfl | rfl | rfl | rfl | rfl | rfl | rfl | rfl | rfl | rfl | rfl | rfl | rfl | rfl | rfl | rfl
      · skip
        exact kit_ok (c.fact 175 rfl)
      · skip
        exact kit_ok (c.fact 176 rfl)
      · skip
        exact kit_ok (c.fact 177 rfl)
      · skip
        exact kit_ok (c.fact 178 rfl)
      · skip
        exact kit_ok (c.fact 179 rfl)
      · skip
        exact kit_ok (c.fact 180 rfl)
      · skip
        exact kit_ok (c.fact 181 rfl)
      · skip
        exact kit_ok (c.fact 182 rfl)
      · skip
        exact kit_ok (c.fact 183 rfl)
      · skip
        exact kit_ok (c.fact 184 rfl)
      · skip
        exact kit_ok (c.fact 185 rfl)
      · skip
        exact kit_ok (c.fact 186 rfl)
      · skip
        exact kit_ok (c.fact 187 rfl)
      · skip
        exact kit_ok (c.fact 188 rfl)
      · skip
        exact kit_ok (c.fact 189 rfl)
      · skip
        exact kit_ok (c.fact 190 rfl)
      · skip
        exact kit_ok (c.fact 191 rfl)
      · skip
        exact kit_ok (c.fact 192 rfl)
      · skip
        exact kit_ok (c.fact 193 rfl)
      · skip
        exact kit_ok (c.fact 194 rfl)
      · skip
        exact kit_ok (c.fact 195 rfl)
      · skip
        exact kit_ok (c.fact 196 rfl)
      · skip
        exact kit_ok (c.fact 197 rfl)
      · skip
        exact kit_ok (c.fact 198 rfl)
  kitV := by
    intro m hm
    simp only [excs, List.mem_cons, List.not_mem_nil, or_false] at hm
    rcases hm with rfl | rfl | rfl | rfl | rfl
    · skip
      exact kitT_ok (c.fact 67 rfl)
    · skip
      exact kitT_ok (c.fact 100 rfl)
    · skip
      exact kitT_ok (c.fact 133 rfl)
    · skip
      exact kitT_ok (c.fact 166 rfl)
    · skip
      exact kitT_ok (c.fact 199 rfl)
theorem kb0_check_lines {K : Fg} {f : Addr} {fd : FuncData} (F : FunD K "check_lines" "check_lines" (defArgs st_check_lines) (defBody st_check_lines) (defScope st_check_lines) [] [("most", .int 24)] f fd) : ∃ ds, Vals [V.int 24] ds ∧ Binds K fd ["lines", "most"] ds :=
  F.binds0 (ps := ["lines", "most"]) 1 (by simp) rfl fun D doc pm an cdv ct us ks h1 h2 => match us, ks, h1, h2 with
  | [_], [_], _, _ => ⟨_, _, _, _, _, _, rfl, rfl, rfl⟩
theorem kbk_check_lines {K : Fg} {f : Addr} {fd : FuncData} (F : FunD K "check_lines" "check_lines" (defArgs st_check_lines) (defBody st_check_lines) (defScope st_check_lines) [] [("most", .int 24)] f fd) : KBn K fd ["lines", "most"] 1 ["most"] (fun us ws => us ++ ws) (fun vs zs => vs ++ zs) := by
  obtain ⟨oc, od, dV, kV, doc, pm, an, cdv, ct, osl, rfl, lk, hcd, hD, hK⟩ := F.ex
  rcases hD with ⟨_, rfl⟩ | ⟨e, _⟩
  · refine ⟨fun s us ws X l1 l2 => ?_, fun r1 r2 => r1.append r2⟩
    refine BindsTo.of_looks fun M => ?_
    match us, ws, l1, l2 with
    | [_], [_], _, _ => exact PySem.W.Looks.of_pure rfl
  · exact absurd rfl e
theorem facts {f : Addr} (X : K.In h) (G : h.Ns mainGlobals mg) (hfa : mg ("law" : Str) = some (.ref f)) (c : SaysX fx fn K) :
    ∃ fd : FuncData, (∀ (s : Shared) (v : Value), BindsTo s fd ⟨[v], []⟩ [("script", v)]) ∧ ∀ base : Heap, K.In base → base.Ns mainGlobals mg → FnOk P w K mg base (L2N.CX P w) 10 f fd ["script"] (lift K sp_law) := by
  obtain ⟨d_is_name, F_is_name⟩ := c.def_ 0 rfl
  have F_is_name : FunD K "is_name" "is_name" (defArgs st_is_name) (defBody st_is_name) (defScope st_is_name) [] [] (He.ga K "is_name") d_is_name := F_is_name
  have B_is_name : Binds K d_is_name ["name"] [] := F_is_name.bindsN (ps := ["name"]) fun _ _ _ _ _ _ us hl => match us, hl with | [_], _ => rfl
  obtain ⟨d_lots_of_size, F_lots_of_size⟩ := c.def_ 1 rfl
  have F_lots_of_size : FunD K "lots_of_size" "lots_of_size" (defArgs st_lots_of_size) (defBody st_lots_of_size) (defScope st_lots_of_size) [] [] (He.ga K "lots_of_size") d_lots_of_size := F_lots_of_size
  have B_lots_of_size : Binds K d_lots_of_size ["lines", "size"] [] := F_lots_of_size.bindsN (ps := ["lines", "size"]) fun _ _ _ _ _ _ us hl => match us, hl with | [_, _], _ => rfl
  obtain ⟨d_mask_end, F_mask_end⟩ := c.def_ 2 rfl
  have F_mask_end : FunD K "mask_end" "mask_end" (defArgs st_mask_end) (defBody st_mask_end) (defScope st_mask_end) [] [] (He.ga K "mask_end") d_mask_end := F_mask_end
  have B_mask_end : Binds K d_mask_end ["lines"] [] := F_mask_end.bindsN (ps := ["lines"]) fun _ _ _ _ _ _ us hl => match us, hl with | [_], _ => rfl
  obtain ⟨d_pick_lot, F_pick_lot⟩ := c.def_ 3 rfl
  have F_pick_lot : FunD K "pick_lot" "pick_lot" (defArgs st_pick_lot) (defBody st_pick_lot) (defScope st_pick_lot) [] [] (He.ga K "pick_lot") d_pick_lot := F_pick_lot
  have B_pick_lot : Binds K d_pick_lot ["lines", "number"] [] := F_pick_lot.bindsN (ps := ["lines", "number"]) fun _ _ _ _ _ _ us hl => match us, hl with | [_, _], _ => rfl
  obtain ⟨d__law_mix, F__law_mix⟩ := c.def_ 4 rfl
  have F__law_mix : FunD K "_law_mix" "_law_mix" (defArgs st__law_mix) (defBody st__law_mix) (defScope st__law_mix) [] [] (He.ga K "_law_mix") d__law_mix := F__law_mix
  have B__law_mix : Binds K d__law_mix ["number"] [] := F__law_mix.bindsN (ps := ["number"]) fun _ _ _ _ _ _ us hl => match us, hl with | [_], _ => rfl
  obtain ⟨d__law_unlike, F__law_unlike⟩ := c.def_ 5 rfl
  have F__law_unlike : FunD K "_law_unlike" "_law_unlike" (defArgs st__law_unlike) (defBody st__law_unlike) (defScope st__law_unlike) [] [] (He.ga K "_law_unlike") d__law_unlike := F__law_unlike
  have B__law_unlike : Binds K d__law_unlike ["name", "found"] [] := F__law_unlike.bindsN (ps := ["name", "found"]) fun _ _ _ _ _ _ us hl => match us, hl with | [_, _], _ => rfl
  obtain ⟨d__law_lotof, F__law_lotof⟩ := c.def_ 6 rfl
  have F__law_lotof : FunD K "_law_lotof" "_law_lotof" (defArgs st__law_lotof) (defBody st__law_lotof) (defScope st__law_lotof) [] [] (He.ga K "_law_lotof") d__law_lotof := F__law_lotof
  have B__law_lotof : Binds K d__law_lotof ["lines", "number"] [] := F__law_lotof.bindsN (ps := ["lines", "number"]) fun _ _ _ _ _ _ us hl => match us, hl with | [_, _], _ => rfl
  obtain ⟨d__law_lots, F__law_lots⟩ := c.def_ 7 rfl
  have F__law_lots : FunD K "_law_lots" "_law_lots" (defArgs st__law_lots) (defBody st__law_lots) (defScope st__law_lots) [] [] (He.ga K "_law_lots") d__law_lots := F__law_lots
  have B__law_lots : Binds K d__law_lots ["lines", "many"] [] := F__law_lots.bindsN (ps := ["lines", "many"]) fun _ _ _ _ _ _ us hl => match us, hl with | [_, _], _ => rfl
  obtain ⟨d__law_toldof, F__law_toldof⟩ := c.def_ 8 rfl
  have F__law_toldof : FunD K "_law_toldof" "_law_toldof" (defArgs st__law_toldof) (defBody st__law_toldof) (defScope st__law_toldof) [] [] (He.ga K "_law_toldof") d__law_toldof := F__law_toldof
  have B__law_toldof : Binds K d__law_toldof ["e"] [] := F__law_toldof.bindsN (ps := ["e"]) fun _ _ _ _ _ _ us hl => match us, hl with | [_], _ => rfl
  obtain ⟨d__law_equal, F__law_equal⟩ := c.def_ 9 rfl
  have F__law_equal : FunD K "_law_equal" "_law_equal" (defArgs st__law_equal) (defBody st__law_equal) (defScope st__law_equal) [] [] (He.ga K "_law_equal") d__law_equal := F__law_equal
  have B__law_equal : Binds K d__law_equal ["got", "due"] [] := F__law_equal.bindsN (ps := ["got", "due"]) fun _ _ _ _ _ _ us hl => match us, hl with | [_, _], _ => rfl
  obtain ⟨d__law_doubled, F__law_doubled⟩ := c.def_ 10 rfl
  have F__law_doubled : FunD K "_law_doubled" "_law_doubled" (defArgs st__law_doubled) (defBody st__law_doubled) (defScope st__law_doubled) [] [] (He.ga K "_law_doubled") d__law_doubled := F__law_doubled
  have B__law_doubled : Binds K d__law_doubled ["lines"] [] := F__law_doubled.bindsN (ps := ["lines"]) fun _ _ _ _ _ _ us hl => match us, hl with | [_], _ => rfl
  obtain ⟨d__law_store, F__law_store⟩ := c.def_ 11 rfl
  have F__law_store : FunD K "_law_store" "_law_store" (defArgs st__law_store) (defBody st__law_store) (defScope st__law_store) [] [] (He.ga K "_law_store") d__law_store := F__law_store
  have B__law_store : Binds K d__law_store ["script"] [] := F__law_store.bindsN (ps := ["script"]) fun _ _ _ _ _ _ us hl => match us, hl with | [_], _ => rfl
  obtain ⟨d__law_take, F__law_take⟩ := c.def_ 12 rfl
  have F__law_take : FunD K "_law_take" "_law_take" (defArgs st__law_take) (defBody st__law_take) (defScope st__law_take) [] [] (He.ga K "_law_take") d__law_take := F__law_take
  have B__law_take : Binds K d__law_take ["store", "many"] [] := F__law_take.bindsN (ps := ["store", "many"]) fun _ _ _ _ _ _ us hl => match us, hl with | [_, _], _ => rfl
  obtain ⟨d_check_name, F_check_name⟩ := c.def_ 13 rfl
  have F_check_name : FunD K "check_name" "check_name" (defArgs st_check_name) (defBody st_check_name) (defScope st_check_name) [] [] (He.ga K "check_name") d_check_name := F_check_name
  have B_check_name : Binds K d_check_name ["name"] [] := F_check_name.bindsN (ps := ["name"]) fun _ _ _ _ _ _ us hl => match us, hl with | [_], _ => rfl
  obtain ⟨d_check_known_lot, F_check_known_lot⟩ := c.def_ 14 rfl
  have F_check_known_lot : FunD K "check_known_lot" "check_known_lot" (defArgs st_check_known_lot) (defBody st_check_known_lot) (defScope st_check_known_lot) [] [] (He.ga K "check_known_lot") d_check_known_lot := F_check_known_lot
  have B_check_known_lot : Binds K d_check_known_lot ["lines", "lot"] [] := F_check_known_lot.bindsN (ps := ["lines", "lot"]) fun _ _ _ _ _ _ us hl => match us, hl with | [_, _], _ => rfl
  obtain ⟨d__law_pick, F__law_pick⟩ := c.def_ 15 rfl
  have F__law_pick : FunD K "_law_pick" "_law_pick" (defArgs st__law_pick) (defBody st__law_pick) (defScope st__law_pick) [] [] (He.ga K "_law_pick") d__law_pick := F__law_pick
  have B__law_pick : Binds K d__law_pick ["store", "items"] [] := F__law_pick.bindsN (ps := ["store", "items"]) fun _ _ _ _ _ _ us hl => match us, hl with | [_, _], _ => rfl
  obtain ⟨d__law_number, F__law_number⟩ := c.def_ 16 rfl
  have F__law_number : FunD K "_law_number" "_law_number" (defArgs st__law_number) (defBody st__law_number) (defScope st__law_number) [] [] (He.ga K "_law_number") d__law_number := F__law_number
  have B__law_number : Binds K d__law_number ["store", "least", "most"] [] := F__law_number.bindsN (ps := ["store", "least", "most"]) fun _ _ _ _ _ _ us hl => match us, hl with | [_, _, _], _ => rfl
  obtain ⟨d_check_free_lot, F_check_free_lot⟩ := c.def_ 17 rfl
  have F_check_free_lot : FunD K "check_free_lot" "check_free_lot" (defArgs st_check_free_lot) (defBody st_check_free_lot) (defScope st_check_free_lot) [] [] (He.ga K "check_free_lot") d_check_free_lot := F_check_free_lot
  have B_check_free_lot : Binds K d_check_free_lot ["lot"] [] := F_check_free_lot.bindsN (ps := ["lot"]) fun _ _ _ _ _ _ us hl => match us, hl with | [_], _ => rfl
  obtain ⟨d_lot_of, F_lot_of⟩ := c.def_ 18 rfl
  have F_lot_of : FunD K "lot_of" "lot_of" (defArgs st_lot_of) (defBody st_lot_of) (defScope st_lot_of) [] [] (He.ga K "lot_of") d_lot_of := F_lot_of
  have B_lot_of : Binds K d_lot_of ["names"] [] := F_lot_of.bindsN (ps := ["names"]) fun _ _ _ _ _ _ us hl => match us, hl with | [_], _ => rfl
  obtain ⟨d__law_name, F__law_name⟩ := c.def_ 19 rfl
  have F__law_name : FunD K "_law_name" "_law_name" (defArgs st__law_name) (defBody st__law_name) (defScope st__law_name) [] [] (He.ga K "_law_name") d__law_name := F__law_name
  have B__law_name : Binds K d__law_name ["store"] [] := F__law_name.bindsN (ps := ["store"]) fun _ _ _ _ _ _ us hl => match us, hl with | [_], _ => rfl
  obtain ⟨d__law_nonname, F__law_nonname⟩ := c.def_ 20 rfl
  have F__law_nonname : FunD K "_law_nonname" "_law_nonname" (defArgs st__law_nonname) (defBody st__law_nonname) (defScope st__law_nonname) [] [] (He.ga K "_law_nonname") d__law_nonname := F__law_nonname
  have B__law_nonname : Binds K d__law_nonname ["store"] [] := F__law_nonname.bindsN (ps := ["store"]) fun _ _ _ _ _ _ us hl => match us, hl with | [_], _ => rfl
  obtain ⟨d__law_word, F__law_word⟩ := c.def_ 21 rfl
  have F__law_word : FunD K "_law_word" "_law_word" (defArgs st__law_word) (defBody st__law_word) (defScope st__law_word) [] [] (He.ga K "_law_word") d__law_word := F__law_word
  have B__law_word : Binds K d__law_word ["store", "lines", "most"] [] := F__law_word.bindsN (ps := ["store", "lines", "most"]) fun _ _ _ _ _ _ us hl => match us, hl with | [_, _, _], _ => rfl
  obtain ⟨d__law_badnumber, F__law_badnumber⟩ := c.def_ 22 rfl
  have F__law_badnumber : FunD K "_law_badnumber" "_law_badnumber" (defArgs st__law_badnumber) (defBody st__law_badnumber) (defScope st__law_badnumber) [] [] (He.ga K "_law_badnumber") d__law_badnumber := F__law_badnumber
  have B__law_badnumber : Binds K d__law_badnumber ["store", "least", "most"] [] := F__law_badnumber.bindsN (ps := ["store", "least", "most"]) fun _ _ _ _ _ _ us hl => match us, hl with | [_, _, _], _ => rfl
  obtain ⟨d_check_lines, F_check_lines⟩ := c.def_ 23 rfl
  have F_check_lines : FunD K "check_lines" "check_lines" (defArgs st_check_lines) (defBody st_check_lines) (defScope st_check_lines) [] [("most", .int 24)] (He.ga K "check_lines") d_check_lines := F_check_lines
  obtain ⟨d__law_lines, F__law_lines⟩ := c.def_ 24 rfl
  have F__law_lines : FunD K "_law_lines" "_law_lines" (defArgs st__law_lines) (defBody st__law_lines) (defScope st__law_lines) [] [] (He.ga K "_law_lines") d__law_lines := F__law_lines
  have B__law_lines : Binds K d__law_lines ["store", "many"] [] := F__law_lines.bindsN (ps := ["store", "many"]) fun _ _ _ _ _ _ us hl => match us, hl with | [_, _], _ => rfl
  obtain ⟨d__law_badlines, F__law_badlines⟩ := c.def_ 25 rfl
  have F__law_badlines : FunD K "_law_badlines" "_law_badlines" (defArgs st__law_badlines) (defBody st__law_badlines) (defScope st__law_badlines) [] [] (He.ga K "_law_badlines") d__law_badlines := F__law_badlines
  have B__law_badlines : Binds K d__law_badlines ["store", "lines", "most"] [] := F__law_badlines.bindsN (ps := ["store", "lines", "most"]) fun _ _ _ _ _ _ us hl => match us, hl with | [_, _, _], _ => rfl
  obtain ⟨d__law_lotspoilt, F__law_lotspoilt⟩ := c.def_ 26 rfl
  have F__law_lotspoilt : FunD K "_law_lotspoilt" "_law_lotspoilt" (defArgs st__law_lotspoilt) (defBody st__law_lotspoilt) (defScope st__law_lotspoilt) [] [] (He.ga K "_law_lotspoilt") d__law_lotspoilt := F__law_lotspoilt
  have B__law_lotspoilt : Binds K d__law_lotspoilt ["store", "lines", "top"] [] := F__law_lotspoilt.bindsN (ps := ["store", "lines", "top"]) fun _ _ _ _ _ _ us hl => match us, hl with | [_, _, _], _ => rfl
  obtain ⟨d_lots_of, F_lots_of⟩ := c.def_ 27 rfl
  have F_lots_of : FunD K "lots_of" "lots_of" (defArgs st_lots_of) (defBody st_lots_of) (defScope st_lots_of) [] [] (He.ga K "lots_of") d_lots_of := F_lots_of
  have B_lots_of : Binds K d_lots_of ["lines", "size"] [] := F_lots_of.bindsN (ps := ["lines", "size"]) fun _ _ _ _ _ _ us hl => match us, hl with | [_, _], _ => rfl
  obtain ⟨d_pairs_of, F_pairs_of⟩ := c.def_ 28 rfl
  have F_pairs_of : FunD K "pairs_of" "pairs_of" (defArgs st_pairs_of) (defBody st_pairs_of) (defScope st_pairs_of) [] [] (He.ga K "pairs_of") d_pairs_of := F_pairs_of
  have B_pairs_of : Binds K d_pairs_of ["lines"] [] := F_pairs_of.bindsN (ps := ["lines"]) fun _ _ _ _ _ _ us hl => match us, hl with | [_], _ => rfl
  obtain ⟨d_sub_lots, F_sub_lots⟩ := c.def_ 29 rfl
  have F_sub_lots : FunD K "sub_lots" "sub_lots" (defArgs st_sub_lots) (defBody st_sub_lots) (defScope st_sub_lots) [] [] (He.ga K "sub_lots") d_sub_lots := F_sub_lots
  have B_sub_lots : Binds K d_sub_lots ["lines"] [] := F_sub_lots.bindsN (ps := ["lines"]) fun _ _ _ _ _ _ us hl => match us, hl with | [_], _ => rfl
  obtain ⟨d_mask_of, F_mask_of⟩ := c.def_ 30 rfl
  have F_mask_of : FunD K "mask_of" "mask_of" (defArgs st_mask_of) (defBody st_mask_of) (defScope st_mask_of) [] [] (He.ga K "mask_of") d_mask_of := F_mask_of
  have B_mask_of : Binds K d_mask_of ["lines", "lot"] [] := F_mask_of.bindsN (ps := ["lines", "lot"]) fun _ _ _ _ _ _ us hl => match us, hl with | [_, _], _ => rfl
  obtain ⟨d_lot_of_mask, F_lot_of_mask⟩ := c.def_ 31 rfl
  have F_lot_of_mask : FunD K "lot_of_mask" "lot_of_mask" (defArgs st_lot_of_mask) (defBody st_lot_of_mask) (defScope st_lot_of_mask) [] [] (He.ga K "lot_of_mask") d_lot_of_mask := F_lot_of_mask
  have B_lot_of_mask : Binds K d_lot_of_mask ["lines", "number"] [] := F_lot_of_mask.bindsN (ps := ["lines", "number"]) fun _ _ _ _ _ _ us hl => match us, hl with | [_, _], _ => rfl
  obtain ⟨d__law_ask, F__law_ask⟩ := c.def_ 32 rfl
  have F__law_ask : FunD K "_law_ask" "_law_ask" (defArgs st__law_ask) (defBody st__law_ask) (defScope st__law_ask) [] [] (He.ga K "_law_ask") d__law_ask := F__law_ask
  have B__law_ask : Binds K d__law_ask ["word", "lines", "thing"] [] := F__law_ask.bindsN (ps := ["word", "lines", "thing"]) fun _ _ _ _ _ _ us hl => match us, hl with | [_, _, _], _ => rfl
  obtain ⟨d__law_masksgood, F__law_masksgood⟩ := c.def_ 33 rfl
  have F__law_masksgood : FunD K "_law_masksgood" "_law_masksgood" (defArgs st__law_masksgood) (defBody st__law_masksgood) (defScope st__law_masksgood) [] [] (He.ga K "_law_masksgood") d__law_masksgood := F__law_masksgood
  have B__law_masksgood : Binds K d__law_masksgood ["store", "lines", "top"] [] := F__law_masksgood.bindsN (ps := ["store", "lines", "top"]) fun _ _ _ _ _ _ us hl => match us, hl with | [_, _, _], _ => rfl
  obtain ⟨d__law_refused, F__law_refused⟩ := c.def_ 34 rfl
  have F__law_refused : FunD K "_law_refused" "_law_refused" (defArgs st__law_refused) (defBody st__law_refused) (defScope st__law_refused) [] [] (He.ga K "_law_refused") d__law_refused := F__law_refused
  have B__law_refused : Binds K d__law_refused ["word", "lines", "thing", "due"] [] := F__law_refused.bindsN (ps := ["word", "lines", "thing", "due"]) fun _ _ _ _ _ _ us hl => match us, hl with | [_, _, _, _], _ => rfl
  obtain ⟨d__law_lotsgood, F__law_lotsgood⟩ := c.def_ 35 rfl
  have F__law_lotsgood : FunD K "_law_lotsgood" "_law_lotsgood" (defArgs st__law_lotsgood) (defBody st__law_lotsgood) (defScope st__law_lotsgood) [] [] (He.ga K "_law_lotsgood") d__law_lotsgood := F__law_lotsgood
  have B__law_lotsgood : Binds K d__law_lotsgood ["lines", "size"] [] := F__law_lotsgood.bindsN (ps := ["lines", "size"]) fun _ _ _ _ _ _ us hl => match us, hl with | [_, _], _ => rfl
  obtain ⟨d__law_limits, F__law_limits⟩ := c.def_ 36 rfl
  have F__law_limits : FunD K "_law_limits" "_law_limits" (defArgs st__law_limits) (defBody st__law_limits) (defScope st__law_limits) [] [] (He.ga K "_law_limits") d__law_limits := F__law_limits
  have B__law_limits : Binds K d__law_limits ["store", "lines"] [] := F__law_limits.bindsN (ps := ["store", "lines"]) fun _ _ _ _ _ _ us hl => match us, hl with | [_, _], _ => rfl
  obtain ⟨d__law_badthere, F__law_badthere⟩ := c.def_ 37 rfl
  have F__law_badthere : FunD K "_law_badthere" "_law_badthere" (defArgs st__law_badthere) (defBody st__law_badthere) (defScope st__law_badthere) [] [] (He.ga K "_law_badthere") d__law_badthere := F__law_badthere
  have B__law_badthere : Binds K d__law_badthere ["store", "lines"] [] := F__law_badthere.bindsN (ps := ["store", "lines"]) fun _ _ _ _ _ _ us hl => match us, hl with | [_, _], _ => rfl
  obtain ⟨d__law_badbehind, F__law_badbehind⟩ := c.def_ 38 rfl
  have F__law_badbehind : FunD K "_law_badbehind" "_law_badbehind" (defArgs st__law_badbehind) (defBody st__law_badbehind) (defScope st__law_badbehind) [] [] (He.ga K "_law_badbehind") d__law_badbehind := F__law_badbehind
  have B__law_badbehind : Binds K d__law_badbehind ["store", "lines", "top"] [] := F__law_badbehind.bindsN (ps := ["store", "lines", "top"]) fun _ _ _ _ _ _ us hl => match us, hl with | [_, _, _], _ => rfl
  obtain ⟨d_law, F_law⟩ := c.def_ 39 rfl
  have F_law : FunD K "law" "law" (defArgs st_law) (defBody st_law) (defScope st_law) [] [] (He.ga K "law") d_law := F_law
  have B_law : Binds K d_law ["script"] [] := F_law.bindsN (ps := ["script"]) fun _ _ _ _ _ _ us hl => match us, hl with | [_], _ => rfl
  have e := hfa.symm.trans (glo_mg X G (c.fact 239 rfl))
  cases e
  have b := FunD.bindsA (ps := ["script"]) F_law fun _ _ _ _ _ _ us hl => match us, hl with | [_], _ => rfl
  refine ⟨d_law, fun s v => b s [v] rfl, fun base _ _ => ?_⟩
  have T : Tx K mg P w base := mkTx X G c
  have h_is_name : Fn0 P w K mg base "is_name" 1 sp_is_name := ⟨⟨_, d_is_name, ["name"], tm_is_name T F_is_name len_is_name pure_is_name, glo_mg X G (c.fact 200 rfl), F_is_name.kp, B_is_name⟩⟩
  have h_lots_of_size : Fn0 P w K mg base "lots_of_size" 1 sp_lots_of_size := ⟨⟨_, d_lots_of_size, ["lines", "size"], tm_lots_of_size T F_lots_of_size len_lots_of_size pure_lots_of_size, glo_mg X G (c.fact 201 rfl), F_lots_of_size.kp, B_lots_of_size⟩⟩
  have h_mask_end : Fn0 P w K mg base "mask_end" 1 sp_mask_end := ⟨⟨_, d_mask_end, ["lines"], tm_mask_end T F_mask_end len_mask_end pure_mask_end, glo_mg X G (c.fact 202 rfl), F_mask_end.kp, B_mask_end⟩⟩
  have h_pick_lot : Fn0 P w K mg base "pick_lot" 1 sp_pick_lot := ⟨⟨_, d_pick_lot, ["lines", "number"], tm_pick_lot T F_pick_lot len_pick_lot pure_pick_lot, glo_mg X G (c.fact 203 rfl), F_pick_lot.kp, B_pick_lot⟩⟩
  have h__law_mix : Fn0 P w K mg base "_law_mix" 1 sp__law_mix := ⟨⟨_, d__law_mix, ["number"], tm__law_mix T F__law_mix len__law_mix pure__law_mix, glo_mg X G (c.fact 204 rfl), F__law_mix.kp, B__law_mix⟩⟩
  have h__law_unlike : Fn0 P w K mg base "_law_unlike" 1 sp__law_unlike := ⟨⟨_, d__law_unlike, ["name", "found"], tm__law_unlike T F__law_unlike len__law_unlike pure__law_unlike, glo_mg X G (c.fact 205 rfl), F__law_unlike.kp, B__law_unlike⟩⟩
  have h__law_lotof : Fn0 P w K mg base "_law_lotof" 1 sp__law_lotof := ⟨⟨_, d__law_lotof, ["lines", "number"], tm__law_lotof T F__law_lotof len__law_lotof pure__law_lotof, glo_mg X G (c.fact 206 rfl), F__law_lotof.kp, B__law_lotof⟩⟩
  have h__law_lots : Fn0 P w K mg base "_law_lots" 1 sp__law_lots := ⟨⟨_, d__law_lots, ["lines", "many"], tm__law_lots T F__law_lots len__law_lots pure__law_lots, glo_mg X G (c.fact 207 rfl), F__law_lots.kp, B__law_lots⟩⟩
  have hh__law_toldof : FnH0 P w K mg base excs "_law_toldof" 1 hsp__law_toldof := ⟨⟨_, d__law_toldof, ["e"], htm__law_toldof T F__law_toldof lenh__law_toldof (pureh__law_toldof K T.kit T.kitV), glo_mg X G (c.fact 208 rfl), F__law_toldof.kp, B__law_toldof⟩⟩
  have h__law_equal : Fn0 P w K mg base "_law_equal" 1 sp__law_equal := ⟨⟨_, d__law_equal, ["got", "due"], tm__law_equal T F__law_equal len__law_equal pure__law_equal, glo_mg X G (c.fact 209 rfl), F__law_equal.kp, B__law_equal⟩⟩
  have hh__law_equal : FnH0 P w K mg base excs "_law_equal" 1 hsp__law_equal := ⟨⟨_, d__law_equal, ["got", "due"], htm__law_equal T F__law_equal lenh__law_equal (pureh__law_equal K), glo_mg X G (c.fact 209 rfl), F__law_equal.kp, B__law_equal⟩⟩
  have h__law_doubled : Fn0 P w K mg base "_law_doubled" 1 sp__law_doubled := ⟨⟨_, d__law_doubled, ["lines"], tm__law_doubled T F__law_doubled len__law_doubled pure__law_doubled, glo_mg X G (c.fact 210 rfl), F__law_doubled.kp, B__law_doubled⟩⟩
  have h__law_store : Fn0 P w K mg base "_law_store" 2 sp__law_store := ⟨⟨_, d__law_store, ["script"], tm__law_store T h__law_mix F__law_store len__law_store pure__law_store, glo_mg X G (c.fact 211 rfl), F__law_store.kp, B__law_store⟩⟩
  have h__law_take : Fn0 P w K mg base "_law_take" 2 sp__law_take := ⟨⟨_, d__law_take, ["store", "many"], tm__law_take T h__law_mix F__law_take len__law_take pure__law_take, glo_mg X G (c.fact 212 rfl), F__law_take.kp, B__law_take⟩⟩
  have h_check_name : Fn0 P w K mg base "check_name" 3 sp_check_name := ⟨⟨_, d_check_name, ["name"], tm_check_name T h_is_name F_check_name len_check_name pure_check_name, glo_mg X G (c.fact 213 rfl), F_check_name.kp, B_check_name⟩⟩
  have h_check_known_lot : Fn0 P w K mg base "check_known_lot" 3 sp_check_known_lot := ⟨⟨_, d_check_known_lot, ["lines", "lot"], tm_check_known_lot T F_check_known_lot len_check_known_lot pure_check_known_lot, glo_mg X G (c.fact 214 rfl), F_check_known_lot.kp, B_check_known_lot⟩⟩
  have h__law_pick : Fn0 P w K mg base "_law_pick" 3 sp__law_pick := ⟨⟨_, d__law_pick, ["store", "items"], tm__law_pick T h__law_take F__law_pick len__law_pick pure__law_pick, glo_mg X G (c.fact 215 rfl), F__law_pick.kp, B__law_pick⟩⟩
  have h__law_number : Fn0 P w K mg base "_law_number" 3 sp__law_number := ⟨⟨_, d__law_number, ["store", "least", "most"], tm__law_number T h__law_take F__law_number len__law_number pure__law_number, glo_mg X G (c.fact 216 rfl), F__law_number.kp, B__law_number⟩⟩
  have h_check_free_lot : Fn0 P w K mg base "check_free_lot" 4 sp_check_free_lot := ⟨⟨_, d_check_free_lot, ["lot"], tm_check_free_lot T h_check_name F_check_free_lot len_check_free_lot pure_check_free_lot, glo_mg X G (c.fact 217 rfl), F_check_free_lot.kp, B_check_free_lot⟩⟩
  have h_lot_of : Fn0 P w K mg base "lot_of" 4 sp_lot_of := ⟨⟨_, d_lot_of, ["names"], tm_lot_of T h_check_name F_lot_of len_lot_of pure_lot_of, glo_mg X G (c.fact 218 rfl), F_lot_of.kp, B_lot_of⟩⟩
  have h__law_name : Fn0 P w K mg base "_law_name" 4 sp__law_name := ⟨⟨_, d__law_name, ["store"], tm__law_name T h__law_take h__law_pick F__law_name len__law_name pure__law_name, glo_mg X G (c.fact 219 rfl), F__law_name.kp, B__law_name⟩⟩
  have h__law_nonname : Fn0 P w K mg base "_law_nonname" 4 sp__law_nonname := ⟨⟨_, d__law_nonname, ["store"], tm__law_nonname T h__law_pick h__law_take F__law_nonname len__law_nonname pure__law_nonname, glo_mg X G (c.fact 220 rfl), F__law_nonname.kp, B__law_nonname⟩⟩
  have h__law_word : Fn0 P w K mg base "_law_word" 4 sp__law_word := ⟨⟨_, d__law_word, ["store", "lines", "most"], tm__law_word T h__law_take h__law_pick h__law_number F__law_word len__law_word pure__law_word, glo_mg X G (c.fact 221 rfl), F__law_word.kp, B__law_word⟩⟩
  have h__law_badnumber : Fn0 P w K mg base "_law_badnumber" 4 sp__law_badnumber := ⟨⟨_, d__law_badnumber, ["store", "least", "most"], tm__law_badnumber T h__law_pick F__law_badnumber len__law_badnumber pure__law_badnumber, glo_mg X G (c.fact 222 rfl), F__law_badnumber.kp, B__law_badnumber⟩⟩
  have h_check_lines : FnK0 P w K mg base "check_lines" 5 sp_check_lines 1 ["most"] [.int 24] [.int 24] := ⟨⟨_, d_check_lines, ["lines", "most"], tm_check_lines T h_check_free_lot F_check_lines len_check_lines pure_check_lines, glo_mg X G (c.fact 223 rfl), F_check_lines.kp, kb0_check_lines F_check_lines, kbk_check_lines F_check_lines⟩, fun _ => .cons (.int _) .nil⟩
  have h__law_lines : Fn0 P w K mg base "_law_lines" 5 sp__law_lines := ⟨⟨_, d__law_lines, ["store", "many"], tm__law_lines T h__law_take h__law_unlike h__law_name F__law_lines len__law_lines pure__law_lines, glo_mg X G (c.fact 224 rfl), F__law_lines.kp, B__law_lines⟩⟩
  have h__law_badlines : Fn0 P w K mg base "_law_badlines" 5 sp__law_badlines := ⟨⟨_, d__law_badlines, ["store", "lines", "most"], tm__law_badlines T h__law_take h__law_nonname F__law_badlines len__law_badlines pure__law_badlines, glo_mg X G (c.fact 225 rfl), F__law_badlines.kp, B__law_badlines⟩⟩
  have h__law_lotspoilt : Fn0 P w K mg base "_law_lotspoilt" 5 sp__law_lotspoilt := ⟨⟨_, d__law_lotspoilt, ["store", "lines", "top"], tm__law_lotspoilt T h__law_lotof h__law_number h__law_take h__law_nonname h__law_unlike h__law_name F__law_lotspoilt len__law_lotspoilt pure__law_lotspoilt, glo_mg X G (c.fact 226 rfl), F__law_lotspoilt.kp, B__law_lotspoilt⟩⟩
  have h_lots_of : Fn0 P w K mg base "lots_of" 6 sp_lots_of := ⟨⟨_, d_lots_of, ["lines", "size"], tm_lots_of T h_check_lines h_lots_of_size F_lots_of len_lots_of pure_lots_of, glo_mg X G (c.fact 227 rfl), F_lots_of.kp, B_lots_of⟩⟩
  have h_pairs_of : Fn0 P w K mg base "pairs_of" 6 sp_pairs_of := ⟨⟨_, d_pairs_of, ["lines"], tm_pairs_of T h_check_lines h_lots_of_size F_pairs_of len_pairs_of pure_pairs_of, glo_mg X G (c.fact 228 rfl), F_pairs_of.kp, B_pairs_of⟩⟩
  have h_sub_lots : Fn0 P w K mg base "sub_lots" 6 sp_sub_lots := ⟨⟨_, d_sub_lots, ["lines"], tm_sub_lots T h_check_lines h_mask_end h_pick_lot F_sub_lots len_sub_lots pure_sub_lots, glo_mg X G (c.fact 229 rfl), F_sub_lots.kp, B_sub_lots⟩⟩
  have h_mask_of : Fn0 P w K mg base "mask_of" 6 sp_mask_of := ⟨⟨_, d_mask_of, ["lines", "lot"], tm_mask_of T h_check_lines h_check_known_lot F_mask_of len_mask_of pure_mask_of, glo_mg X G (c.fact 230 rfl), F_mask_of.kp, B_mask_of⟩⟩
  have h_lot_of_mask : Fn0 P w K mg base "lot_of_mask" 6 sp_lot_of_mask := ⟨⟨_, d_lot_of_mask, ["lines", "number"], tm_lot_of_mask T h_check_lines h_mask_end h_pick_lot F_lot_of_mask len_lot_of_mask pure_lot_of_mask, glo_mg X G (c.fact 231 rfl), F_lot_of_mask.kp, B_lot_of_mask⟩⟩
  have h__law_ask : Fn0 P w K mg base "_law_ask" 7 sp__law_ask := ⟨⟨_, d__law_ask, ["word", "lines", "thing"], tm__law_ask T h_check_lines h_lots_of h_pairs_of h_sub_lots h_mask_of h_lot_of_mask h_lot_of F__law_ask len__law_ask pure__law_ask, glo_mg X G (c.fact 232 rfl), F__law_ask.kp, B__law_ask⟩⟩
  have h__law_masksgood : Fn0 P w K mg base "_law_masksgood" 7 sp__law_masksgood := ⟨⟨_, d__law_masksgood, ["store", "lines", "top"], tm__law_masksgood T h__law_number h__law_lotof h__law_equal h_lot_of_mask h_mask_of F__law_masksgood len__law_masksgood pure__law_masksgood, glo_mg X G (c.fact 233 rfl), F__law_masksgood.kp, B__law_masksgood⟩⟩
  have h__law_refused : Fn0 P w K mg base "_law_refused" 8 sp__law_refused := ⟨⟨_, d__law_refused, ["word", "lines", "thing", "due"], tm__law_refused T h__law_ask hh__law_equal hh__law_toldof F__law_refused len__law_refused pure__law_refused, glo_mg X G (c.fact 234 rfl), F__law_refused.kp, B__law_refused⟩⟩
  have h__law_lotsgood : Fn0 P w K mg base "_law_lotsgood" 9 sp__law_lotsgood := ⟨⟨_, d__law_lotsgood, ["lines", "size"], tm__law_lotsgood T h__law_lots h__law_doubled h_sub_lots h__law_refused h_lots_of h__law_equal h_pairs_of h_check_lines F__law_lotsgood len__law_lotsgood pure__law_lotsgood, glo_mg X G (c.fact 235 rfl), F__law_lotsgood.kp, B__law_lotsgood⟩⟩
  have h__law_limits : Fn0 P w K mg base "_law_limits" 9 sp__law_limits := ⟨⟨_, d__law_limits, ["store", "lines"], tm__law_limits T h__law_take h__law_equal h__law_ask h__law_refused h__law_word h_lot_of h__law_nonname h__law_pick F__law_limits len__law_limits pure__law_limits, glo_mg X G (c.fact 236 rfl), F__law_limits.kp, B__law_limits⟩⟩
  have h__law_badthere : Fn0 P w K mg base "_law_badthere" 9 sp__law_badthere := ⟨⟨_, d__law_badthere, ["store", "lines"], tm__law_badthere T h__law_pick h__law_badlines h__law_refused h__law_nonname F__law_badthere len__law_badthere pure__law_badthere, glo_mg X G (c.fact 237 rfl), F__law_badthere.kp, B__law_badthere⟩⟩
  have h__law_badbehind : Fn0 P w K mg base "_law_badbehind" 9 sp__law_badbehind := ⟨⟨_, d__law_badbehind, ["store", "lines", "top"], tm__law_badbehind T h__law_badnumber h__law_refused h__law_lotspoilt F__law_badbehind len__law_badbehind pure__law_badbehind, glo_mg X G (c.fact 238 rfl), F__law_badbehind.kp, B__law_badbehind⟩⟩
  exact tm_law T h__law_store h__law_number h__law_take h__law_lines h__law_lotsgood h__law_masksgood h__law_limits h__law_badthere h__law_badbehind F_law len_law pure_law
end
end LW
open PySem PySem.W PySem.Calls PyProof.Rows
theorem PySem.Challenge.cw_grantedbyturns_k01_lots_and_masks_holds : PySem.Challenge.rw_grantedbyturns_k01_lots_and_masks.Holds := by
  w_on; o_law
  refine HandSHeadRun.head_any (r := OpenLaw.row PySem.Challenge.rw_grantedbyturns_k01_lots_and_masks) (q := view (OpenLaw.row PySem.Challenge.rw_grantedbyturns_k01_lots_and_masks).prog [69]) (H := LW.hk) (ob := LW.ob) (M := 12000) (loose := LW.loose) (d := HandSHeadRun.topDef (OpenLaw.row PySem.Challenge.rw_grantedbyturns_k01_lots_and_masks).prog 69) (kwd := []) LW.ob_eq
    (by kernel_rfl) (fun s => by kernel_rfl) LW.run (by kernel_rfl) (by kernel_rfl) (by kernel_rfl) (by rfl) (by first | assumption | decide +kernel) (by decide +kernel) ⟨rfl, rfl, rfl, rfl, rfl, by decide +kernel⟩ ?hw ?hc
  case hw => w_witness2
  case hc =>
    refine L2.walk_ofE (l := PySem.Challenge.rw_grantedbyturns_k01_lots_and_masks) (n := 63) (k := 10) (x := "script") (CX := GA.CXA (PySem.Challenge.rw_grantedbyturns_k01_lots_and_masks).prog) rfl (by decide) (by kernel_rfl) ⟨rfl, by decide, by decide⟩ ?F GA.cxa_no
    case F =>
      intro w mg fa h Y G hmg0
      obtain ⟨K, KX, c⟩ := Y
      have hmg : mg ("law" : PySem.Str) = some (.ref fa) := by
        have e : (HandSHeadRun.topDef (OpenLaw.row PySem.Challenge.rw_grantedbyturns_k01_lots_and_masks).prog 69).name = ("law" : PySem.Str) := by kernel_rfl
        rw [← e]
        exact hmg0
      obtain ⟨fd, hb, hF⟩ := LW.facts (P := (PySem.Challenge.rw_grantedbyturns_k01_lots_and_masks).prog) (w := w) KX G hmg c
      exact ⟨K, fd, GA.lift K LW.sp_law, KX, hb, fun H a ns hl ho hS => GA.lift_law ho hS (fun A => ⟨ns, rfl, fun _ => rfl⟩) fun _ => rfl, fun base b1 b2 => GA.fnOk_any (hF base b1 b2)⟩
