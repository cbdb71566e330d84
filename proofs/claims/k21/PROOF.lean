import PyProof.Rows.All
import Wide.All
import OpenK.AllK
import Wide.FinOn
import Lean
import KE.KIsAll
import KE.KExcIs
import HandS.ForMost
import HandS.ForExc
import HandS.IsInst
import HandS.Wide
import HandS.StrMore
import HandS.Flow
import HandS.Style
import HandS.Deep
import HandS.Defaults
import HandS.ExcInit
import HandS.ExcCtx
import HandS.ExcField
import HandS.ExcIs
import HandS.HotCalls
import HandS.ExcInitHot
import HandS.Conv
import HandS.Rev
import HandS.Head0
import HandS.Head1
import HandS.Head2
import HandS.HeadEnd
import HandS.HeadHook1
import HandS.HeadHook2
import HandS.TupAny
import HandS.StrSplit
import HandS.TupMul
import HandS.Comp
import HandS.Iter
import HandS.Dict
import HandS.Small
import HandS.CallSlots
import HandS.SortInts
import HandS.WordsDict
import HandS.More
import HandS.Call
import PyProof.Rows.CountFlat
import PySem.Challenge.RW_grantedbyturns_k21_counts_of_frames
set_option Elab.async false
set_option linter.all false
set_option maxRecDepth 100000
set_option maxHeartbeats 4000000
set_option autoImplicit false
namespace GV
open PySem PySem.Spec PyProof.Rows L2
abbrev Fg := PySem.W.Frag
/-- an exception object of the class D with a dict: its isinstance facts -/
structure EC (K : Fg) (D : Addr) : Prop where
  hc : (PySem.W.clsIn K D).isSome = true
  xf : XfC K D
  ca : PySem.W.findIn K (.ref D) "__class__" = some (some (.builtin "object.__class__"))
  gt : PySem.W.specialIn K (.builtin "object.__class__") "__get__" = some (some (.builtin "getset_descriptor.__get__"))
  tk : PySem.W.takesIn K (.builtin "object.__class__") = some true
  mo : PySem.W.mroIn K D (.type "object") = some true

/-! ### hot functions whose promise knows the handled exception -/
section
variable {P : Program} {w : World} {K : Fg} {mg : Str → Option Value} {base : Heap}
structure FnE (P : Program) (w : World) (K : Fg) (mg : Str → Option Value) (base : Heap) (CX : CXT) (k : Nat) (f : Addr) (fd : FuncData) (ps : List Str) (sp : Addr × Obj → Sp) : Prop where
  len : ∀ p vs H Q E, sp p vs H Q E → vs.length = ps.length
  run : ∀ (p : Addr × Obj) (A : Around) (outer : List Env) (s : Shared) (H : Hp) (args : Args) (us : List Value) (vs : List V) (Q : VK) (E : XK),
    L2H.RoomH k A → L2H.Hot1 A p → L2H.PinOk outer H s p → Env0 P w K mg base A outer s H → BindsTo s fd args (ps.zip us) →
    Vals vs us → sp p vs H Q E → codeAny (model P w) A (.call (.ref f) args) (CR CX outer P w H s Q E) s

theorem fnE_of {CX : CXT} {k : Nat} {f : Addr} {N ps : List Str} {sp : Addr × Obj → Sp} {x qual : Str} {params : Arguments} {body : List Stmt} {scope : Scope} {dvs : List V} {kws : List (Str × V)} {fd : FuncData}
    (F : FunD K x qual params body scope dvs kws f fd) (S : FnScope N ps scope)
    (len : ∀ p vs H Q E, sp p vs H Q E → vs.length = ps.length)
    (hbody : ∀ (cdv : Value) (A : Around) (outer : List Env) (s : Shared) (H : Hp) (vs : List V) (Q : VK) (E : XK) (p : Addr × Obj), L2H.Hot1 A p →
      L2H.RoomH k (A.deeper (envOfC qual scope s.heap.objs.size f cdv)) → sp p vs H Q E →
      ∃ t, PSs (L2H.cxH CX P w K mg base N qual scope f cdv A outer s H E p) body t ∧ t { nx := fun _ H' => Q .non H', rt := Q } (L2.start N vs) H) :
    FnE P w K mg base CX (k + 1) f fd ps sp := by
  obtain ⟨oc, od, dV, kV, doc, pm, an, cdv, ct, osl, rfl, lk, hcd, _, _⟩ := F.ex
  constructor
  · exact len
  intro p A outer s H args us vs Q E room hot pin e0 bnd rel hsp
  have hl := len _ _ _ _ _ hsp
  have hK : K.In s.heap := e0.mod.kin.keeps (fun b o e => (e0.bs b o e).1)
  have hlim : s.heap.NoLimit := e0.mod.nolimit.keeps (fun b o e => (e0.bs b o e).1)
  have hkinds : ∀ y ∈ ps.zip us, scope.names.lookup y.1 = some .local ∨ (scope.names.lookup y.1 = some .cell ∧ ((cellsFrom (s.heap.objs.size + 1) scope.names []).lookup y.1).isSome = true) := by
    rintro ⟨n, v⟩ hy
    have hm := (List.of_mem_zip hy).1
    cases S.par n hm with
    | inl q => exact .inl q
    | inr q => exact .inr ⟨q, PySem.W.cellsFrom_some _ _ _ (.inl q)⟩
  refine codeAny_call_function room.depth (hK _ _ lk) rfl S.co S.gen rfl (PySem.W.codeRec_of hK hcd) (bnd _ _ _ _ ?_)
  refine wpAny_newFunctionEnv_cells S.kind hkinds (fun env he s1 x => ?_)
  subst he
  refine ⟨hlim.keeps x.toInCall.keep, codeAny_func ?_⟩
  obtain ⟨t, ht, hq⟩ := hbody cdv A outer s H vs Q E p hot (room.deeper _) hsp
  have I := L2H.inv_startH (CX := CX) (E := E) S pin e0 hl rel x
  refine wpAny_mono (ht.run [] s1 (L2.start N vs) H _ I hq) ?_ (fun e s' hs => hs)
  intro fl s' hs
  match fl, hs with
  | .ret u, ⟨v, σ', H', J, rv, q⟩ => exact ⟨v, H', J.os, J.bare, J.base, J.hok, rv, q⟩
  | .next, ⟨σ', H', J, q⟩ => exact ⟨V.non, H', J.os, J.bare, J.base, J.hok, rfl, q⟩
  | .brk, ⟨_, _, _, q⟩ => exact q.elim
  | .cont, ⟨_, _, _, q⟩ => exact q.elim
/-- from a context that bears p as the handled exception -/
theorem pe_callE {X : Cx} {CX : CXT} {k : Nat} {f : Addr} {fd : FuncData} {ps : List Str} {sp : Addr × Obj → Sp} {E : L2.St → XK} {x : Str} {q pos : Pos} {e : Expr} {es : List Expr} {t : TA} {p : Addr × Obj}
    (F : FnE X.prog X.w X.K X.mg X.base CX k f fd ps sp) (hr : L2H.RoomH k X.A) (hot : L2H.Hot1 X.A p) (hp : p ∈ X.pn)
    {sp0 : Sp} (hi : ∀ vs H Q E, sp0 vs H Q E → sp p vs H Q E)
    (hg : Gl X x) (hm : X.mg x = some (.ref f)) (hk : PySem.W.keepIn X.K (.ref f) = true) (hb : Binds X.K fd ps []) (hx : ∀ σ, PassesAt CX X σ (E σ))
    (ha : PA X (e :: es) t) (hdb : (x == ("__debug__" : Str)) = false := by decide)
    (he : starEach (e :: es) X.env = (false, eval e X.env) :: starEach es X.env := by rfl)
    (hpl : (backTo pos (starEach es X.env)).any (·.1) = false := by rfl) :
    PE X (.Call (.Name x q) (e :: es) [] pos) (tCallS sp0 E t) := by
  refine ⟨fun pins s σ H Q I h => ?_⟩
  refine wpAny_Call_Name_kw (ld_glob I hg hm ?_ hdb)
  refine PySem.W.callWith_K (h₀ := X.base) I.ok.mod.kin hk (thn (ha.run pos pins s σ H _ I h) ?_) he hpl
  rintro us s1 ⟨vs, H1, J, r, hq0⟩
  have hq := hi _ _ _ _ hq0
  refine ⟨J.kIn, ?_⟩
  have hl : us.length = ps.length := by rw [← r.length]; exact F.len _ _ _ _ _ hq
  have b := hb s1 us J.kIn (by rw [List.append_nil]; exact hl)
  rw [List.append_nil] at b
  have P1 := J.pin p (List.mem_append_left _ hp)
  have hpin : L2H.PinOk X.stack H1 s1 p :=
    ⟨P1.1, P1.2.1, fun hm => (List.mem_cons.mp (J.stkSub p.1 hm)).elim P1.2.2.1 P1.2.2.2.1, P1.2.2.2.2⟩
  refine wpAny_call (codeAny_mono (F.run p X.A X.stack s1 H1 ⟨us, []⟩ us vs Q (E σ) hr hot hpin J.env0 b r hq) ?_)
  intro r s' hq'
  match r, hq' with
  | .error e, h => exact hx σ pins H1 s1 e s' J h
  | .ok (.ret u), h => exact J.after h
  | .ok .next, h => exact h.elim
  | .ok .brk, h => exact h.elim
  | .ok .cont, h => exact h.elim
end
/-! ### what may be asked of the handled exception -/
section
variable {X : Cx} {a C : Addr} {oe : Obj} {d : Addr}
/-- e.n -/
theorem pe_xfP {e : Expr} {te : TE} {pos : Pos} {n : Str} (T : XfC X.K C) (hno : PySem.W.findIn X.K (.ref C) n = some none)
    (hz : L2N.Zn (.ref C) (some d) oe) (hf : ∃ vs, oe.data = .fields vs) (hp : (a, oe) ∈ X.pn) (he : PE X e te)
    (hb : attributeBase e n X.env (eval e X.env) = eval e X.env := by rfl) :
    PE X (.Attribute e n pos) (tXf a (.ref C) (some d) C n te) := by
  refine ⟨fun pins s σ H Q I h => attr_of hb (thn (he.run pins s σ H _ I h) ?_)⟩
  rintro u s1 ⟨x, H1, J, rx, ex, ec, dd, fs, v, ed, ea, l, q⟩
  subst ex
  obtain rfl : u = Value.ref a := rx
  cases ed
  have hget := (J.pin (a, oe) (List.mem_append_left _ hp)).1
  obtain ⟨vs, hd⟩ := hf
  obtain ⟨mA, hns, hr⟩ := (J.hok d _ ea : ObjOk X.prog X.w H1 s1.heap d (.xd fs))
  obtain ⟨od, ho, hl⟩ := lookIn_ns hns
  have hrn := hr n
  rw [l] at hrn
  obtain ⟨u, hu, ru⟩ := RelO.some_of hrn
  have inst : PySem.W.InstAt s1.heap a oe C (some od) := by
    refine ⟨hget, hz.1, ?_, ?_⟩
    · unfold PySem.W.notCls; rw [hd] <;> rfl
    · rw [hz.2.1]; exact ho
  refine HandSPX.exc_get J.kIn inst T.ga T.gg T.exC (PySem.W.findObj_own T.hdC hno rfl (by rw [hl, hu])) (handed_of ru) ?_
  exact ⟨v, H1, J.tok _, ru, q⟩
/-- isinstance(e, ..): e the handled exception, its dict stands at d -/
def rIsE (K : Fg) (C a d : Addr) : List V → Hp → VK → Prop := fun xs H Q => (∃ fs, H d = some (.xd fs)) ∧
  ((∃ (D : Addr) (b : Bool), xs = [.ref a, .ref D] ∧ PySem.W.kitOne K (.ref C) (.ref D) = some b ∧ Q (.bl b) H) ∨
   (∃ (T : String) (b : Bool), xs = [.ref a, .ty T] ∧ PySem.W.kitOne K (.ref C) (.type T) = some b ∧ Q (.bl b) H) ∨
   (∃ (t : Addr) (Ds : List Addr) (b : Bool), xs = [.ref a, .ref t] ∧ SqT K H t (Ds.map V.ref) ∧ PySem.W.kitAny K (.ref C) (Ds.map Value.ref) = some b ∧ Q (.bl b) H))
theorem vals_refs : ∀ {Ds : List Addr} {us : List Value}, Vals (Ds.map V.ref) us → us = Ds.map Value.ref
  | [], _, .nil => rfl
  | a :: r, _, .cons h t => by
    cases h
    rw [vals_refs t]
    rfl
theorem call_isE (T : EC X.K C) (hz : L2N.Zn (.ref C) (some d) oe) (hf : ∃ vs, oe.data = .fields vs) (hp : (a, oe) ∈ X.pn) : CallR X (.builtin "isinstance") (rIsE X.K C a d) := by
  intro pins s σ H xs us Q I r h
  obtain ⟨⟨fs, ea⟩, h⟩ := h
  have hget := (I.pin (a, oe) (List.mem_append_left _ hp)).1
  obtain ⟨vs, hd⟩ := hf
  obtain ⟨mA, hns, hr⟩ := (I.hok d _ ea : ObjOk X.prog X.w H s.heap d (.xd fs))
  obtain ⟨od, ho, hl⟩ := lookIn_ns hns
  have inst : PySem.W.InstAt s.heap a oe C (some od) := by
    refine ⟨hget, hz.1, ?_, ?_⟩
    · unfold PySem.W.notCls; rw [hd] <;> rfl
    · rw [hz.2.1]; exact ho
  have kx := PySem.W.kitx_exc (K := X.K) (x := a) (C := C) (ox := oe) (od := some od) T.hc T.xf.ga T.xf.gg T.xf.exC T.ca T.gt T.tk T.mo
  rcases h with ⟨D, b, rfl, e, q⟩ | ⟨T', b, rfl, e, q⟩ | ⟨t, Ds, b, rfl, ht, e, q⟩
  · obtain ⟨u, v, rfl, h1, h2⟩ : ∃ u v, us = [u, v] ∧ RelV (.ref a) u ∧ RelV (.ref D) v := by
      cases r with
      | cons r1 r2 => cases r2 with
        | cons r3 r4 => cases r4; exact ⟨_, _, rfl, r1, r3⟩
    cases h1; cases h2
    exact PySem.W.kia_one kx I.kIn inst e (fun z => nomatch z) fun tk => ⟨.bl b, H, I.kept (t' := tk) fun _ _ z => z, rfl, q⟩
  · obtain ⟨u, v, rfl, h1, h2⟩ : ∃ u v, us = [u, v] ∧ RelV (.ref a) u ∧ RelV (.ty T') v := by
      cases r with
      | cons r1 r2 => cases r2 with
        | cons r3 r4 => cases r4; exact ⟨_, _, rfl, r1, r3⟩
    cases h1; cases h2
    exact PySem.W.kia_one kx I.kIn inst e (fun z => nomatch z) fun tk => ⟨.bl b, H, I.kept (t' := tk) fun _ _ z => z, rfl, q⟩
  · obtain ⟨u, v, rfl, h1, h2⟩ : ∃ u v, us = [u, v] ∧ RelV (.ref a) u ∧ RelV (.ref t) v := by
      cases r with
      | cons r1 r2 => cases r2 with
        | cons r3 r4 => cases r4; exact ⟨_, _, rfl, r1, r3⟩
    cases h1; cases h2
    obtain ⟨its, hv, ht', _⟩ := I.tuple ht
    have ei := vals_refs hv
    subst ei
    obtain ⟨ob, hob, hcls, hdat⟩ := ht'
    obtain ⟨oc, odt, oda, osl⟩ := ob
    dsimp only at hcls hdat
    subst hcls
    obtain ⟨n, rfl⟩ : ∃ n, oda = Data.seq (Ds.map Value.ref).toArray n := by
      first
        | exact ⟨_, hdat⟩
        | exact hdat
    exact PySem.W.kia_tup kx I.kIn inst hob e (fun z => nomatch z) fun tk => ⟨.bl b, H, I.kept (t' := tk) fun _ _ z => z, rfl, q⟩
end
end GV

namespace GV
open PySem PySem.Spec PyProof.Rows L2
/-! ### raise C(e, ..) of an own class whose __init__ stores its arguments -/
section
variable {X : Cx} {e : Expr} {es : List Expr} {ta : TA} {p pos : Pos}
theorem pmk_oexN {CX : CXT} {x : Str} {C fI : Addr} {k : Nat} {fd : FuncData} {ps : List Str} {sp : Sp} (T : OexC X.K C)
    (iC : PySem.W.findIn X.K (.ref C) "__init__" = some (some (.ref fI))) (tI : PySem.W.typeIn X.K (.ref fI) = some (.type "function"))
    (F1 : FnOk X.prog X.w X.K X.mg X.base CX k fI fd ps sp) (hr : Room (k + 1) X.A) (hb : Binds X.K fd ps []) (hx : Passes CX X (fun _ _ _ => False))
    (hg : Gl X x) (hm : X.mg x = some (.ref C)) (ha : PA X (e :: es) ta) (hdb : (x == ("__debug__" : Str)) = false := by decide)
    (he : starEach (e :: es) X.env = (false, eval e X.env) :: starEach es X.env := by rfl)
    (hpl : (backTo pos (starEach es X.env)).any (·.1) = false := by rfl) :
    L2N.PMk X (.Call (.Name x p) (e :: es) [] pos) (tMkO C sp [] ta) := by
  intro pins s σ H Q I h
  obtain ⟨nm, q, N, bs, bm, sn, sub, ab, col, dd, k0, k1, k2, k3, k5, hC, hbm⟩ := T.cls
  refine wpAny_Call_Name_kw (ld_glob I hg hm ?_ hdb)
  refine PySem.W.callWith_K (h₀ := X.base) I.ok.mod.kin T.kC (thn (ha.run pos pins s σ H _ I h) ?_) he hpl
  rintro us s1 ⟨vs, H1, J, r1, hz, q1⟩
  refine ⟨J.kIn, ?_⟩
  show wpAny _ _ (call (.ref C) us) _ _ _
  obtain ⟨hp, g, dr, tk, os⟩ := s1
  have h01 : hp.objs.size ≤ hp.objs.size + 1 := Nat.le_succ _
  have hn : H1 (hp.objs.size + 1) = none := J.hok.fresh h01
  have hq := q1 (hp.objs.size + 1) hn
  rw [List.append_nil] at hq
  let hp2 := (hp.push (PySem.W.kdv_tup us)).push (PySem.HandSPX.excO C hp.objs.size)
  have kk : ∀ b o, hp.get? b = some o → hp2.get? b = some o := fun b o e => Heap.get?_push_of_some _ (Heap.get?_push_of_some _ e)
  have hget : hp2.get? (hp.objs.size + 1) = some (PySem.HandSPX.excO C hp.objs.size) := by
    show ((hp.push (PySem.W.kdv_tup us)).push (PySem.HandSPX.excO C hp.objs.size)).get? (hp.objs.size + 1) = _
    heap_get
  have J2 : Inv X pins σ (upd H1 (hp.objs.size + 1) (exo (hp.objs.size + 1) C none)) ⟨hp2, g, dr, tk, os⟩ :=
    J.laid (t' := tk) (a := hp.objs.size + 1) (o := exo (hp.objs.size + 1) C none) (h' := hp2) kk h01 (exo_ok hget)
  have r2 : Vals (V.ref (hp.objs.size + 1) :: vs) (Value.ref (hp.objs.size + 1) :: us) := .cons rfl r1
  have hl : (Value.ref (hp.objs.size + 1) :: us ++ []).length = ps.length := by
    have e := r2.length
    rw [F1.len _ _ _ _ hq] at e
    rw [List.append_nil]
    exact e.symm
  have b2 := hb _ (Value.ref (hp.objs.size + 1) :: us) J2.kIn hl
  rw [List.append_nil] at b2
  have hus : us.length ≤ sizeLine := by
    rw [← Paired.length r1, sizeLine_eq]
    omega
  refine wpAny_call (PySem.HandSPX.call_own F.excBase_ValueError (fun Y => PySem.HandSPX.refsVE_contains Y bm hbm) (J.kIn _ _ hC) (PySem.W.looks_findIn J.kIn iC) (fun self => PySem.W.bind_fn J.kIn self tI) hus
    (codeAny_mono (F1.run _ X.stack _ _ ⟨Value.ref (hp.objs.size + 1) :: us, []⟩ (Value.ref (hp.objs.size + 1) :: us) _ _ (fun _ _ _ => False) (hr.make C us []) (J2.env0.make C us []) b2 r2 hq) ?_))
  intro r s' hq'
  match r, hq' with
  | .error er, h => exact (hx pins σ _ _ er s' J2 h)
  | .ok .next, h => exact h.elim
  | .ok .brk, h => exact h.elim
  | .ok .cont, h => exact h.elim
  | .ok (.ret u), h =>
    obtain ⟨v, H2, os2, bare2, un2, hok2, rv, ev, d, fs, ea, ed, hd1, q2⟩ := h
    subst ev
    obtain ⟨h2, g2, d2, t2, os'⟩ := s'
    obtain ⟨t0, G, I4, kG, ge, hoe, na⟩ := mk_end0 (d2 := d2) (t2 := t2) J h01 kk un2 hok2 os2 bare2 ea ed hd1
    refine ⟨rv, ⟨hp.objs.size + 1, _, _, ⟨G, g2, d2, t2, os'⟩, _, .ref C, some d, rfl, I4, kG, ge, hoe, ⟨rfl, rfl, ?_⟩, rfl, rfl, na, rfl, bare2, raises_own T.exC T.tyC, q2⟩⟩
    intro vs hv
    cases hv
    rfl
end
/-! ### __init__ -/
/-- it hands back None and leaves the fields fs at a new dict d -/
def spI (C : Addr) (ns : List Str) : Sp := fun vs H Q _ => ∃ (a : Addr) (us : List V), vs = .ref a :: us ∧ us.length = ns.length ∧ H a = some (exo a C none) ∧
  ∀ (d : Addr) (H' : Hp), H d = none → d ≠ a → H' a = some (exo a C (some d)) → H' d = some (exd d (ns.zip us).reverse) →
    (∀ b o, H b = some o → b ≠ a → H' b = some o) → Q .non H'
section
variable {P : Program} {w : World} {K : Fg} {mg : Str → Option Value} {base : Heap} {CX : CXT}
theorem ok_init1 {C f : Addr} {fd : FuncData} {qual n : Str} {params : Arguments} {p1 p2 p3 p4 : Pos} {sc : Scope}
    (F : FunD K "__init__" qual params [.Assign [.Attribute (.Name "self" p1) n p2] (.Name n p3) p4] sc [] [] f fd)
    (S : FnScope ["self", n] ["self", n] sc) (T : OexC K C) (hno : PySem.W.findIn K (.ref C) n = some none)
    (v1 : List.lookup (Str.ofString "self") sc.names = some NameKind.local) (v2 : List.lookup n sc.names = some NameKind.local)
    (hd : (n == ("__debug__" : Str)) = false) (hcd : (n == ("__classdict__" : Str)) = false) :
    FnOk P w K mg base CX 1 f fd ["self", n] (spI C [n]) := by
  refine F.ok S (fun vs H Q E h => ?_) (fun cdv A outer s H vs Q E hr h => ?_)
  · obtain ⟨a, us, rfl, hl, _⟩ := h
    exact congrArg Nat.succ hl
  · obtain ⟨a, us, rfl, hl, ha, k⟩ := h
    obtain ⟨y, rfl⟩ : ∃ y, us = [y] := by
      match us, hl with
      | [y], _ => exact ⟨y, rfl⟩
    refine ⟨_, pss_one (ps_ost (pe_var (i := 0) rfl (.inl v1)) (pe_var (i := 1) rfl (.inl v2) hd hcd)), ?_⟩
    refine ⟨y, rfl, .ref a, rfl, a, C, rfl, T, hno, .inl ⟨ha, fun dx hn ne => ?_⟩⟩
    refine k dx _ hn ne upd_same ?_ (fun b o hb hba => ?_)
    · rw [upd_ne ne, upd_same]
      rfl
    · rw [upd_ne hba, upd_ne (ne_of_none hb hn)]
      exact hb
theorem ok_init2 {C f : Addr} {fd : FuncData} {qual n m : Str} {params : Arguments} {p1 p2 p3 p4 q1 q2 q3 q4 : Pos} {sc : Scope}
    (F : FunD K "__init__" qual params [.Assign [.Attribute (.Name "self" p1) n p2] (.Name n p3) p4, .Assign [.Attribute (.Name "self" q1) m q2] (.Name m q3) q4] sc [] [] f fd)
    (S : FnScope ["self", n, m] ["self", n, m] sc) (T : OexC K C) (hno : PySem.W.findIn K (.ref C) n = some none) (hno2 : PySem.W.findIn K (.ref C) m = some none)
    (v1 : List.lookup (Str.ofString "self") sc.names = some NameKind.local) (v2 : List.lookup n sc.names = some NameKind.local) (v3 : List.lookup m sc.names = some NameKind.local)
    (hd : (n == ("__debug__" : Str)) = false) (hcd : (n == ("__classdict__" : Str)) = false) (hd2 : (m == ("__debug__" : Str)) = false) (hcd2 : (m == ("__classdict__" : Str)) = false) :
    FnOk P w K mg base CX 1 f fd ["self", n, m] (spI C [n, m]) := by
  refine F.ok S (fun vs H Q E h => ?_) (fun cdv A outer s H vs Q E hr h => ?_)
  · obtain ⟨a, us, rfl, hl, _⟩ := h
    exact congrArg Nat.succ hl
  · obtain ⟨a, us, rfl, hl, ha, k⟩ := h
    obtain ⟨y, z, rfl⟩ : ∃ y z, us = [y, z] := by
      match us, hl with
      | [y, z], _ => exact ⟨y, z, rfl⟩
    refine ⟨_, pss_cons (ps_ost (pe_var (i := 0) rfl (.inl v1)) (pe_var (i := 1) rfl (.inl v2) hd hcd)) (pss_one (ps_ost (pe_var (i := 0) rfl (.inl v1)) (pe_var (i := 2) rfl (.inl v3) hd2 hcd2))), ?_⟩
    refine ⟨y, rfl, .ref a, rfl, a, C, rfl, T, hno, .inl ⟨ha, fun dx hn ne => ?_⟩⟩
    have e1 : (upd (upd H dx (exd dx [(n, y)])) a (exo a C (some dx))) a = some (exo a C (some dx)) := upd_same
    have e2 : (upd (upd H dx (exd dx [(n, y)])) a (exo a C (some dx))) dx = some (exd dx [(n, y)]) := by rw [upd_ne ne, upd_same]
    refine ⟨z, rfl, .ref a, rfl, a, C, rfl, T, hno2, .inr ⟨dx, [(n, y)], e1, e2, by show 1 ≤ 900; decide, ?_⟩⟩
    refine k dx _ hn ne ?_ upd_same (fun b o hb hba => ?_)
    · rw [upd_ne ne.symm]
      exact e1
    · rw [upd_ne (ne_of_none hb hn), upd_ne hba, upd_ne (ne_of_none hb hn)]
      exact hb
/-- the reading of a raise, at the arguments' values -/
theorem mkO_pt {C : Addr} {ns : List Str} {us : List V} {H1 : Hp} {Q : XK} (h9 : ns.length ≤ 900) (hl : us.length = ns.length)
    (k : ∀ d Hf, H1 d = none → Hf d = some (.xd (ns.zip us).reverse) → (∀ b o, H1 b = some o → Hf b = some o) → Q (.ref C) (some d) Hf) :
    us.length ≤ 1000 ∧ ∀ a, H1 a = none → spI C ns (.ref a :: (us ++ [])) (upd H1 a (exo a C none))
      (fun v H2 => v = .non ∧ ∃ (d : Addr) (fs : List (Str × V)), H2 a = some (exo a C (some d)) ∧ H2 d = some (exd d fs) ∧ H1 d = none ∧ Q (.ref C) (some d) (upd (del H2 a) d (.xd fs))) (fun _ _ _ => False) := by
  refine ⟨by rw [hl]; omega, fun a ha => ⟨a, us, by rw [List.append_nil], hl, upd_same, ?_⟩⟩
  intro d H' hd hda e1 e2 keep
  have hd1 : H1 d = none := by rw [upd_ne hda] at hd; exact hd
  refine ⟨rfl, d, _, e1, e2, hd1, k d _ hd1 upd_same fun b o hb => ?_⟩
  have hba : b ≠ a := ne_of_none hb ha
  rw [upd_ne (ne_of_none hb hd1), del_ne hba]
  refine keep b o ?_ hba
  rw [upd_ne hba]
  exact hb
end
end GV

/-! A layer over HandS: abstract values (tuples are values), a heap of cells, one universal reading a construct. -/
namespace GA
open PySem PySem.Spec PyProof.Rows L2 GV TL
inductive D where
  | non | bl (b : Bool) | int (i : Int) | str (cs : List Nat) | ref (a : Addr) | ty (n : String) | tup (ds : List D) | lof (ds : List D)
inductive Cell where
  | lst (ds : List D)
  | dic (kvs : List (Key × D))
  | dit (kvs : List (List Key × D))
  | xd (fs : List (Str × D))
abbrev Ah := Addr → Option Cell
def updA (A : Ah) (a : Addr) (c : Cell) : Ah := fun b => if b = a then some c else A b
theorem updA_same {A : Ah} {a : Addr} {c : Cell} : updA A a c a = some c := if_pos rfl
theorem updA_ne {A : Ah} {a b : Addr} {c : Cell} (h : b ≠ a) : updA A a c b = A b := if_neg h
theorem updA_updA {A : Ah} {a : Addr} {c c' : Cell} : updA (updA A a c) a c' = updA A a c' := by
  funext b; unfold updA; split <;> rfl
theorem neA {A : Ah} {a b : Addr} {c : Cell} (h : A a = some c) (h' : A b = none) : a ≠ b := by
  intro e; subst e; rw [h] at h'; cases h'
/-- a list that nothing writes to: frozen, or of the text -/
def SqF (K : Fg) (H : Hp) (a : Addr) (xs : List V) : Prop := (∃ o, H a = some (.frz o (.lst xs))) ∨ ∃ o its n, List.lookup a K = some o ∧ o.cls = Value.type "list" ∧ o.dict = none ∧ o.data = Data.seq its n ∧ its.size ≤ sizeLine ∧ Vals xs its.toList
theorem SqF.seq {K : Fg} {H : Hp} {a : Addr} {xs : List V} (h : SqF K H a xs) : SqL K H a xs := h.imp (fun h => .inr h) id
theorem SqF.of {K : Fg} {H : Hp} {a : Addr} {xs : List V} (o : Only H) (h : SqL K H a xs) : SqF K H a xs := h.imp (fun h => by
  rcases h with h | h
  · rcases o a with e | ⟨_, _, e⟩
    · rw [e] at h; cases h
    · rw [e] at h; cases h
  · exact h) id
mutual
inductive Val (K : Fg) (H : Hp) : V → D → Prop
  | non : Val K H .non .non
  | bl (b : Bool) : Val K H (.bl b) (.bl b)
  | int (i : Int) : Val K H (.int i) (.int i)
  | str (x : Str) : Val K H (.str x) (.str (tl x))
  | ref (a : Addr) : Val K H (.ref a) (.ref a)
  | ty (n : String) : Val K H (.ty n) (.ty n)
  | tup {a : Addr} {vs : List V} {ds : List D} : SqT K H a vs → Vls K H vs ds → Val K H (.ref a) (.tup ds)
  | lof {a : Addr} {vs : List V} {ds : List D} : SqF K H a vs → Vls K H vs ds → Val K H (.ref a) (.lof ds)
inductive Vls (K : Fg) (H : Hp) : List V → List D → Prop
  | nil : Vls K H [] []
  | cons {v : V} {vs : List V} {d : D} {ds : List D} : Val K H v d → Vls K H vs ds → Vls K H (v :: vs) (d :: ds)
end
structure Nxt (K : Fg) (H H' : Hp) : Prop where
  tp : ∀ a xs, SqT K H a xs → SqT K H' a xs
  fz : ∀ a o u, H a = some (.frz o u) → H' a = some (.frz o u)
theorem Nxt.rfl {K : Fg} {H : Hp} : Nxt K H H := ⟨fun _ _ h => h, fun _ _ _ h => h⟩
theorem Nxt.trans {K : Fg} {H H1 H2 : Hp} (a : Nxt K H H1) (b : Nxt K H1 H2) : Nxt K H H2 := ⟨fun x xs h => b.tp x xs (a.tp x xs h), fun x o u h => b.fz x o u (a.fz x o u h)⟩
mutual
theorem Val.mono {K : Fg} {H H' : Hp} (n : Nxt K H H') : ∀ {d : D} {v : V}, Val K H v d → Val K H' v d
  | .non, _, .non => .non
  | .bl _, _, .bl b => .bl b
  | .int _, _, .int i => .int i
  | .str _, _, .str x => .str x
  | .ref _, _, .ref a => .ref a
  | .ty _, _, .ty s => .ty s
  | .tup _, _, .tup h t => .tup (n.tp _ _ h) (Vls.mono n t)
  | .lof _, _, .lof h t => .lof (h.imp (fun ⟨o, h⟩ => ⟨o, n.fz _ _ _ h⟩) id) (Vls.mono n t)
theorem Vls.mono {K : Fg} {H H' : Hp} (n : Nxt K H H') : ∀ {ds : List D} {vs : List V}, Vls K H vs ds → Vls K H' vs ds
  | [], _, .nil => .nil
  | _ :: _, _, .cons h t => .cons (Val.mono n h) (Vls.mono n t)
end
section
variable {K : Fg} {H : Hp}
theorem Val.inv_non {v : V} (h : Val K H v .non) : v = .non := by cases h; rfl
theorem Val.inv_bl {v : V} {b : Bool} (h : Val K H v (.bl b)) : v = .bl b := by cases h; rfl
theorem Val.inv_int {v : V} {i : Int} (h : Val K H v (.int i)) : v = .int i := by cases h; rfl
theorem Val.inv_str {v : V} {cs : List Nat} (h : Val K H v (.str cs)) : ∃ x, v = .str x ∧ tl x = cs := by cases h; exact ⟨_, rfl, rfl⟩
theorem Val.inv_ref {v : V} {a : Addr} (h : Val K H v (.ref a)) : v = .ref a := by cases h; rfl
theorem Val.inv_ty {v : V} {n : String} (h : Val K H v (.ty n)) : v = .ty n := by cases h; rfl
theorem Val.inv_tup {v : V} {ds : List D} (h : Val K H v (.tup ds)) : ∃ a vs, v = .ref a ∧ SqT K H a vs ∧ Vls K H vs ds := by cases h with
  | tup h t => exact ⟨_, _, rfl, h, t⟩
theorem Val.inv_lof {v : V} {ds : List D} (h : Val K H v (.lof ds)) : ∃ a vs, v = .ref a ∧ SqF K H a vs ∧ Vls K H vs ds := by cases h with
  | lof h t => exact ⟨_, _, rfl, h, t⟩
theorem Val.strOf {x : Str} {cs : List Nat} (h : tl x = cs) : Val K H (.str x) (.str cs) := by subst h; exact .str x
theorem Vls.length {vs : List V} {ds : List D} (h : Vls K H vs ds) : vs.length = ds.length := by
  induction ds generalizing vs with
  | nil => cases h; rfl
  | cons d ds ih => cases h with
    | cons h t => exact congrArg Nat.succ (ih t)
theorem Vls.get {vs : List V} {ds : List D} (h : Vls K H vs ds) {i : Nat} {d : D} (e : ds[i]? = some d) : ∃ v, vs[i]? = some v ∧ Val K H v d := by
  induction ds generalizing vs i with
  | nil => cases e
  | cons d' ds ih => cases h with
    | cons h t => cases i with
      | zero => cases e; exact ⟨_, rfl, h⟩
      | succ i => exact ih t e
theorem Vls.get' {vs : List V} {ds : List D} (h : Vls K H vs ds) {i : Nat} {v : V} (e : vs[i]? = some v) : ∃ d, ds[i]? = some d ∧ Val K H v d := by
  induction ds generalizing vs i with
  | nil => cases h; cases e
  | cons d' ds ih => cases h with
    | cons h t => cases i with
      | zero => cases e; exact ⟨_, rfl, h⟩
      | succ i => exact ih t e
theorem Vls.append {vs ws : List V} {ds es : List D} (h : Vls K H vs ds) (h' : Vls K H ws es) : Vls K H (vs ++ ws) (ds ++ es) := by
  induction ds generalizing vs with
  | nil => cases h; exact h'
  | cons d ds ih => cases h with
    | cons h t => exact .cons h (ih t)
theorem Vls.take {vs : List V} {ds : List D} (n : Nat) (h : Vls K H vs ds) : Vls K H (vs.take n) (ds.take n) := by
  induction n generalizing vs ds with
  | zero => exact .nil
  | succ n ih => cases h with
    | nil => exact .nil
    | cons h t => exact .cons h (ih t)
theorem Vls.drop {vs : List V} {ds : List D} (n : Nat) (h : Vls K H vs ds) : Vls K H (vs.drop n) (ds.drop n) := by
  induction n generalizing vs ds with
  | zero => exact h
  | succ n ih => cases h with
    | nil => exact .nil
    | cons h t => exact ih t
theorem Vls.set {vs : List V} {ds : List D} {v : V} {d : D} (hv : Val K H v d) (n : Nat) (h : Vls K H vs ds) : Vls K H (vs.set n v) (ds.set n d) := by
  induction n generalizing vs ds with
  | zero => cases h with
    | nil => exact .nil
    | cons h t => exact .cons hv t
  | succ n ih => cases h with
    | nil => exact .nil
    | cons h t => exact .cons h (ih t)
theorem Vls.rev {vs : List V} {ds : List D} (h : Vls K H vs ds) : Vls K H vs.reverse ds.reverse := by
  induction ds generalizing vs with
  | nil => cases h; exact .nil
  | cons d ds ih => cases h with
    | cons h t =>
      rw [List.reverse_cons, List.reverse_cons]
      exact (ih t).append (.cons h .nil)
end
/-- what stands at a cell's address -/
inductive CellOk (K : Fg) (H : Hp) : Cell → HO → Prop
  | lst {ds : List D} {vs : List V} : Vls K H vs ds → CellOk K H (.lst ds) (.lst vs)
  | dic {kvs : List (Key × D)} {ws : List (Key × V)} : Paired (fun (p : Key × V) (q : Key × D) => p.1 = q.1 ∧ Val K H p.2 q.2) ws kvs → CellOk K H (.dic kvs) (.dK ws)
  | dit {kvs : List (List Key × D)} {ws : List (List Key × V)} : Paired (fun (p : List Key × V) (q : List Key × D) => p.1 = q.1 ∧ Val K H p.2 q.2) ws kvs → CellOk K H (.dit kvs) (.dT ws)
  | xd {fs : List (Str × D)} {ws : List (Str × V)} : Paired (fun (p : Str × V) (q : Str × D) => p.1 = q.1 ∧ Val K H p.2 q.2) ws fs → CellOk K H (.xd fs) (.xd ws)
theorem CellOk.mono {K : Fg} {H H' : Hp} (n : Nxt K H H') {c : Cell} {o : HO} (h : CellOk K H c o) : CellOk K H' c o := by
  cases h with
  | lst h => exact .lst (h.mono n)
  | dic h => exact .dic (Paired.mapP h fun _ _ z => ⟨z.1, z.2.mono n⟩)
  | dit h => exact .dit (Paired.mapP h fun _ _ z => ⟨z.1, z.2.mono n⟩)
  | xd h => exact .xd (Paired.mapP h fun _ _ z => ⟨z.1, z.2.mono n⟩)
def RelA (K : Fg) (H : Hp) (A : Ah) : Prop := ∀ a c, A a = some c → ∃ o, H a = some o ∧ CellOk K H c o
abbrev Gt := List (Option D)
structure Slots (K : Fg) (H : Hp) (σ : L2.St) (Γ : Gt) : Prop where
  len : σ.length = Γ.length
  get : ∀ (i : Nat) (d : D), Γ[i]? = some (some d) → ∃ v, σ[i]? = some (some v) ∧ Val K H v d
theorem Slots.mono {K : Fg} {H H' : Hp} {σ : L2.St} {Γ : Gt} (s : Slots K H σ Γ) (n : Nxt K H H') : Slots K H' σ Γ :=
  ⟨s.len, fun i d e => let ⟨v, h1, h2⟩ := s.get i d e; ⟨v, h1, h2.mono n⟩⟩
theorem Slots.set {K : Fg} {H : Hp} {σ : L2.St} {Γ : Gt} (s : Slots K H σ Γ) {i : Nat} {v : V} {d : D} (h : Val K H v d) : Slots K H (σ.set i (some v)) (Γ.set i (some d)) := by
  refine ⟨by rw [List.length_set, List.length_set]; exact s.len, fun j e hj => ?_⟩
  by_cases hij : i = j
  · subst hij
    by_cases hi : i < Γ.length
    · rw [List.getElem?_set_self hi] at hj
      cases hj
      exact ⟨v, List.getElem?_set_self (by rw [s.len]; exact hi), h⟩
    · rw [List.getElem?_eq_none (by rw [List.length_set]; omega)] at hj
      cases hj
  · rw [List.getElem?_set_ne hij] at hj
    rw [List.getElem?_set_ne hij]
    exact s.get j e hj
theorem Slots.unset {K : Fg} {H : Hp} {σ : L2.St} {Γ : Gt} (s : Slots K H σ Γ) {i : Nat} : Slots K H (σ.set i none) (Γ.set i none) := by
  refine ⟨by rw [List.length_set, List.length_set]; exact s.len, fun j e hj => ?_⟩
  by_cases hij : i = j
  · subst hij
    by_cases hi : i < Γ.length
    · rw [List.getElem?_set_self hi] at hj
      cases hj
    · rw [List.getElem?_eq_none (by rw [List.length_set]; omega)] at hj
      cases hj
  · rw [List.getElem?_set_ne hij] at hj
    rw [List.getElem?_set_ne hij]
    exact s.get j e hj
/-- an exception in the air: the name of its class, its dict's address -/
structure Exn where
  cls : Str
  d : Addr
abbrev AX := Exn → Ah → Prop
abbrev AE := Gt → Ah → (D → Ah → Prop) → AX → Prop
abbrev AT := Gt → Ah → (Bool → Ah → Prop) → AX → Prop
abbrev AA := Gt → Ah → (List D → Ah → Prop) → AX → Prop
structure AEnds where
  nx : Gt → Ah → Prop
  rt : D → Ah → Prop
  bk : Gt → Ah → Prop
  ct : Gt → Ah → Prop
  ex : Exn → Gt → Ah → Prop
abbrev AS := AEnds → Gt → Ah → Prop
abbrev exC (K : Fg) (e : Exn) : Value := .ref (He.ga K e.cls)
/-- what an expression's reading owes its abstract reading -/
def SimE (K : Fg) (W : WX) (te : TE) (ae : AE) : Prop := ∀ (σ : L2.St) (H : Hp) (Γ : Gt) (A : Ah) (q : D → Ah → Prop) (x : AX) (Q : VK), RelA K H A → Slots K H σ Γ → ae Γ A q x →
  (∀ H' v d A', Nxt K H H' → RelA K H' A' → Val K H' v d → q d A' → Q v H') → (∀ H' e A', Nxt K H H' → RelA K H' A' → x e A' → W (exC K e) (some e.d) σ H') → te σ H Q
def SimT (K : Fg) (W : WX) (tt : TT) (at_ : AT) : Prop := ∀ (σ : L2.St) (H : Hp) (Γ : Gt) (A : Ah) (q : Bool → Ah → Prop) (x : AX) (Q : Bool → Hp → Prop), RelA K H A → Slots K H σ Γ → at_ Γ A q x →
  (∀ H' b A', Nxt K H H' → RelA K H' A' → q b A' → Q b H') → (∀ H' e A', Nxt K H H' → RelA K H' A' → x e A' → W (exC K e) (some e.d) σ H') → tt σ H Q
def SimA (K : Fg) (W : WX) (ta : TA) (aa : AA) : Prop := ∀ (σ : L2.St) (H : Hp) (Γ : Gt) (A : Ah) (q : List D → Ah → Prop) (x : AX) (Q : List V → Hp → Prop), RelA K H A → Slots K H σ Γ → aa Γ A q x →
  (∀ H' vs ds A', Nxt K H H' → RelA K H' A' → Vls K H' vs ds → q ds A' → Q vs H') → (∀ H' e A', Nxt K H H' → RelA K H' A' → x e A' → W (exC K e) (some e.d) σ H') → ta σ H Q
structure SimD (K : Fg) (W : WX) (H0 : Hp) (D : L2.Ends) (AD : AEnds) : Prop where
  nx : ∀ σ H Γ A, Nxt K H0 H → RelA K H A → Slots K H σ Γ → AD.nx Γ A → D.nx σ H
  rt : ∀ v H d A, Nxt K H0 H → RelA K H A → Val K H v d → AD.rt d A → D.rt v H
  bk : ∀ σ H Γ A, Nxt K H0 H → RelA K H A → Slots K H σ Γ → AD.bk Γ A → D.bk σ H
  ct : ∀ σ H Γ A, Nxt K H0 H → RelA K H A → Slots K H σ Γ → AD.ct Γ A → D.ct σ H
  ex : ∀ e σ H Γ A, Nxt K H0 H → RelA K H A → Slots K H σ Γ → AD.ex e Γ A → W (exC K e) (some e.d) σ H
theorem SimD.mono {K : Fg} {W : WX} {H0 H1 : Hp} {D : L2.Ends} {AD : AEnds} (h : SimD K W H0 D AD) (n : Nxt K H0 H1) : SimD K W H1 D AD :=
  ⟨fun σ H Γ A k => h.nx σ H Γ A (n.trans k), fun v H d A k => h.rt v H d A (n.trans k), fun σ H Γ A k => h.bk σ H Γ A (n.trans k), fun σ H Γ A k => h.ct σ H Γ A (n.trans k), fun e σ H Γ A k => h.ex e σ H Γ A (n.trans k)⟩
def SimS (K : Fg) (W : WX) (ts : TS) (as : AS) : Prop := ∀ (D : L2.Ends) (AD : AEnds) (σ : L2.St) (H : Hp) (Γ : Gt) (A : Ah), RelA K H A → Slots K H σ Γ → as AD Γ A → SimD K W H D AD → ts D σ H
structure PEA (X : Cx) (W : WX) (e : Expr) (te : TE) (ae : AE) : Prop where
  pe : PE X e te
  sim : SimE X.K W te ae
structure PTA (X : Cx) (W : WX) (e : Expr) (tt : TT) (at_ : AT) : Prop where
  pe : PT X e tt
  sim : SimT X.K W tt at_
structure PWA (X : Cx) (W : WX) (e : Expr) (tt : TT) (at_ : AT) : Prop where
  pe : PW X e tt
  sim : SimT X.K W tt at_
structure PAA (X : Cx) (W : WX) (es : List Expr) (ta : TA) (aa : AA) : Prop where
  pe : PA X es ta
  sim : SimA X.K W ta aa
structure PSA (X : Cx) (W : WX) (st : Stmt) (ts : TS) (as : AS) : Prop where
  pe : PS X st ts
  sim : SimS X.K W ts as
structure PSsA (X : Cx) (W : WX) (sts : List Stmt) (ts : TS) (as : AS) : Prop where
  pe : PSs X sts ts
  sim : SimS X.K W ts as
/-! ### expressions -/
section
variable {X : Cx} {W : WX}
def aVar (i : Nat) : AE := fun Γ A q _ => match Γ[i]? with
  | some (some d) => q d A
  | _ => False
theorem ga_var {i : Nat} {x : Str} {pos : Pos} (hN : X.N[i]? = some x := by rfl) (hv : Vis X.env.scope x := by first | exact Or.inl rfl | exact Or.inr (Or.inl rfl) | exact Or.inr (Or.inr rfl)) (hd : (x == ("__debug__" : Str)) = false := by decide)
    (hcd : (x == ("__classdict__" : Str)) = false := by decide) : PEA X W (.Name x pos) (tVar i) (aVar i) where
  pe := pe_var hN hv hd hcd
  sim := fun σ H Γ A q x Q R S h k _ => by
    unfold aVar at h
    split at h
    · rename_i d e
      obtain ⟨v, h1, h2⟩ := S.get i d e
      exact ⟨v, h1, k H v d A .rfl R h2 h⟩
    · exact h.elim
def aC (d : D) : AE := fun _ A q _ => q d A
theorem sim_c {K : Fg} {v : V} {d : D} (hv : ∀ H, Val K H v d) : SimE K W (tC v) (aC d) := fun σ H Γ A q x Q R S h k _ => k H v d A .rfl R (hv H) h
theorem ga_int {i j pos} : PEA X W (.Constant (.int i) j pos) (tC (.int i)) (aC (.int i)) := ⟨pe_int, sim_c fun _ => .int i⟩
theorem ga_bl {b j pos} : PEA X W (.Constant (.bool b) j pos) (tC (.bl b)) (aC (.bl b)) := ⟨pe_bl, sim_c fun _ => .bl b⟩
theorem ga_non {j pos} : PEA X W (.Constant .none j pos) (tC .non) (aC .non) := ⟨pe_non, sim_c fun _ => .non⟩
theorem ga_str {x j pos} : PEA X W (.Constant (.str x) j pos) (tC (.str x)) (aC (.str (tl x))) := ⟨pe_str, sim_c fun _ => .str x⟩
theorem ga_glob {x : Str} {v : V} {u : Value} {d : D} {pos : Pos} (hm : X.mg x = some u) (r : RelV v u) (hv : ∀ H, Val X.K H v d) (hg : Gl X x := by rfl) (hd : (x == ("__debug__" : Str)) = false := by decide) : PEA X W (.Name x pos) (tC v) (aC d) :=
  ⟨pe_glob hg hm r hd, sim_c hv⟩
theorem ga_bltn {x : Str} {v : V} {u : Value} {d : D} {pos : Pos} (hm : X.mg x = none) (hv : bootBuiltins x = some u) (r : RelV v u) (hd : ∀ H, Val X.K H v d) (hg : Gl X x := by rfl) (hn : x ≠ "__name__" := by decide) (hdb : (x == ("__debug__" : Str)) = false := by decide) :
    PEA X W (.Name x pos) (tC v) (aC d) := ⟨pe_bltn hg hm hv r hn hdb, sim_c hd⟩
/-- a two-place operation on values -/
abbrev A2 := D → D → Ah → (D → Ah → Prop) → Prop
def Sim2 (K : Fg) (r : R2) (ar : A2) : Prop := ∀ (H : Hp) (A : Ah) (v w : V) (d e : D) (q : D → Ah → Prop) (Q : VK), RelA K H A → Val K H v d → Val K H w e → ar d e A q →
  (∀ H' z f A', Nxt K H H' → RelA K H' A' → Val K H' z f → q f A' → Q z H') → r v w H Q
def aOp (r : A2) (a b : AE) : AE := fun Γ A q x => a Γ A (fun d A1 => b Γ A1 (fun e A2 => r d e A2 q) x) x
theorem sim_op {K : Fg} {r : R2} {ar : A2} {ta tb : TE} {aa ab : AE} (hr : Sim2 K r ar) (ha : SimE K W ta aa) (hb : SimE K W tb ab) : SimE K W (tOp r ta tb) (aOp ar aa ab) :=
  fun σ H Γ A q x Q R S h k kx => ha σ H Γ A _ x _ R S h (fun H1 v d A1 n1 R1 v1 h1 => hb σ H1 Γ A1 _ x _ R1 (S.mono n1) h1
    (fun H2 w e A2 n2 R2 v2 h2 => hr H2 A2 v w d e q Q R2 (v1.mono n2) v2 h2 fun H3 z f A3 n3 R3 v3 h3 => k H3 z f A3 ((n1.trans n2).trans n3) R3 v3 h3)
    (fun H2 e A2 n2 R2 h2 => kx H2 e A2 (n1.trans n2) R2 h2)) kx
/-- either of two readings -/
def r2or (r r' : R2) : R2 := fun x y H Q => r x y H Q ∨ r' x y H Q
theorem opR_or {f : Value → Value → Sem Value} {r r' : R2} (h : OpR X f r) (h' : OpR X f r') : OpR X f (r2or r r') := by
  intro pins s σ H x y v u Q I rx ry q
  rcases q with q | q
  · exact h pins s σ H x y v u Q I rx ry q
  · exact h' pins s σ H x y v u Q I rx ry q
theorem ixR_or {r r' : R2} (h : IxR X r) (h' : IxR X r') : IxR X (r2or r r') := by
  intro a b pins s σ H x y v u Q I rx ry q
  rcases q with q | q
  · exact h a b pins s σ H x y v u Q I rx ry q
  · exact h' a b pins s σ H x y v u Q I rx ry q
end
end GA

namespace GA
open PySem PySem.Spec PyProof.Rows L2 GV TL
abbrev big : Nat := 16777216
theorem big_eq : sizeLine = big := sizeLine_eq
section
variable {K : Fg} {H : Hp} {A : Ah}
theorem RelA.none {p : Addr} (R : RelA K H A) (h : H p = none) : A p = none := by
  cases e : A p with
  | none => rfl
  | some c =>
    obtain ⟨o, h1, _⟩ := R p c e
    rw [h] at h1; cases h1
theorem Nxt.new {p : Addr} {o : HO} (h : H p = none) : Nxt K H (upd H p o) := by
  refine ⟨fun a xs hs => ?_, fun a ob u hs => by rw [upd_ne (ne_of_none hs h)]; exact hs⟩
  rcases hs with hs | hs
  · refine .inl ?_
    rcases hs with hs | ⟨ob, hs⟩
    · exact .inl (by rw [upd_ne (ne_of_none hs h)]; exact hs)
    · exact .inr ⟨ob, by rw [upd_ne (ne_of_none hs h)]; exact hs⟩
  · exact .inr hs
/-- an object that is no tuple is changed -/
def NoTup (o : HO) : Prop := (∀ xs, o ≠ .tup xs) ∧ ∀ ob u, o ≠ .frz ob u
theorem Nxt.set {p : Addr} {o o' : HO} (h : H p = some o) (hn : NoTup o) : Nxt K H (upd H p o') := by
  refine ⟨fun a xs hs => ?_, fun a ob u hs => ?_⟩
  rotate_left
  · have : a ≠ p := fun e => by subst e; rw [h] at hs; exact hn.2 _ _ (Option.some.inj hs)
    rw [upd_ne this]; exact hs
  rcases hs with hs | hs
  · refine .inl ?_
    rcases hs with hs | ⟨ob, hs⟩
    · have : a ≠ p := fun e => by subst e; rw [h] at hs; exact hn.1 _ (Option.some.inj hs)
      exact .inl (by rw [upd_ne this]; exact hs)
    · have : a ≠ p := fun e => by subst e; rw [h] at hs; exact hn.2 _ _ (Option.some.inj hs)
      exact .inr ⟨ob, by rw [upd_ne this]; exact hs⟩
  · exact .inr hs
theorem noTup_lst {xs : List V} : NoTup (.lst xs) := ⟨fun _ e => (nomatch e), fun _ _ e => (nomatch e)⟩
theorem noTup_dK {xs : List (Key × V)} : NoTup (.dK xs) := ⟨fun _ e => (nomatch e), fun _ _ e => (nomatch e)⟩
theorem noTup_dT {xs : List (List Key × V)} : NoTup (.dT xs) := ⟨fun _ e => (nomatch e), fun _ _ e => (nomatch e)⟩
/-- an object that A does not know -/
theorem RelA.ext (R : RelA K H A) {p : Addr} {o : HO} (h : H p = .none) : RelA K (upd H p o) A := fun a c e => by
  obtain ⟨o', h1, h2⟩ := R a c e
  exact ⟨o', by rw [upd_ne (ne_of_none h1 h)]; exact h1, h2.mono (.new h)⟩
theorem RelA.new (R : RelA K H A) {p : Addr} {o : HO} {c : Cell} (h : H p = .none) (hc : CellOk K H c o) : RelA K (upd H p o) (updA A p c) := fun a c' e => by
  by_cases hp : a = p
  · subst hp
    rw [updA_same] at e
    cases e
    exact ⟨o, upd_same, hc.mono (.new h)⟩
  · rw [updA_ne hp] at e
    exact R.ext h a c' e
theorem RelA.set (R : RelA K H A) {p : Addr} {o o' : HO} {c : Cell} (h : H p = some o) (hn : NoTup o) (hc : CellOk K H c o') : RelA K (upd H p o') (updA A p c) := fun a c' e => by
  have n : Nxt K H (upd H p o') := .set h hn
  by_cases hp : a = p
  · subst hp
    rw [updA_same] at e
    cases e
    exact ⟨o', upd_same, hc.mono n⟩
  · rw [updA_ne hp] at e
    obtain ⟨o2, h1, h2⟩ := R a c' e
    exact ⟨o2, by rw [upd_ne hp]; exact h1, h2.mono n⟩
/-- less is known -/
theorem RelA.less {A' : Ah} (R : RelA K H A) (h : ∀ a c, A' a = some c → A a = some c) : RelA K H A' := fun a c e => R a c (h a c e)
theorem RelA.lst {a : Addr} {ds : List D} (R : RelA K H A) (h : A a = some (.lst ds)) : ∃ vs, H a = some (.lst vs) ∧ Vls K H vs ds := by
  obtain ⟨o, h1, h2⟩ := R a _ h
  cases h2 with
  | lst hv => exact ⟨_, h1, hv⟩
end
/-! ### + -/
def onL (A : Ah) (a : Addr) (k : List D → Prop) : Prop := ∃ xs, A a = some (.lst xs) ∧ k xs
theorem onL_of {A : Ah} {a : Addr} {k : List D → Prop} (h : onL A a k) : ∃ xs, A a = some (.lst xs) ∧ k xs := h
/-- two ways by a truth value -/
def bsel (b : Bool) (P Q : Prop) : Prop := (b = true → P) ∧ (b = false → Q)
def newL (A : Ah) (ds : List D) (q : D → Ah → Prop) : Prop := ∀ p, A p = none → q (.ref p) (updA A p (.lst ds))
def aAdd : A2 := fun d e A q => match d, e with
  | .int i, .int j => q (.int (i + j)) A
  | .str a, .str b => a.length + b.length ≤ big ∧ q (.str (a ++ b)) A
  | .tup a, .tup b => a.length + b.length ≤ big ∧ q (.tup (a ++ b)) A
  | .ref a, .ref b => onL A a fun xs => onL A b fun ys => xs.length + ys.length ≤ big ∧ newL A (xs ++ ys) q
  | _, _ => False
section
variable {X : Cx}
theorem op_addU : OpR X (binaryOp .Add) (r2or (rI0 fun i j => .int (i + j)) (r2or (fun x y H Q => ∃ i j, x = .str i ∧ y = .str j ∧ i.length + j.length ≤ sizeLine ∧ Q (.str (i ++ j)) H) (r2or (rCatA X.K) rCat))) :=
  opR_or op_add (opR_or op_add_str (opR_or op_catA op_cat))
end
theorem sim_add {K : Fg} : Sim2 K (r2or (rI0 fun i j => .int (i + j)) (r2or (fun x y H Q => ∃ i j, x = .str i ∧ y = .str j ∧ i.length + j.length ≤ sizeLine ∧ Q (.str (i ++ j)) H) (r2or (rCatA K) rCat))) aAdd := by
  intro H A v w d e q Q R hv hw h k
  unfold aAdd at h
  split at h
  · rename_i i j
    cases hv; cases hw
    exact .inl ⟨i, j, rfl, rfl, k H _ _ A .rfl R (.int _) h⟩
  · rename_i a b
    obtain ⟨x, rfl, rfl⟩ := hv.inv_str
    obtain ⟨y, rfl, rfl⟩ := hw.inv_str
    refine .inr (.inl ⟨x, y, rfl, rfl, ?_, k H _ _ A .rfl R (.strOf (tl_append x y)) h.2⟩)
    rw [big_eq, len_tl, len_tl]; exact h.1
  · rename_i a b
    obtain ⟨p, vs, rfl, hp, hvs⟩ := hv.inv_tup
    obtain ⟨p', ws, rfl, hp', hws⟩ := hw.inv_tup
    refine .inr (.inr (.inl ⟨p, p', vs, ws, rfl, rfl, hp, hp', ?_, ?_, ?_, ?_⟩))
    · rw [big_eq, hvs.length, hws.length]; exact h.1
    · rintro rfl
      cases hvs
      exact k H _ _ A .rfl R hw h.2
    · rintro _ rfl
      cases hws
      rw [List.append_nil] at h
      exact k H _ _ A .rfl R hv h.2
    · intro _ _ z hz
      exact k _ _ _ A (.new hz) (R.ext hz) (.tup (SqT.of upd_same) ((hvs.append hws).mono (.new hz))) h.2
  · rename_i a b
    obtain ⟨xs, ha, h⟩ := onL_of h
    obtain ⟨ys, hb, h, h'⟩ := onL_of h
    obtain ⟨vs, h1, r1⟩ := R.lst ha
    obtain ⟨ws, h2, r2⟩ := R.lst hb
    cases hv; cases hw
    refine .inr (.inr (.inr ⟨a, b, vs, ws, rfl, rfl, h1, h2, ?_, fun p hp => ?_⟩))
    · rw [big_eq, r1.length, r2.length]; exact h
    · exact k _ _ _ _ (.new hp) (R.new hp (.lst (r1.append r2))) (.ref p) (h' p (R.none hp))
  · exact h.elim
/-! ### -, *, //, %, ** -/
def aSub : A2 := fun d e A q => match d, e with
  | .int i, .int j => q (.int (i - j)) A
  | _, _ => False
theorem sim_sub {K : Fg} : Sim2 K (rI0 fun i j => .int (i - j)) aSub := by
  intro H A v w d e q Q R hv hw h k
  unfold aSub at h
  split at h
  · cases hv; cases hw
    exact ⟨_, _, rfl, rfl, k H _ _ A .rfl R (.int _) h⟩
  · exact h.elim
def lim : Nat := 2 ^ 4000
def SmallI (i : Int) : Prop := i.natAbs < lim
theorem small_of {i : Int} {b : Nat} (h : i.natAbs ≤ b) (hb : b < lim) : SmallI i := Nat.lt_of_le_of_lt h hb
def rRepS : R2 := fun x y H Q => ∃ z n, x = .str z ∧ y = .int n ∧ 0 ≤ n ∧ n < 2 ^ 40 ∧ z.length * n.toNat ≤ big ∧ ∀ z', tl z' = (List.replicate n.toNat (tl z)).flatten → Q (.str z') H
theorem foldl_app : ∀ (l : List (Array Nat)) (a : Array Nat), (l.foldl (· ++ ·) a).toList = a.toList ++ (l.map Array.toList).flatten
  | [], a => by simp
  | b :: l, a => by
    rw [List.foldl_cons, foldl_app l (a ++ b)]
    simp
theorem tl_mul {z : Str} {n : Int} (h : 0 ≤ n) : tl (Txt.mul z n) = (List.replicate n.toNat (tl z)).flatten := by
  unfold Txt.mul
  by_cases h1 : n < 1
  · have : n = 0 := by omega
    subst this
    rw [if_pos h1]
    rfl
  · rw [if_neg h1]
    split
    · rename_i h2
      rw [Bool.or_eq_true] at h2
      rcases h2 with h2 | h2
      · have : n = 1 := by simpa using h2
        subst this
        simp
      · have : tl z = [] := List.eq_nil_of_length_eq_zero (by rw [← len_tl]; simpa using h2)
        rw [this]
        simp
    · show ((List.replicate n.toNat z.cps).foldl (· ++ ·) #[]).toList = _
      rw [foldl_app]
      simp
theorem op_repS {X : Cx} : OpR X (binaryOp .Mult) rRepS := by
  intro pins s σ H x y v u Q I rx ry h
  obtain ⟨z, n, rfl, rfl, h0, h1, h2, k⟩ := h
  obtain ⟨t, rfl⟩ := rx
  obtain ⟨t', rfl⟩ := ry
  have hb : (2 : Int) ^ 63 = 9223372036854775808 := by decide
  have hb2 : (2 : Int) ^ 40 = 1099511627776 := by decide
  refine SB.mul ⟨?_, fun g1 g2 => ?_, fun g1 g2 => ?_⟩ fun t'' k' => ⟨.str _, H, I.tok _, ⟨_, rfl⟩, k _ (tl_mul h0)⟩
  · rw [Bool.or_eq_false_iff]
    exact ⟨decide_eq_false (by omega), decide_eq_false (by omega)⟩
  · have hz : (z.length : Int) * n ≤ 16777216 := by
      have e : ((z.length * n.toNat : Nat) : Int) ≤ ((16777216 : Nat) : Int) := Int.ofNat_le.mpr h2
      rw [Int.natCast_mul, Int.toNat_of_nonneg h0] at e
      exact e
    intro hgt
    have hlt : (2 ^ 63 - 1) / n < (z.length : Int) := hgt
    have hp : 0 < n := by omega
    have := (Int.ediv_lt_iff_lt_mul hp).mp hlt
    omega
  · have h2' : z.length * n.toNat ≤ 16777216 := h2
    unfold Builtin.Str.tooLong
    rw [sizeLine_eq]
    exact decide_eq_false (by omega)
def aMul : A2 := fun d e A q => match d, e with
  | .int i, .int j => SmallI i ∧ SmallI j ∧ q (.int (i * j)) A
  | .str a, .int n => 0 ≤ n ∧ n < 2 ^ 40 ∧ a.length * n.toNat ≤ big ∧ q (.str (List.replicate n.toNat a).flatten) A
  | .ref a, .int n => onL A a fun xs => 0 ≤ n ∧ n < 2 ^ 40 ∧ xs.length * n.toNat ≤ big ∧ newL A (List.replicate n.toNat xs).flatten q
  | .tup ds, .int n => ds ≠ [] ∧ 2 ≤ n ∧ n ≤ 1000 ∧ ds.length ≤ 1000 ∧ q (.tup (List.replicate n.toNat ds).flatten) A
  | _, _ => False
theorem small_mul {i j : Int} (h : SmallI i) (h' : SmallI j) : CMulW i j := wide_mul (a := 4000) (b := 4000) h h' (by decide) (by decide) (by decide)
theorem Vls.flat {K : Fg} {H : Hp} {vs : List V} {ds : List D} (h : Vls K H vs ds) : ∀ n : Nat, Vls K H (List.replicate n vs).flatten (List.replicate n ds).flatten
  | 0 => .nil
  | n + 1 => by
    rw [List.replicate_succ, List.replicate_succ, List.flatten_cons, List.flatten_cons]
    exact h.append (Vls.flat h n)
theorem sim_mul {K : Fg} : Sim2 K (r2or (rI CMulW fun i j => .int (i * j)) (r2or rRepS (r2or rRep (rRepT K)))) aMul := by
  intro H A v w d e q Q R hv hw h k
  unfold aMul at h
  split at h
  · cases hv; cases hw
    exact .inl ⟨_, _, rfl, rfl, small_mul h.1 h.2.1, k H _ _ A .rfl R (.int _) h.2.2⟩
  · obtain ⟨x, rfl, rfl⟩ := hv.inv_str
    cases hw
    obtain ⟨h0, h1, h2, h3⟩ := h
    exact .inr (.inl ⟨x, _, rfl, rfl, h0, h1, by rw [len_tl]; exact h2, fun z' hz => k H _ _ A .rfl R (.strOf hz) h3⟩)
  · obtain ⟨xs, ha, h0, h1, h2, h3⟩ := onL_of h
    obtain ⟨vs, e1, r1⟩ := R.lst ha
    cases hv; cases hw
    have hb : (2 : Int) ^ 63 = 9223372036854775808 := by decide
    have hb2 : (2 : Int) ^ 40 = 1099511627776 := by decide
    exact .inr (.inr (.inl ⟨_, _, vs, rfl, rfl, e1, by omega, by omega, by rw [big_eq, r1.length]; exact h2, fun p hp => k _ _ _ _ (.new hp) (R.new hp (.lst (r1.flat _))) (.ref p) (h3 p (R.none hp))⟩))
  · obtain ⟨p, vs, rfl, hp, hvs⟩ := hv.inv_tup
    cases hw
    obtain ⟨h0, h1, h2, h3, h4⟩ := h
    refine .inr (.inr (.inr ⟨p, _, vs, rfl, rfl, hp, ?_, h1, h2, by rw [hvs.length]; exact h3, fun r hr => k _ _ _ _ (.new hr) (R.ext hr) (.tup (SqT.of upd_same) ((hvs.flat _).mono (.new hr))) h4⟩))
    intro z; subst z; cases hvs; exact h0 rfl
  · exact h.elim
def aDiv : A2 := fun d e A q => match d, e with
  | .int i, .int j => 0 < j ∧ SmallI j ∧ q (.int (i / j)) A
  | _, _ => False
theorem sim_div {K : Fg} : Sim2 K (rI CDivW fun i j => .int (i / j)) aDiv := by
  intro H A v w d e q Q R hv hw h k
  unfold aDiv at h
  split at h
  · cases hv; cases hw
    exact ⟨_, _, rfl, rfl, wide_div h.1 (b := 4000) h.2.1 (by decide) (by decide), k H _ _ A .rfl R (.int _) h.2.2⟩
  · exact h.elim
def aMod : A2 := fun d e A q => match d, e with
  | .int i, .int j => 0 < j ∧ q (.int (i % j)) A
  | _, _ => False
theorem sim_mod {K : Fg} : Sim2 K (rI (fun _ j => j ≠ 0) fun i j => .int (i.fmod j)) aMod := by
  intro H A v w d e q Q R hv hw h k
  unfold aMod at h
  split at h
  · rename_i i j
    cases hv; cases hw
    refine ⟨_, _, rfl, rfl, by omega, ?_⟩
    show Q (.int (i.fmod j)) H
    rw [Int.fmod_eq_emod_of_nonneg i (by omega)]
    exact k H _ _ A .rfl R (.int _) h.2
  · exact h.elim
def aPow : A2 := fun d e A q => match d, e with
  | .int i, .int j => (0 ≤ j ∧ j ≤ 100000 ∧ i.natAbs < 2 ^ 64) ∧ q (.int (i ^ j.toNat)) A
  | _, _ => False
theorem sim_pow {K : Fg} : Sim2 K (rI CPow fun i j => .int (i ^ j.toNat)) aPow := by
  intro H A v w d e q Q R hv hw h k
  unfold aPow at h
  split at h
  · cases hv; cases hw
    exact ⟨_, _, rfl, rfl, ⟨h.1.1, by omega, h.1.2.2⟩, k H _ _ A .rfl R (.int _) h.2⟩
  · exact h.elim
/-! ### comparisons -/
def lexL : List Nat → List Nat → Bool
  | _, [] => false
  | [], _ :: _ => true
  | a :: x, b :: y => decide (a < b) || (decide (a = b) && lexL x y)
theorem lexL_eq : ∀ a b : List Nat, lexL a b = decide (a < b)
  | [], [] => by decide
  | _ :: _, [] => by simp [lexL]
  | [], _ :: _ => by simp [lexL]
  | a :: x, b :: y => by
    rw [lexL, lexL_eq x y, Bool.eq_iff_iff]
    simp [List.cons_lt_cons_iff]
def aLt : A2 := fun d e A q => match d, e with
  | .int i, .int j => q (.bl (decide (i < j))) A
  | .str a, .str b => q (.bl (lexL a b)) A
  | _, _ => False
def aLe : A2 := fun d e A q => match d, e with
  | .int i, .int j => q (.bl (decide (i ≤ j))) A
  | .str a, .str b => q (.bl (!lexL b a)) A
  | _, _ => False
def aGt : A2 := fun d e A q => match d, e with
  | .int i, .int j => q (.bl (decide (j < i))) A
  | .str a, .str b => q (.bl (lexL b a)) A
  | _, _ => False
def aGe : A2 := fun d e A q => match d, e with
  | .int i, .int j => q (.bl (decide (j ≤ i))) A
  | .str a, .str b => q (.bl (!lexL a b)) A
  | _, _ => False

section
variable {X : Cx}
theorem op_ltU : OpR X (compareOp .Lt) (r2or (rI0 fun i j => .bl (decide (i < j))) fun x y H Q => ∃ i j, x = .str i ∧ y = .str j ∧ Q (.bl (decide (i.cps.toList < j.cps.toList))) H) := opR_or op_lt op_lt_str
theorem op_leU : OpR X (compareOp .LtE) (r2or (rI0 fun i j => .bl (decide (i ≤ j))) fun x y H Q => ∃ i j, x = .str i ∧ y = .str j ∧ Q (.bl !decide (j.cps.toList < i.cps.toList)) H) := opR_or op_le op_le_str
theorem op_gtU : OpR X (compareOp .Gt) (r2or (rI0 fun i j => .bl (decide (j < i))) fun x y H Q => ∃ i j, x = .str i ∧ y = .str j ∧ Q (.bl (decide (j.cps.toList < i.cps.toList))) H) := opR_or op_gt op_gt_str
theorem op_geU : OpR X (compareOp .GtE) (r2or (rI0 fun i j => .bl (decide (j ≤ i))) fun x y H Q => ∃ i j, x = .str i ∧ y = .str j ∧ Q (.bl !decide (i.cps.toList < j.cps.toList)) H) := opR_or op_ge op_ge_str
end
section
variable {K : Fg}
theorem sim_lt : Sim2 K (r2or (rI0 fun i j => .bl (decide (i < j))) fun x y H Q => ∃ i j, x = .str i ∧ y = .str j ∧ Q (.bl (decide (i.cps.toList < j.cps.toList))) H) aLt := by
  intro H A v w d e q Q R hv hw h k
  unfold aLt at h
  split at h
  · cases hv; cases hw; exact .inl ⟨_, _, rfl, rfl, k H _ _ A .rfl R (.bl _) h⟩
  · obtain ⟨x, rfl, rfl⟩ := hv.inv_str
    obtain ⟨y, rfl, rfl⟩ := hw.inv_str
    rw [lexL_eq] at h
    exact .inr ⟨x, y, rfl, rfl, k H _ _ A .rfl R (.bl _) h⟩
  · exact h.elim
theorem sim_le : Sim2 K (r2or (rI0 fun i j => .bl (decide (i ≤ j))) fun x y H Q => ∃ i j, x = .str i ∧ y = .str j ∧ Q (.bl !decide (j.cps.toList < i.cps.toList)) H) aLe := by
  intro H A v w d e q Q R hv hw h k
  unfold aLe at h
  split at h
  · cases hv; cases hw; exact .inl ⟨_, _, rfl, rfl, k H _ _ A .rfl R (.bl _) h⟩
  · obtain ⟨x, rfl, rfl⟩ := hv.inv_str
    obtain ⟨y, rfl, rfl⟩ := hw.inv_str
    rw [lexL_eq] at h
    exact .inr ⟨x, y, rfl, rfl, k H _ _ A .rfl R (.bl _) h⟩
  · exact h.elim
theorem sim_gt : Sim2 K (r2or (rI0 fun i j => .bl (decide (j < i))) fun x y H Q => ∃ i j, x = .str i ∧ y = .str j ∧ Q (.bl (decide (j.cps.toList < i.cps.toList))) H) aGt := by
  intro H A v w d e q Q R hv hw h k
  unfold aGt at h
  split at h
  · cases hv; cases hw; exact .inl ⟨_, _, rfl, rfl, k H _ _ A .rfl R (.bl _) h⟩
  · obtain ⟨x, rfl, rfl⟩ := hv.inv_str
    obtain ⟨y, rfl, rfl⟩ := hw.inv_str
    rw [lexL_eq] at h
    exact .inr ⟨x, y, rfl, rfl, k H _ _ A .rfl R (.bl _) h⟩
  · exact h.elim
theorem sim_ge : Sim2 K (r2or (rI0 fun i j => .bl (decide (j ≤ i))) fun x y H Q => ∃ i j, x = .str i ∧ y = .str j ∧ Q (.bl !decide (i.cps.toList < j.cps.toList)) H) aGe := by
  intro H A v w d e q Q R hv hw h k
  unfold aGe at h
  split at h
  · cases hv; cases hw; exact .inl ⟨_, _, rfl, rfl, k H _ _ A .rfl R (.bl _) h⟩
  · obtain ⟨x, rfl, rfl⟩ := hv.inv_str
    obtain ⟨y, rfl, rfl⟩ := hw.inv_str
    rw [lexL_eq] at h
    exact .inr ⟨x, y, rfl, rfl, k H _ _ A .rfl R (.bl _) h⟩
  · exact h.elim
end
/-! ### ==, != -/
mutual
def D.py : D → PyData
  | .non => .none
  | .bl b => .bool b
  | .int i => .int i
  | .str cs => .str ⟨cs.toArray⟩
  | .ref _ => .none
  | .ty _ => .none
  | .tup ds => .tuple (D.pys ds)
  | .lof _ => .none
def D.pys : List D → List PyData
  | [] => []
  | d :: ds => d.py :: D.pys ds
end
mutual
/-- data that == looks through: no reference, signs of Python, at most 60 deep -/
def D.flat : Nat → D → Bool
  | _, .non => true
  | _, .bl _ => true
  | _, .int _ => true
  | _, .str cs => cs.all (· < 0x110000)
  | _, .ref _ => false
  | _, .ty _ => false
  | _, .lof _ => false
  | 0, .tup _ => false
  | n + 1, .tup ds => D.flats n ds
def D.flats : Nat → List D → Bool
  | _, [] => true
  | n, d :: ds => D.flat n d && D.flats n ds
end
mutual
/-- == of such data -/
def D.eqv : D → D → Bool
  | .non, .non => true
  | .bl a, .bl b => a == b
  | .bl a, .int j => (if a then 1 else 0) == j
  | .int i, .bl b => i == (if b then 1 else 0)
  | .int i, .int j => i == j
  | .str x, .str y => x == y
  | .tup xs, .tup ys => D.eqvs xs ys
  | _, _ => false
def D.eqvs : List D → List D → Bool
  | [], [] => true
  | x :: xs, y :: ys => D.eqv x y && D.eqvs xs ys
  | _, _ => false
end
mutual
theorem flat_depth : ∀ (n : Nat) (d : D), d.flat n = true → d.py.depth ≤ n ∧ d.py.canLay0 = true
  | _, .non, _ => ⟨Nat.zero_le _, rfl⟩
  | _, .bl _, _ => ⟨Nat.zero_le _, rfl⟩
  | _, .int _, _ => ⟨Nat.zero_le _, rfl⟩
  | n, .str cs, h => ⟨Nat.zero_le _, by
      show PyData.strOk ⟨cs.toArray⟩ = true
      unfold PyData.strOk
      cases n <;> simpa [D.flat] using h⟩
  | n, .ref _, h => by simp [D.flat] at h
  | n, .ty _, h => by simp [D.flat] at h
  | n, .lof _, h => by simp [D.flat] at h
  | 0, .tup _, h => by simp [D.flat] at h
  | n + 1, .tup ds, h => by
    have := flats_depth n ds (by simpa [D.flat] using h)
    exact ⟨by simp only [D.py, PyData.depth]; omega, by simp only [D.py, PyData.canLay0]; exact this.2⟩
theorem flats_depth : ∀ (n : Nat) (ds : List D), D.flats n ds = true → PyData.depthAll (D.pys ds) ≤ n ∧ PyData.canLayAll0 (D.pys ds) = true
  | _, [], _ => ⟨Nat.zero_le _, rfl⟩
  | n, d :: ds, h => by
    have h1 : D.flat n d = true ∧ D.flats n ds = true := by simpa [D.flats] using h
    have a := flat_depth n d h1.1
    have b := flats_depth n ds h1.2
    exact ⟨by simp only [D.pys, PyData.depthAll]; omega, by simp only [D.pys, PyData.canLayAll0, a.2, b.2]; rfl⟩
end
mutual
theorem py_eqv : ∀ (n m : Nat) (d e : D), d.flat n = true → e.flat m = true → PyData.eqv d.py e.py = D.eqv d e := by
  intro n m d e hd he
  cases d <;> cases e <;> first
    | rfl
    | (simp [D.flat] at hd; done)
    | (simp [D.flat] at he; done)
    | skip
  · rename_i x y
    simp only [D.py, PyData.eqv, D.eqv]
    rw [Bool.eq_iff_iff]
    simp
  · rename_i xs ys
    simp only [D.py, PyData.eqv, D.eqv]
    cases n with
    | zero => simp [D.flat] at hd
    | succ n => cases m with
      | zero => simp [D.flat] at he
      | succ m => exact pys_eqv n m xs ys (by simpa [D.flat] using hd) (by simpa [D.flat] using he)
theorem pys_eqv : ∀ (n m : Nat) (ds es : List D), D.flats n ds = true → D.flats m es = true → PyData.eqvAll (D.pys ds) (D.pys es) = D.eqvs ds es
  | _, _, [], [], _, _ => rfl
  | _, _, [], _ :: _, _, _ => rfl
  | _, _, _ :: _, [], _, _ => rfl
  | n, m, d :: ds, e :: es, hd, he => by
    have h1 : D.flat n d = true ∧ D.flats n ds = true := by simpa [D.flats] using hd
    have h2 : D.flat m e = true ∧ D.flats m es = true := by simpa [D.flats] using he
    simp only [D.pys, PyData.eqvAll, D.eqvs]
    rw [py_eqv n m d e h1.1 h2.1, pys_eqv n m ds es h1.2 h2.2]
end
mutual
theorem Val.dp {K : Fg} {H : Hp} : ∀ (n : Nat) {d : D} {v : V}, d.flat n = true → Val K H v d → Dp K H v d.py
  | _, .non, _, _, .non => .non
  | _, .bl _, _, _, .bl b => .bl b
  | _, .int _, _, _, .int i => .int i
  | _, .str _, _, _, .str x => by
    show Dp K H (.str x) (.str ⟨(tl x).toArray⟩)
    rw [mk_tl]
    exact .str x
  | n, .ref _, _, h, _ => by simp [D.flat] at h
  | n, .ty _, _, h, _ => by simp [D.flat] at h
  | n, .lof _, _, h, _ => by simp [D.flat] at h
  | 0, .tup _, _, h, _ => by simp [D.flat] at h
  | n + 1, .tup ds, _, h, .tup hs t => .tup hs (Vls.dp n (by simpa [D.flat] using h) t)
theorem Vls.dp {K : Fg} {H : Hp} : ∀ (n : Nat) {ds : List D} {vs : List V}, D.flats n ds = true → Vls K H vs ds → DpAll K H vs (D.pys ds)
  | _, [], _, _, .nil => .nil
  | n, d :: ds, _, h, .cons hv t => by
    have h1 : D.flat n d = true ∧ D.flats n ds = true := by simpa [D.flats] using h
    exact .cons (Val.dp n h1.1 hv) (Vls.dp n h1.2 t)
end
def aEq : A2 := fun d e A q => match d, e with
  | .int i, .int j => q (.bl (decide (i = j))) A
  | .str a, .str b => q (.bl (decide (a = b))) A
  | .bl a, .bl b => q (.bl (a == b)) A
  | d, e => d.flat 60 = true ∧ e.flat 60 = true ∧ q (.bl (D.eqv d e)) A
def aNe : A2 := fun d e A q => match d, e with
  | .int i, .int j => q (.bl (!decide (i = j))) A
  | .str a, .str b => q (.bl (!decide (a = b))) A
  | .bl a, .bl b => q (.bl (!(a == b))) A
  | d, e => d.flat 60 = true ∧ e.flat 60 = true ∧ q (.bl (!D.eqv d e)) A
theorem tl_inj {x y : Str} : (x = y) ↔ (tl x = tl y) := ⟨fun h => by rw [h], ext_tl⟩
section
variable {K : Fg}
theorem sim_eq : Sim2 K (r2or rEq (rEqD K)) aEq := by
  intro H A v w d e q Q R hv hw h k
  unfold aEq at h
  split at h
  · rename_i i j
    cases hv; cases hw
    refine .inl ⟨rfl, ?_⟩
    have : decide (V.int i = V.int j) = decide (i = j) := by rw [Bool.eq_iff_iff]; simp
    rw [this]
    exact k H _ _ A .rfl R (.bl _) h
  · obtain ⟨x, rfl, rfl⟩ := hv.inv_str
    obtain ⟨y, rfl, rfl⟩ := hw.inv_str
    refine .inl ⟨rfl, ?_⟩
    have : decide (V.str x = V.str y) = decide (tl x = tl y) := by rw [Bool.eq_iff_iff]; simp only [decide_eq_true_eq, V.str.injEq]; exact tl_inj
    rw [this]
    exact k H _ _ A .rfl R (.bl _) h
  · rename_i a b
    cases hv; cases hw
    refine .inl ⟨rfl, ?_⟩
    have : decide (V.bl a = V.bl b) = (a == b) := by rw [Bool.eq_iff_iff]; simp
    rw [this]
    exact k H _ _ A .rfl R (.bl _) h
  · obtain ⟨h1, h2, h3⟩ := h
    refine .inr ⟨d.py, e.py, hv.dp 60 h1, hw.dp 60 h2, ?_, ?_, ?_⟩
    · have := flat_depth 60 d h1
      unfold SeqAt.shaped; rw [this.2]; simp; omega
    · have := flat_depth 60 e h2
      unfold SeqAt.shaped; rw [this.2]; simp; omega
    · rw [py_eqv 60 60 d e h1 h2]
      exact k H _ _ A .rfl R (.bl _) h3
theorem sim_ne : Sim2 K (r2or rNe (rNeD K)) aNe := by
  intro H A v w d e q Q R hv hw h k
  unfold aNe at h
  split at h
  · rename_i i j
    cases hv; cases hw
    refine .inl ⟨rfl, ?_⟩
    have : decide (V.int i = V.int j) = decide (i = j) := by rw [Bool.eq_iff_iff]; simp
    rw [this]
    exact k H _ _ A .rfl R (.bl _) h
  · obtain ⟨x, rfl, rfl⟩ := hv.inv_str
    obtain ⟨y, rfl, rfl⟩ := hw.inv_str
    refine .inl ⟨rfl, ?_⟩
    have : decide (V.str x = V.str y) = decide (tl x = tl y) := by rw [Bool.eq_iff_iff]; simp only [decide_eq_true_eq, V.str.injEq]; exact tl_inj
    rw [this]
    exact k H _ _ A .rfl R (.bl _) h
  · rename_i a b
    cases hv; cases hw
    refine .inl ⟨rfl, ?_⟩
    have : decide (V.bl a = V.bl b) = (a == b) := by rw [Bool.eq_iff_iff]; simp
    rw [this]
    exact k H _ _ A .rfl R (.bl _) h
  · obtain ⟨h1, h2, h3⟩ := h
    refine .inr ⟨d.py, e.py, hv.dp 60 h1, hw.dp 60 h2, ?_, ?_, ?_⟩
    · have := flat_depth 60 d h1
      unfold SeqAt.shaped; rw [this.2]; simp; omega
    · have := flat_depth 60 e h2
      unfold SeqAt.shaped; rw [this.2]; simp; omega
    · rw [py_eqv 60 60 d e h1 h2]
      exact k H _ _ A .rfl R (.bl _) h3
end
end GA

namespace GA
open PySem PySem.Spec PyProof.Rows L2 GV TL
/-! ### in -/
def inL (y x : List Nat) : Bool := match y with
  | [c] => decide (c ∈ x)
  | y => (List.range (x.length + 1)).any fun i => pre y (x.drop i)
theorem inL_eq (x y : Str) : (!(Builtin.Str.occurrences x y 0 x.length 1).isEmpty) = inL (tl y) (tl x) := by
  unfold inL
  split
  · rename_i c e
    have : y = ⟨#[c]⟩ := ext_tl e
    rw [this]
    exact PySem.StrLaws.found_one x c
  · rw [Bool.eq_iff_iff, PySem.StrLaws.found_iff]
    simp only [List.any_eq_true, List.mem_range]
    by_cases hy : tl y = []
    · rw [hy]
      constructor
      · rintro ⟨i, h1, h2⟩
        exact ⟨0, by omega, rfl⟩
      · rintro ⟨i, h1, h2⟩
        refine ⟨0, ?_, ?_⟩
        · rw [len_tl y, hy]; simp
        · have : y = ⟨#[]⟩ := ext_tl hy
          subst this
          unfold Builtin.Str.subAt
          simp [Str.length]
    · constructor
      · rintro ⟨i, h1, h2⟩
        refine ⟨i, ?_, (at_iff hy i).mp ⟨h1, h2⟩⟩
        rw [← len_tl]; omega
      · rintro ⟨i, h1, h2⟩
        obtain ⟨h3, h4⟩ := (at_iff hy i).mpr h2
        exact ⟨i, h3, h4⟩
def D.sc : D → Bool
  | .non => true | .bl _ => true | .int _ => true | .str _ => true | _ => false
def inD (x : D) (ds : List D) : Bool := ds.any fun y => D.eqv y x
def valD {κ : Type} [DecidableEq κ] : List (κ × D) → κ → Option D
  | [], _ => none
  | (k', d) :: r, k => if k' = k then some d else valD r k
def keyD : D → Option Key
  | .int i => some (.inl i)
  | .str cs => some (.inr ⟨cs.toArray⟩)
  | _ => none
def keysD : List D → Option (List Key)
  | [] => some []
  | d :: ds => match keyD d, keysD ds with
    | some k, some ks => some (k :: ks)
    | _, _ => none
/-- what the dict at a holds under d (none: not asked rightly) -/
def dget (A : Ah) (a : Addr) (d : D) : Option (Option D) := match A a, d with
  | some (.dic kvs), .tup _ => none
  | some (.dic kvs), d => (keyD d).map fun k => valD kvs k
  | some (.dit kvs), .tup ds => (keysD ds).map fun k => valD kvs k
  | _, _ => none
def aIn : A2 := fun d e A q => match d, e with
  | .str a, .str b => q (.bl (inL a b)) A
  | d, .tup ds => d.sc = true ∧ ds.all D.sc = true ∧ q (.bl (inD d ds)) A
  | d, .ref a => match A a with
    | some (.lst ds) => d.sc = true ∧ ds.all D.sc = true ∧ q (.bl (inD d ds)) A
    | _ => match dget A a d with
      | some o => q (.bl o.isSome) A
      | none => False
  | _, _ => False
def aNotIn : A2 := fun d e A q => aIn d e A fun b A1 => match b with
  | .bl b => q (.bl (!b)) A1
  | _ => False
section
variable {K : Fg} {H : Hp}
theorem Val.flatV {v : V} {d : D} (h : Val K H v d) (hd : d.sc = true) : flatV v = true := by
  cases d <;> first | (cases h; rfl) | cases hd
theorem Vls.flatV {vs : List V} {ds : List D} (h : Vls K H vs ds) (hd : ds.all D.sc = true) : vs.all L2.flatV = true := by
  induction ds generalizing vs with
  | nil => cases h; rfl
  | cons d ds ih => cases h with
    | cons h t =>
      rw [List.all_cons, Bool.and_eq_true] at hd
      rw [List.all_cons, Bool.and_eq_true]
      exact ⟨h.flatV hd.1, ih t hd.2⟩
theorem Val.eqV {v w : V} {d e : D} (h : Val K H v d) (h' : Val K H w e) (hd : d.sc = true) (he : e.sc = true) : eqV v w = D.eqv d e := by
  cases d <;> cases e <;> first | (cases hd; done) | (cases he; done) | (cases h; cases h'; rfl) | skip
  cases h; cases h'
  show (_ == _) = (_ == _)
  rw [Bool.eq_iff_iff]
  simp only [beq_iff_eq]
  exact tl_inj
theorem Vls.inV {v : V} {d : D} (hv : Val K H v d) (hd : d.sc = true) : ∀ {vs : List V} {ds : List D}, Vls K H vs ds → ds.all D.sc = true → inV v vs = inD d ds
  | _, [], .nil, _ => rfl
  | _, e :: ds, .cons h t, hs => by
    rw [List.all_cons, Bool.and_eq_true] at hs
    have ih := Vls.inV hv hd t hs.2
    unfold L2.inV inD at ih ⊢
    rw [List.any_cons, List.any_cons, ih, h.eqV hv hs.1 hd]
end
section
variable {K : Fg}
abbrev rInS : R2 := fun x y H Q => ∃ i j, x = .str i ∧ y = .str j ∧ Q (.bl !(Builtin.Str.occurrences j i 0 j.length 1).isEmpty) H
abbrev rNiS : R2 := fun x y H Q => ∃ i j, x = .str i ∧ y = .str j ∧ Q (.bl !!(Builtin.Str.occurrences j i 0 j.length 1).isEmpty) H
/-- in, without dicts -/
def aInS : A2 := fun d e A q => match d, e with
  | .str a, .str b => q (.bl (inL a b)) A
  | d, .tup ds => d.sc = true ∧ ds.all D.sc = true ∧ q (.bl (inD d ds)) A
  | d, .ref a => onL A a fun ds => d.sc = true ∧ ds.all D.sc = true ∧ q (.bl (inD d ds)) A
  | _, _ => False
def aNiS : A2 := fun d e A q => match d, e with
  | .str a, .str b => q (.bl (!inL a b)) A
  | d, .tup ds => d.sc = true ∧ ds.all D.sc = true ∧ q (.bl (!inD d ds)) A
  | d, .ref a => onL A a fun ds => d.sc = true ∧ ds.all D.sc = true ∧ q (.bl (!inD d ds)) A
  | _, _ => False
theorem sim_in : Sim2 K (r2or rInS (rIn K false)) aInS := by
  intro H A v w d e q Q R hv hw h k
  unfold aInS at h
  split at h
  · obtain ⟨x, rfl, rfl⟩ := hv.inv_str
    obtain ⟨y, rfl, rfl⟩ := hw.inv_str
    refine .inl ⟨x, y, rfl, rfl, ?_⟩
    rw [inL_eq]
    exact k H _ _ A .rfl R (.bl _) h
  · obtain ⟨p, vs, rfl, hp, hvs⟩ := hw.inv_tup
    refine .inr ⟨p, vs, rfl, .inr hp, hv.flatV h.1, hvs.flatV h.2.1, ?_⟩
    rw [if_neg Bool.false_ne_true, Vls.inV hv h.1 hvs h.2.1]
    exact k H _ _ A .rfl R (.bl _) h.2.2
  · obtain ⟨xs, ha, h⟩ := onL_of h
    obtain ⟨vs, h1, r1⟩ := R.lst ha
    cases hw
    refine .inr ⟨_, vs, rfl, .inl (SqL.of h1), hv.flatV h.1, r1.flatV h.2.1, ?_⟩
    rw [if_neg Bool.false_ne_true, Vls.inV hv h.1 r1 h.2.1]
    exact k H _ _ A .rfl R (.bl _) h.2.2
  · exact h.elim
theorem sim_ni : Sim2 K (r2or rNiS (rIn K true)) aNiS := by
  intro H A v w d e q Q R hv hw h k
  unfold aNiS at h
  split at h
  · obtain ⟨x, rfl, rfl⟩ := hv.inv_str
    obtain ⟨y, rfl, rfl⟩ := hw.inv_str
    refine .inl ⟨x, y, rfl, rfl, ?_⟩
    rw [inL_eq]
    exact k H _ _ A .rfl R (.bl _) h
  · obtain ⟨p, vs, rfl, hp, hvs⟩ := hw.inv_tup
    refine .inr ⟨p, vs, rfl, .inr hp, hv.flatV h.1, hvs.flatV h.2.1, ?_⟩
    rw [if_pos rfl, Vls.inV hv h.1 hvs h.2.1]
    exact k H _ _ A .rfl R (.bl _) h.2.2
  · obtain ⟨xs, ha, h⟩ := onL_of h
    obtain ⟨vs, h1, r1⟩ := R.lst ha
    cases hw
    refine .inr ⟨_, vs, rfl, .inl (SqL.of h1), hv.flatV h.1, r1.flatV h.2.1, ?_⟩
    rw [if_pos rfl, Vls.inV hv h.1 r1 h.2.1]
    exact k H _ _ A .rfl R (.bl _) h.2.2
  · exact h.elim
def D.isNon : D → Bool
  | .non => true
  | _ => false
def aIs : A2 := fun d e A q => match e with
  | .non => q (.bl d.isNon) A
  | _ => False
def aIsNot : A2 := fun d e A q => match e with
  | .non => q (.bl (!d.isNon)) A
  | _ => False
theorem isNon_eq {H : Hp} {v : V} {d : D} (h : Val K H v d) : decide (v = .non) = d.isNon := by
  cases h <;> first | rfl | (rw [decide_eq_false (by intro z; cases z)]; rfl)
theorem sim_is : Sim2 K (fun x y H Q => y = .non ∧ Q (.bl (decide (x = .non))) H) aIs := by
  intro H A v w d e q Q R hv hw h k
  unfold aIs at h
  split at h
  · cases hw
    refine ⟨rfl, ?_⟩
    rw [isNon_eq hv]
    exact k H _ _ A .rfl R (.bl _) h
  · exact h.elim
theorem sim_isn : Sim2 K (fun x y H Q => y = .non ∧ Q (.bl !decide (x = .non)) H) aIsNot := by
  intro H A v w d e q Q R hv hw h k
  unfold aIsNot at h
  split at h
  · cases hw
    refine ⟨rfl, ?_⟩
    rw [isNon_eq hv]
    exact k H _ _ A .rfl R (.bl _) h
  · exact h.elim
/-! ### subscripts -/
def aIx : A2 := fun d e A q => match d, e with
  | .tup ds, .int i => ∃ f, atI ds i = some f ∧ q f A
  | .str cs, .int i => cs.length ≤ big ∧ ∃ c, atI cs i = some c ∧ q (.str [c]) A
  | .ref a, .int i => onL A a fun ds => ∃ f, atI ds i = some f ∧ q f A
  | _, _ => False
theorem Vls.atI {H : Hp} {vs : List V} {ds : List D} (h : Vls K H vs ds) {i : Int} {f : D} (e : L2.atI ds i = some f) : ∃ v, L2.atI vs i = some v ∧ Val K H v f := by
  unfold L2.atI at e ⊢
  rw [h.length]
  cases hx : ixN ds.length i with
  | none => rw [hx] at e; cases e
  | some j =>
    rw [hx] at e
    exact h.get e
theorem sim_ix : Sim2 K (rIx K) aIx := by
  intro H A v w d e q Q R hv hw h k
  unfold aIx at h
  split at h
  · obtain ⟨f, e, h⟩ := h
    obtain ⟨p, vs, rfl, hp, hvs⟩ := hv.inv_tup
    cases hw
    obtain ⟨z, e', hz⟩ := hvs.atI e
    exact .inr (.inl ⟨p, vs, _, z, rfl, rfl, hp, e', k H _ _ A .rfl R hz h⟩)
  · obtain ⟨hb, c, e, h⟩ := h
    obtain ⟨x, rfl, rfl⟩ := hv.inv_str
    cases hw
    exact .inr (.inr ⟨x, _, c, rfl, rfl, by rw [big_eq, len_tl]; exact hb, e, k H _ _ A .rfl R (.strOf rfl) h⟩)
  · obtain ⟨xs, ha, f, e, h⟩ := onL_of h
    obtain ⟨vs, h1, r1⟩ := R.lst ha
    cases hv; cases hw
    obtain ⟨z, e', hz⟩ := r1.atI e
    exact .inl ⟨_, vs, _, z, rfl, rfl, SqL.of h1, e', k H _ _ A .rfl R hz h⟩
  · exact h.elim
end
/-! ### the operators' rules -/
abbrev uAdd (K : Fg) : R2 := r2or (rI0 fun i j => .int (i + j)) (r2or (fun x y H Q => ∃ i j, x = .str i ∧ y = .str j ∧ i.length + j.length ≤ sizeLine ∧ Q (.str (i ++ j)) H) (r2or (rCatA K) rCat))
abbrev uSub : R2 := rI0 fun i j => .int (i - j)
abbrev uMul (K : Fg) : R2 := r2or (rI CMulW fun i j => .int (i * j)) (r2or rRepS (r2or rRep (rRepT K)))
abbrev uDiv : R2 := rI CDivW fun i j => .int (i / j)
abbrev uMod : R2 := rI (fun _ j => j ≠ 0) fun i j => .int (i.fmod j)
abbrev uPow : R2 := rI CPow fun i j => .int (i ^ j.toNat)
abbrev uLt : R2 := r2or (rI0 fun i j => .bl (decide (i < j))) fun x y H Q => ∃ i j, x = .str i ∧ y = .str j ∧ Q (.bl (decide (i.cps.toList < j.cps.toList))) H
abbrev uLe : R2 := r2or (rI0 fun i j => .bl (decide (i ≤ j))) fun x y H Q => ∃ i j, x = .str i ∧ y = .str j ∧ Q (.bl !decide (j.cps.toList < i.cps.toList)) H
abbrev uGt : R2 := r2or (rI0 fun i j => .bl (decide (j < i))) fun x y H Q => ∃ i j, x = .str i ∧ y = .str j ∧ Q (.bl (decide (j.cps.toList < i.cps.toList))) H
abbrev uGe : R2 := r2or (rI0 fun i j => .bl (decide (j ≤ i))) fun x y H Q => ∃ i j, x = .str i ∧ y = .str j ∧ Q (.bl !decide (i.cps.toList < j.cps.toList)) H
abbrev uEq (K : Fg) : R2 := r2or rEq (rEqD K)
abbrev uNe (K : Fg) : R2 := r2or rNe (rNeD K)
abbrev uIn (K : Fg) : R2 := r2or rInS (rIn K false)
abbrev uNi (K : Fg) : R2 := r2or rNiS (rIn K true)
abbrev uIs : R2 := fun x y H Q => y = .non ∧ Q (.bl (decide (x = .non))) H
abbrev uIsn : R2 := fun x y H Q => y = .non ∧ Q (.bl !decide (x = .non)) H

section
variable {X : Cx} {W : WX} {a b c : Expr} {ta tb tc : TE} {aa ab ac : AE} {pos : Pos}
theorem ga_bin {op : Operator} {r : R2} {ar : A2} (ho : OpR X (binaryOp op) r) (hs : Sim2 X.K r ar) (ha : PEA X W a ta aa) (hb : PEA X W b tb ab) : PEA X W (.BinOp a op b pos) (tOp r ta tb) (aOp ar aa ab) :=
  ⟨pe_op ho ha.pe hb.pe, sim_op hs ha.sim hb.sim⟩
theorem ga_add (ha : PEA X W a ta aa) (hb : PEA X W b tb ab) : PEA X W (.BinOp a .Add b pos) (tOp (uAdd X.K) ta tb) (aOp aAdd aa ab) := ga_bin op_addU sim_add ha hb
theorem ga_sub (ha : PEA X W a ta aa) (hb : PEA X W b tb ab) : PEA X W (.BinOp a .Sub b pos) (tOp uSub ta tb) (aOp aSub aa ab) := ga_bin op_sub sim_sub ha hb
theorem ga_mul (ha : PEA X W a ta aa) (hb : PEA X W b tb ab) : PEA X W (.BinOp a .Mult b pos) (tOp (uMul X.K) ta tb) (aOp aMul aa ab) := ga_bin (opR_or op_mulW (opR_or op_repS (opR_or op_rep op_repT))) sim_mul ha hb
theorem ga_div (ha : PEA X W a ta aa) (hb : PEA X W b tb ab) : PEA X W (.BinOp a .FloorDiv b pos) (tOp uDiv ta tb) (aOp aDiv aa ab) := ga_bin op_fdivW sim_div ha hb
theorem ga_mod (ha : PEA X W a ta aa) (hb : PEA X W b tb ab) : PEA X W (.BinOp a .Mod b pos) (tOp uMod ta tb) (aOp aMod aa ab) := ga_bin op_modN sim_mod ha hb
theorem ga_pow (ha : PEA X W a ta aa) (hb : PEA X W b tb ab) : PEA X W (.BinOp a .Pow b pos) (tOp uPow ta tb) (aOp aPow aa ab) := ga_bin op_pow sim_pow ha hb
/-- one comparison -/
structure CmpA (X : Cx) (op : CmpOp) (r : R2) (ar : A2) : Prop where
  op : OpR X (compareOp op) r
  sim : Sim2 X.K r ar
theorem ca_lt : CmpA X .Lt uLt aLt := ⟨op_ltU, sim_lt⟩
theorem ca_le : CmpA X .LtE uLe aLe := ⟨op_leU, sim_le⟩
theorem ca_gt : CmpA X .Gt uGt aGt := ⟨op_gtU, sim_gt⟩
theorem ca_ge : CmpA X .GtE uGe aGe := ⟨op_geU, sim_ge⟩
theorem ca_eq (hu : X.A.units + 64 < cLine) : CmpA X .Eq (uEq X.K) aEq := ⟨opR_or op_eq (op_eqD hu), sim_eq⟩
theorem ca_ne (hu : X.A.units + 64 < cLine) : CmpA X .NotEq (uNe X.K) aNe := ⟨opR_or op_ne (op_neD hu), sim_ne⟩
theorem ca_in : CmpA X .In (uIn X.K) aInS := ⟨opR_or op_in_str op_in_seq, sim_in⟩
theorem ca_ni : CmpA X .NotIn (uNi X.K) aNiS := ⟨opR_or op_notin_str op_notIn_seq, sim_ni⟩
theorem ca_is : CmpA X .Is uIs aIs := ⟨op_isN, sim_is⟩
theorem ca_isn : CmpA X .IsNot uIsn aIsNot := ⟨op_notN, sim_isn⟩
theorem ga_cmp {op : CmpOp} {r : R2} {ar : A2} (c : CmpA X op r ar) (ha : PEA X W a ta aa) (hb : PEA X W b tb ab) (h1 : behindInMarks op b = false := by first | exact nobehind _ (by decide) (by decide) | rfl) :
    PEA X W (.Compare a [op] [b] pos) (tOp r ta tb) (aOp ar aa ab) := ⟨pe_cmpR c.op ha.pe hb.pe h1, sim_op c.sim ha.sim hb.sim⟩
def aChain (r r' : A2) (a b c : AE) : AE := fun Γ A q x => a Γ A (fun d A1 => b Γ A1 (fun e A2 => r d e A2 fun z A3 => match z with
  | .bl t => bsel t (c Γ A3 (fun f A4 => r' e f A4 q) x) (q (.bl false) A3)
  | _ => False) x) x
theorem ga_chain {op op' : CmpOp} {r r' : R2} {ar ar' : A2} (c1 : CmpA X op r ar) (c2 : CmpA X op' r' ar') (ha : PEA X W a ta aa) (hb : PEA X W b tb ab) (hc : PEA X W c tc ac) (h1 : lastMarks [op, op'] [b, c] = false := by rfl) :
    PEA X W (.Compare a [op, op'] [b, c] pos) (tChain r r' ta tb tc) (aChain ar ar' aa ab ac) where
  pe := pe_chain c1.op c2.op ha.pe hb.pe hc.pe h1
  sim := fun σ H Γ A q x Q R S h k kx => ha.sim σ H Γ A _ x _ R S h (fun H1 v d A1 n1 R1 v1 h1 => hb.sim σ H1 Γ A1 _ x _ R1 (S.mono n1) h1
    (fun H2 w e A2 n2 R2 v2 h2 => c1.sim H2 A2 v w d e _ _ R2 (v1.mono n2) v2 h2 fun H3 z f A3 n3 R3 v3 h3 => by
      cases f with
      | bl b =>
        cases v3
        refine ⟨b, rfl, ?_⟩
        cases b with
        | true =>
          exact hc.sim σ H3 Γ A3 _ x _ R3 (S.mono ((n1.trans n2).trans n3)) (h3.1 rfl) (fun H4 y g A4 n4 R4 v4 h4 => c2.sim H4 A4 w y e g q Q R4 ((v2.mono n3).mono n4) v4 h4
            fun H5 z f A5 n5 R5 v5 h5 => k H5 z f A5 ((((n1.trans n2).trans n3).trans n4).trans n5) R5 v5 h5) fun H4 e A4 n4 R4 h4 => kx H4 e A4 (((n1.trans n2).trans n3).trans n4) R4 h4
        | false => exact k H3 _ _ A3 ((n1.trans n2).trans n3) R3 (.bl false) (h3.2 rfl)
      | _ => exact h3.elim)
    (fun H2 e A2 n2 R2 h2 => kx H2 e A2 (n1.trans n2) R2 h2)) kx
theorem ga_ix (ha : PEA X W a ta aa) (hb : PEA X W b tb ab) (hs : PlainIx b := by exact fun _ _ => rfl) : PEA X W (.Subscript a b pos) (tOp (rIx X.K) ta tb) (aOp aIx aa ab) := ⟨pe_ix ix_seq ha.pe hb.pe hs, sim_op sim_ix ha.sim hb.sim⟩
def aNeg (a : AE) : AE := fun Γ A q x => a Γ A (fun d A1 => match d with
  | .int i => q (.int (-i)) A1
  | _ => False) x
theorem ga_neg (ha : PEA X W a ta aa) : PEA X W (.UnaryOp .USub a pos) (tUn (rU fun i => .int (-i)) ta) (aNeg aa) where
  pe := pe_un un_neg ha.pe
  sim := fun σ H Γ A q x Q R S h k kx => ha.sim σ H Γ A _ x _ R S h (fun H1 v d A1 n1 R1 v1 h1 => by
    cases d with
    | int i => cases v1; exact ⟨i, rfl, k H1 _ _ A1 n1 R1 (.int _) h1⟩
    | _ => exact h1.elim) kx
/-! ### tests -/
def aTest (a : AE) : AT := fun Γ A q x => a Γ A (fun d A1 => match d with
  | .bl b => q b A1
  | _ => False) x
theorem sim_test {K : Fg} {te : TE} {ae : AE} (h : SimE K W te ae) : SimT K W (tB te) (aTest ae) := fun σ H Γ A q x Q R S ht k kx => h σ H Γ A _ x _ R S ht (fun H1 v d A1 n1 R1 v1 h1 => by
  cases d with
  | bl b => cases v1; exact ⟨b, rfl, k H1 b A1 n1 R1 h1⟩
  | _ => exact h1.elim) kx
/-- a test that is an expression giving True or False -/
theorem gt_val {e : Expr} {te : TE} {ae : AE} (h : PEA X W e te ae) (he : ∀ whole, isTrue e X.env whole = (do let v ← whole; standAt e.pos; holding [v] (truthy v)) := by intro _; rfl) : PTA X W e (tB te) (aTest ae) :=
  ⟨pt_val h.pe he, sim_test h.sim⟩
theorem gt_cmp {op : CmpOp} {r : R2} {ar : A2} (c : CmpA X op r ar) (ha : PEA X W a ta aa) (hb : PEA X W b tb ab) (h1 : behindInMarks op b = false := by first | exact nobehind _ (by decide) (by decide) | rfl) :
    PTA X W (.Compare a [op] [b] pos) (tTest (tOp r ta tb)) (aTest (aOp ar aa ab)) := ⟨pt_cmpR c.op ha.pe hb.pe h1, sim_test (sim_op c.sim ha.sim hb.sim)⟩
theorem gt_chain {op op' : CmpOp} {r r' : R2} {ar ar' : A2} (c1 : CmpA X op r ar) (c2 : CmpA X op' r' ar') (ha : PEA X W a ta aa) (hb : PEA X W b tb ab) (hc : PEA X W c tc ac) (h1 : lastMarks [op, op'] [b, c] = false := by rfl) :
    PTA X W (.Compare a [op, op'] [b, c] pos) (tTest (tChain r r' ta tb tc)) (aTest (aChain ar ar' aa ab ac)) := ⟨pt_chain c1.op c2.op ha.pe hb.pe hc.pe h1, sim_test (ga_chain (pos := pos) c1 c2 ha hb hc h1).sim⟩
def aAndT (s t : AT) : AT := fun Γ A q x => s Γ A (fun b A1 => bsel b (t Γ A1 q x) (q false A1)) x
def aOrT (s t : AT) : AT := fun Γ A q x => s Γ A (fun b A1 => bsel b (q true A1) (t Γ A1 q x)) x
def aNotT (s : AT) : AT := fun Γ A q x => s Γ A (fun b A1 => q (!b) A1) x
variable {s t : TT} {as' at' : AT} {rest : List Expr}
theorem gw_and1 (h : PTA X W a s as') : PWA X W (.BoolOp .And [a] pos) s as' := ⟨pw_and1 h.pe, h.sim⟩
theorem gw_or1 (h : PTA X W a s as') : PWA X W (.BoolOp .Or [a] pos) s as' := ⟨pw_or1 h.pe, h.sim⟩
theorem gw_and (h : PTA X W a s as') (h2 : PWA X W (.BoolOp .And (b :: rest) pos) t at') : PWA X W (.BoolOp .And (a :: b :: rest) pos) (tAnd s t) (aAndT as' at') where
  pe := pw_and h.pe h2.pe
  sim := fun σ H Γ A q x Q R S ht k kx => h.sim σ H Γ A _ x _ R S ht (fun H1 c A1 n1 R1 h1 => by
    cases c with
    | true => exact h2.sim σ H1 Γ A1 q x Q R1 (S.mono n1) (h1.1 rfl) (fun H2 b A2 n2 R2 h2 => k H2 b A2 (n1.trans n2) R2 h2) fun H2 e A2 n2 R2 h2 => kx H2 e A2 (n1.trans n2) R2 h2
    | false => exact k H1 false A1 n1 R1 (h1.2 rfl)) kx
theorem gw_or (h : PTA X W a s as') (h2 : PWA X W (.BoolOp .Or (b :: rest) pos) t at') : PWA X W (.BoolOp .Or (a :: b :: rest) pos) (tOr s t) (aOrT as' at') where
  pe := pw_or h.pe h2.pe
  sim := fun σ H Γ A q x Q R S ht k kx => h.sim σ H Γ A _ x _ R S ht (fun H1 c A1 n1 R1 h1 => by
    cases c with
    | true => exact k H1 true A1 n1 R1 (h1.1 rfl)
    | false => exact h2.sim σ H1 Γ A1 q x Q R1 (S.mono n1) (h1.2 rfl) (fun H2 b A2 n2 R2 h2 => k H2 b A2 (n1.trans n2) R2 h2) fun H2 e A2 n2 R2 h2 => kx H2 e A2 (n1.trans n2) R2 h2) kx
theorem gt_bool {e : Expr} (h : PWA X W e s as') : PTA X W e s as' := ⟨h.pe.pt, h.sim⟩
theorem gt_not (h : PTA X W a s as') : PTA X W (.UnaryOp .Not a pos) (tNot s) (aNotT as') where
  pe := pt_not h.pe
  sim := fun σ H Γ A q x Q R S ht k kx => h.sim σ H Γ A _ x _ R S ht (fun H1 c A1 n1 R1 h1 => k H1 _ A1 n1 R1 h1) kx
/-- bool operators as values: all but the last True or False -/
def aAndV (a b : AE) : AE := fun Γ A q x => a Γ A (fun d A1 => match d with
  | .bl t => bsel t (b Γ A1 q x) (q (.bl false) A1)
  | _ => False) x
def aOrV (a b : AE) : AE := fun Γ A q x => a Γ A (fun d A1 => match d with
  | .bl t => bsel t (q (.bl true) A1) (b Γ A1 q x)
  | _ => False) x
def aNotV (a : AE) : AE := fun Γ A q x => a Γ A (fun d A1 => match d with
  | .bl b => q (.bl (!b)) A1
  | _ => False) x
theorem ga_one {op} (h : PEA X W a ta aa) : PEA X W (.BoolOp op [a] pos) ta aa := ⟨pe_one h.pe, h.sim⟩
theorem ga_and (ha : PEA X W a ta aa) (hb : PEA X W (.BoolOp .And (b :: rest) pos) tb ab) : PEA X W (.BoolOp .And (a :: b :: rest) pos) (tAndV ta tb) (aAndV aa ab) where
  pe := pe_and ha.pe hb.pe
  sim := fun σ H Γ A q x Q R S h k kx => ha.sim σ H Γ A _ x _ R S h (fun H1 v d A1 n1 R1 v1 h1 => by
    cases d with
    | bl b =>
      cases v1
      refine ⟨b, rfl, ?_⟩
      cases b with
      | true => exact hb.sim σ H1 Γ A1 q x Q R1 (S.mono n1) (h1.1 rfl) (fun H2 v d A2 n2 R2 v2 h2 => k H2 v d A2 (n1.trans n2) R2 v2 h2) fun H2 e A2 n2 R2 h2 => kx H2 e A2 (n1.trans n2) R2 h2
      | false => exact k H1 _ _ A1 n1 R1 (.bl false) (h1.2 rfl)
    | _ => exact h1.elim) kx
theorem ga_or (ha : PEA X W a ta aa) (hb : PEA X W (.BoolOp .Or (b :: rest) pos) tb ab) : PEA X W (.BoolOp .Or (a :: b :: rest) pos) (tOrV ta tb) (aOrV aa ab) where
  pe := pe_or ha.pe hb.pe
  sim := fun σ H Γ A q x Q R S h k kx => ha.sim σ H Γ A _ x _ R S h (fun H1 v d A1 n1 R1 v1 h1 => by
    cases d with
    | bl b =>
      cases v1
      refine ⟨b, rfl, ?_⟩
      cases b with
      | false => exact hb.sim σ H1 Γ A1 q x Q R1 (S.mono n1) (h1.2 rfl) (fun H2 v d A2 n2 R2 v2 h2 => k H2 v d A2 (n1.trans n2) R2 v2 h2) fun H2 e A2 n2 R2 h2 => kx H2 e A2 (n1.trans n2) R2 h2
      | true => exact k H1 _ _ A1 n1 R1 (.bl true) (h1.1 rfl)
    | _ => exact h1.elim) kx
theorem ga_not (ha : PEA X W a ta aa) : PEA X W (.UnaryOp .Not a pos) (tNotV ta) (aNotV aa) where
  pe := pe_not ha.pe
  sim := fun σ H Γ A q x Q R S h k kx => ha.sim σ H Γ A _ x _ R S h (fun H1 v d A1 n1 R1 v1 h1 => by
    cases d with
    | bl b => cases v1; exact ⟨b, rfl, k H1 _ _ A1 n1 R1 (.bl _) h1⟩
    | _ => exact h1.elim) kx
def aIfE (t : AT) (a b : AE) : AE := fun Γ A q x => t Γ A (fun c A1 => bsel c (a Γ A1 q x) (b Γ A1 q x)) x
theorem ga_if (ht : PTA X W c s as') (ha : PEA X W a ta aa) (hb : PEA X W b tb ab) : PEA X W (.IfExp c a b pos) (tIf s ta tb) (aIfE as' aa ab) where
  pe := pe_ifExp ht.pe ha.pe hb.pe
  sim := fun σ H Γ A q x Q R S h k kx => ht.sim σ H Γ A _ x _ R S h (fun H1 c A1 n1 R1 h1 => by
    cases c with
    | true => exact ha.sim σ H1 Γ A1 q x Q R1 (S.mono n1) (h1.1 rfl) (fun H2 v d A2 n2 R2 v2 h2 => k H2 v d A2 (n1.trans n2) R2 v2 h2) fun H2 e A2 n2 R2 h2 => kx H2 e A2 (n1.trans n2) R2 h2
    | false => exact hb.sim σ H1 Γ A1 q x Q R1 (S.mono n1) (h1.2 rfl) (fun H2 v d A2 n2 R2 v2 h2 => k H2 v d A2 (n1.trans n2) R2 v2 h2) fun H2 e A2 n2 R2 h2 => kx H2 e A2 (n1.trans n2) R2 h2) kx
end
end GA

namespace GA
open PySem PySem.Spec PyProof.Rows L2 GV TL
section
variable {X : Cx} {W : WX} {a b c e o : Expr} {es : List Expr} {ta tb tc te to : TE} {aa ab ac ae ao : AE} {t : TA} {at_ : AA} {pos apos cpos p : Pos}
/-! ### arguments, displays -/
def aNil : AA := fun _ A q _ => q [] A
def aCons (a : AE) (r : AA) : AA := fun Γ A q x => a Γ A (fun d A1 => r Γ A1 (fun ds A2 => q (d :: ds) A2) x) x
theorem gs_nil : PAA X W [] tNil aNil := ⟨pa_nil, fun σ H Γ A q x Q R S h k _ => k H [] [] A .rfl R .nil h⟩
theorem gs_cons (ha : PEA X W e te ae) (hr : PAA X W es t at_) (he : starEach (e :: es) X.env = (false, eval e X.env) :: starEach es X.env := by rfl) : PAA X W (e :: es) (tCons te t) (aCons ae at_) where
  pe := pa_cons ha.pe hr.pe he
  sim := fun σ H Γ A q x Q R S h k kx => ha.sim σ H Γ A _ x _ R S h (fun H1 v d A1 n1 R1 v1 h1 => hr.sim σ H1 Γ A1 _ x _ R1 (S.mono n1) h1
    (fun H2 vs ds A2 n2 R2 v2 h2 => k H2 _ _ A2 (n1.trans n2) R2 (.cons (v1.mono n2) v2) h2) fun H2 e A2 n2 R2 h2 => kx H2 e A2 (n1.trans n2) R2 h2) kx
def aTup (as : AA) : AE := fun Γ A q x => as Γ A (fun ds A1 => ds.length ≤ big ∧ q (.tup ds) A1) x
theorem ga_tup {k0 : Nat} (h : PAA X W es t at_) : PEA X W (.Tuple es k0 pos) (tTup t) (aTup at_) where
  pe := pe_tup h.pe
  sim := fun σ H Γ A q x Q R S hh k kx => h.sim σ H Γ A _ x _ R S hh (fun H1 vs ds A1 n1 R1 v1 h1 =>
    ⟨by rw [big_eq, v1.length]; exact h1.1, fun p hp => k _ _ _ A1 (n1.trans (.new hp)) (R1.ext hp) (.tup (SqT.of upd_same) (v1.mono (.new hp))) h1.2⟩) kx
def aLst (as : AA) : AE := fun Γ A q x => as Γ A (fun ds A1 => ds.length ≤ big ∧ newL A1 ds q) x
theorem ga_lst (h : PAA X W es t at_) : PEA X W (.List es pos) (tLst t) (aLst at_) where
  pe := pe_lst h.pe
  sim := fun σ H Γ A q x Q R S hh k kx => h.sim σ H Γ A _ x _ R S hh (fun H1 vs ds A1 n1 R1 v1 h1 =>
    ⟨by rw [big_eq, v1.length]; exact h1.1, fun p hp => k _ _ _ _ (n1.trans (.new hp)) (R1.new hp (.lst v1)) (.ref p) (h1.2 p (R1.none hp))⟩) kx
/-! ### calls of own defs -/
abbrev ASp := List D → Ah → (D → Ah → Prop) → AX → Prop
/-- a promise over abstract values as a promise of HandS -/
def lift (K : Fg) (sp : ASp) : Sp := fun vs H Q E => ∃ (A : Ah) (ds : List D) (q : D → Ah → Prop) (x : AX), RelA K H A ∧ Vls K H vs ds ∧ sp ds A q x ∧
  (∀ H' v d A', Nxt K H H' → RelA K H' A' → Val K H' v d → q d A' → Q v H') ∧ ∀ H' e A', Nxt K H H' → RelA K H' A' → x e A' → E (exC K e) (some e.d) H'
def aCall (sp : ASp) (as : AA) : AE := fun Γ A q x => as Γ A (fun ds A1 => sp ds A1 q x) x
theorem sim_call {K : Fg} {sp : ASp} (h : SimA K W t at_) : SimE K W (tCallS (lift K sp) (WE W) t) (aCall sp at_) := fun σ H Γ A q x Q R S hh k kx =>
  h σ H Γ A _ x _ R S hh (fun H1 vs ds A1 n1 R1 v1 h1 => ⟨A1, ds, q, x, R1, v1, h1, fun H2 v d A2 n2 R2 v2 h2 => k H2 v d A2 (n1.trans n2) R2 v2 h2, fun H2 e A2 n2 R2 h2 => kx H2 e A2 (n1.trans n2) R2 h2⟩) kx
abbrev FnA (P : Program) (w : World) (K : Fg) (mg : Str → Option Value) (base : Heap) (k : Nat) (f : Addr) (fd : FuncData) (ps : List Str) (sp : ASp) : Prop := FnOk P w K mg base (L2N.CX P w) k f fd ps (lift K sp)
/-- what the text says of a def that is called -/
structure Fn0 (P : Program) (w : World) (K : Fg) (mg : Str → Option Value) (base : Heap) (x : Str) (k : Nat) (sp : ASp) : Prop where
  ex : ∃ (f : Addr) (fd : FuncData) (ps : List Str), FnA P w K mg base k f fd ps sp ∧ mg x = some (.ref f) ∧ PySem.W.keepIn K (.ref f) = true ∧ Binds K fd ps []
abbrev Fnd (X : Cx) (x : Str) (k : Nat) (sp : ASp) : Prop := Fn0 X.prog X.w X.K X.mg X.base x k sp
theorem ga_call {k : Nat} {x : Str} {sp : ASp} (F : Fnd X x k sp) (hr : Room k X.A) (tk : L2N.Takes X W) (h : PAA X W (e :: es) t at_) (hg : Gl X x := by rfl) (hdb : (x == ("__debug__" : Str)) = false := by decide)
    (he : starEach (e :: es) X.env = (false, eval e X.env) :: starEach es X.env := by rfl) (hpl : (backTo pos (starEach es X.env)).any (·.1) = false := by rfl) :
    PEA X W (.Call (.Name x p) (e :: es) [] pos) (tCallS (lift X.K sp) (WE W) t) (aCall sp at_) := by
  obtain ⟨f, fd, ps, F, hm, hk, hb⟩ := F.ex
  exact ⟨pe_callS F hr hg hm hk hb (fun σ => L2N.passAt tk σ) h.pe hdb he hpl, sim_call h.sim⟩
theorem ga_call0 {k : Nat} {x : Str} {sp : ASp} (F : Fnd X x k sp) (hr : Room k X.A) (tk : L2N.Takes X W) (hg : Gl X x := by rfl) (hdb : (x == ("__debug__" : Str)) = false := by decide) :
    PEA X W (.Call (.Name x p) [] [] pos) (tCallS (lift X.K sp) (WE W) tNil) (aCall sp aNil) := by
  obtain ⟨f, fd, ps, F, hm, hk, hb⟩ := F.ex
  refine ⟨⟨fun pins s σ H Q I h => ?_⟩, sim_call gs_nil.sim⟩
  refine wpAny_Call_Name_kw (ld_glob I hg hm ?_ hdb)
  exact PySem.W.callWith_K0 I.kIn hk (run_fnS (us := []) (vs := []) F hr hb (L2N.passAt tk σ) I .nil h)
/-! ### calls of built-ins -/
abbrev A1c := List D → Ah → (D → Ah → Prop) → Prop
def SimC (K : Fg) (r : List V → Hp → VK → Prop) (ar : A1c) : Prop := ∀ (H : Hp) (A : Ah) (vs : List V) (ds : List D) (q : D → Ah → Prop) (Q : VK), RelA K H A → Vls K H vs ds → ar ds A q →
  (∀ H' z f A', Nxt K H H' → RelA K H' A' → Val K H' z f → q f A' → Q z H') → r vs H Q
def aBlt (r : A1c) (as : AA) : AE := fun Γ A q x => as Γ A (fun ds A1 => r ds A1 q) x
theorem sim_blt {K : Fg} {r : List V → Hp → VK → Prop} {ar : A1c} (hr : SimC K r ar) (h : SimA K W t at_) : SimE K W (tCB r t) (aBlt ar at_) := fun σ H Γ A q x Q R S hh k kx =>
  h σ H Γ A _ x _ R S hh (fun H1 vs ds A1 n1 R1 v1 h1 => hr H1 A1 vs ds q Q R1 v1 h1 fun H2 z f A2 n2 R2 v2 h2 => k H2 z f A2 (n1.trans n2) R2 v2 h2) kx
/-- a built-in function | class by its name -/
structure BltA (X : Cx) (u : Value) (r : List V → Hp → VK → Prop) (ar : A1c) : Prop where
  op : CallR X u r
  sim : SimC X.K r ar
theorem ga_blt {x : Str} {id : String} {r : List V → Hp → VK → Prop} {ar : A1c} (B : BltA X (.builtin id) r ar) (hm : X.mg x = none) (h : PAA X W (e :: es) t at_) (hv : bootBuiltins x = some (.builtin id) := by decide +kernel) (hg : Gl X x := by rfl)
    (hn : x ≠ "__name__" := by decide) (hdb : (x == ("__debug__" : Str)) = false := by decide)
    (he : starEach (e :: es) X.env = (false, eval e X.env) :: starEach es X.env := by rfl) (hpl : (backTo pos (starEach es X.env)).any (·.1) = false := by rfl) : PEA X W (.Call (.Name x p) (e :: es) [] pos) (tCB r t) (aBlt ar at_) :=
  ⟨pe_callB B.op hg hm hv h.pe hn hdb he hpl, sim_blt B.sim h.sim⟩
theorem ga_bty {x : Str} {T : String} {r : List V → Hp → VK → Prop} {ar : A1c} (B : BltA X (.type T) r ar) (hm : X.mg x = none) (h : PAA X W (e :: es) t at_) (hv : bootBuiltins x = some (.type T) := by decide +kernel) (hg : Gl X x := by rfl)
    (hn : x ≠ "__name__" := by decide) (hdb : (x == ("__debug__" : Str)) = false := by decide)
    (he : starEach (e :: es) X.env = (false, eval e X.env) :: starEach es X.env := by rfl) (hpl : (backTo pos (starEach es X.env)).any (·.1) = false := by rfl) : PEA X W (.Call (.Name x p) (e :: es) [] pos) (tCB r t) (aBlt ar at_) :=
  ⟨pe_callTy B.op hg hm hv h.pe hn hdb he hpl, sim_blt B.sim h.sim⟩
def rcor (r r' : List V → Hp → VK → Prop) : List V → Hp → VK → Prop := fun xs H Q => r xs H Q ∨ r' xs H Q
theorem callR_or {f : Value} {r r' : List V → Hp → VK → Prop} (h : CallR X f r) (h' : CallR X f r') : CallR X f (rcor r r') := by
  intro pins s σ H xs us Q I rv q
  rcases q with q | q
  · exact h pins s σ H xs us Q I rv q
  · exact h' pins s σ H xs us Q I rv q
end
section
variable {K : Fg}
def aLen : A1c := fun ds A q => match ds with
  | [.str cs] => cs.length ≤ big ∧ q (.int cs.length) A
  | [.tup xs] => q (.int xs.length) A
  | [.ref a] => onL A a fun xs => q (.int xs.length) A
  | _ => False
theorem Vls.one {H : Hp} {vs : List V} {d : D} (h : Vls K H vs [d]) : ∃ v, vs = [v] ∧ Val K H v d := by
  cases h with
  | cons h t => cases t; exact ⟨_, rfl, h⟩
theorem Vls.two {H : Hp} {vs : List V} {d e : D} (h : Vls K H vs [d, e]) : ∃ v w, vs = [v, w] ∧ Val K H v d ∧ Val K H w e := by
  cases h with
  | cons h t => cases t with
    | cons h' t => cases t; exact ⟨_, _, rfl, h, h'⟩
theorem sim_len : SimC K (fun xs H Q => ∃ x n, xs = [x] ∧ LenV K x H n ∧ Q (.int n) H) aLen := by
  intro H A vs ds q Q R hv h k
  unfold aLen at h
  split at h
  · obtain ⟨v, rfl, h1⟩ := hv.one
    obtain ⟨x, rfl, rfl⟩ := h1.inv_str
    refine ⟨_, x.length, rfl, ⟨by rw [big_eq, len_tl]; exact h.1, rfl⟩, ?_⟩
    have := k H _ _ A .rfl R (.int _) h.2
    rw [len_tl]; exact this
  · obtain ⟨v, rfl, h1⟩ := hv.one
    obtain ⟨p, vs, rfl, hp, hvs⟩ := h1.inv_tup
    refine ⟨_, vs.length, rfl, .inr ⟨vs, hp, rfl⟩, ?_⟩
    have := k H _ _ A .rfl R (.int _) h
    rw [hvs.length]; exact this
  · obtain ⟨v, rfl, h1⟩ := hv.one
    obtain ⟨xs, ha, h⟩ := onL_of h
    obtain ⟨ws, e1, r1⟩ := R.lst ha
    cases h1
    refine ⟨_, ws.length, rfl, .inl ⟨ws, SqL.of e1, rfl⟩, ?_⟩
    have := k H _ _ A .rfl R (.int _) h
    rw [r1.length]; exact this
  · exact h.elim
def aInt : A1c := fun ds A q => match ds with
  | [.int i] => q (.int i) A
  | [.bl b] => q (.int (if b = true then 1 else 0)) A
  | _ => False
theorem sim_int : SimC K (fun xs H Q => (∃ i, xs = [V.int i] ∧ Q (V.int i) H) ∨ ∃ k, xs = [V.bl k] ∧ Q (V.int (if k = true then 1 else 0)) H) aInt := by
  intro H A vs ds q Q R hv h k
  unfold aInt at h
  split at h
  · obtain ⟨v, rfl, h1⟩ := hv.one
    cases h1
    exact .inl ⟨_, rfl, k H _ _ A .rfl R (.int _) h⟩
  · obtain ⟨v, rfl, h1⟩ := hv.one
    cases h1
    exact .inr ⟨_, rfl, k H _ _ A .rfl R (.int _) h⟩
  · exact h.elim
def aAbs : A1c := fun ds A q => match ds with
  | [.int i] => q (.int (if i < 0 then -i else i)) A
  | _ => False
theorem sim_abs : SimC K (fun xs H Q => ∃ i, xs = [V.int i] ∧ Q (V.int (if i < 0 then -i else i)) H) aAbs := by
  intro H A vs ds q Q R hv h k
  unfold aAbs at h
  split at h
  · obtain ⟨v, rfl, h1⟩ := hv.one
    cases h1
    exact ⟨_, rfl, k H _ _ A .rfl R (.int _) h⟩
  · exact h.elim
def decN (i : Int) : List Nat := tl (Str.ofString (toString i))
def aStr : A1c := fun ds A q => match ds with
  | [.int i] => i.natAbs.log2 < 1920 ∧ q (.str (decN i)) A
  | _ => False
theorem sim_str : SimC K (fun xs H Q => ∃ i, xs = [V.int i] ∧ i.natAbs.log2 < 1920 ∧ Q (V.str (Str.ofString (toString i))) H) aStr := by
  intro H A vs ds q Q R hv h k
  unfold aStr at h
  split at h
  · obtain ⟨v, rfl, h1⟩ := hv.one
    cases h1
    exact ⟨_, rfl, h.1, k H _ _ A .rfl R (.strOf rfl) h.2⟩
  · exact h.elim
def aMin2 : A1c := fun ds A q => match ds with
  | [.int i, .int j] => q (.int (if j < i then j else i)) A
  | _ => False
theorem sim_min2 : SimC K (fun xs H Q => ∃ i j, xs = [V.int i, V.int j] ∧ Q (V.int (if j < i then j else i)) H) aMin2 := by
  intro H A vs ds q Q R hv h k
  unfold aMin2 at h
  split at h
  · obtain ⟨v, w, rfl, h1, h2⟩ := hv.two
    cases h1; cases h2
    exact ⟨_, _, rfl, k H _ _ A .rfl R (.int _) h⟩
  · exact h.elim
def aMax2 : A1c := fun ds A q => match ds with
  | [.int i, .int j] => q (.int (if j > i then j else i)) A
  | _ => False
theorem sim_max2 : SimC K (fun xs H Q => ∃ i j, xs = [V.int i, V.int j] ∧ Q (V.int (if j > i then j else i)) H) aMax2 := by
  intro H A vs ds q Q R hv h k
  unfold aMax2 at h
  split at h
  · obtain ⟨v, w, rfl, h1, h2⟩ := hv.two
    cases h1; cases h2
    exact ⟨_, _, rfl, k H _ _ A .rfl R (.int _) h⟩
  · exact h.elim
/-- list(xs) -/
def aList : A1c := fun ds A q => match ds with
  | [.tup xs] => newL A xs q
  | [.lof xs] => newL A xs q
  | [.ref a] => onL A a fun xs => newL A xs q
  | _ => False
theorem sim_list : SimC K (fun xs H Q => ∃ p ys, xs = [V.ref p] ∧ (SqL K H p ys ∨ SqT K H p ys) ∧ ∀ (l : Addr), H l = none → Q (V.ref l) (upd H l (HO.lst ys))) aList := by
  intro H A vs ds q Q R hv h k
  unfold aList at h
  split at h
  · obtain ⟨v, rfl, h1⟩ := hv.one
    obtain ⟨p, vs, rfl, hp, hvs⟩ := h1.inv_tup
    exact ⟨p, vs, rfl, .inr hp, fun l hl => k _ _ _ _ (.new hl) (R.new hl (.lst hvs)) (.ref l) (h l (R.none hl))⟩
  · obtain ⟨v, rfl, h1⟩ := hv.one
    obtain ⟨p, vs, rfl, hp, hvs⟩ := h1.inv_lof
    exact ⟨p, vs, rfl, .inl hp.seq, fun l hl => k _ _ _ _ (.new hl) (R.new hl (.lst hvs)) (.ref l) (h l (R.none hl))⟩
  · obtain ⟨v, rfl, h1⟩ := hv.one
    obtain ⟨xs, ha, h⟩ := onL_of h
    obtain ⟨ws, e1, r1⟩ := R.lst ha
    cases h1
    exact ⟨_, ws, rfl, .inl (SqL.of e1), fun l hl => k _ _ _ _ (.new hl) (R.new hl (.lst r1)) (.ref l) (h l (R.none hl))⟩
  · exact h.elim
def aTuple : A1c := fun ds A q => match ds with
  | [.tup xs] => q (.tup xs) A
  | [.ref a] => onL A a fun xs => q (.tup xs) A
  | _ => False
theorem sim_tuple : SimC K (fun xs H Q => ∃ p ys, xs = [V.ref p] ∧ ((SqL K H p ys ∧ ∀ (l : Addr), H l = none → Q (V.ref l) (upd H l (HO.tup ys))) ∨ SqT K H p ys ∧ Q (V.ref p) H)) aTuple := by
  intro H A vs ds q Q R hv h k
  unfold aTuple at h
  split at h
  · obtain ⟨v, rfl, h1⟩ := hv.one
    obtain ⟨p, vs, rfl, hp, hvs⟩ := h1.inv_tup
    exact ⟨p, vs, rfl, .inr ⟨hp, k H _ _ A .rfl R (.tup hp hvs) h⟩⟩
  · obtain ⟨v, rfl, h1⟩ := hv.one
    obtain ⟨xs, ha, h⟩ := onL_of h
    obtain ⟨ws, e1, r1⟩ := R.lst ha
    cases h1
    exact ⟨_, ws, rfl, .inl ⟨SqL.of e1, fun l hl => k _ _ _ A (.new hl) (R.ext hl) (.tup (SqT.of upd_same) (r1.mono (.new hl))) h⟩⟩
  · exact h.elim
/-- isinstance against a built-in class -/
def tyn (A : Ah) : D → Option String
  | .non => some "NoneType"
  | .bl _ => some "bool"
  | .int _ => some "int"
  | .str _ => some "str"
  | .tup _ => some "tuple"
  | .ref a => match A a with
    | some (.lst _) => some "list"
    | some (.dic _) => some "dict"
    | some (.dit _) => some "dict"
    | _ => none
  | .ty _ => none
  | .lof _ => none
def tys : List String := ["NoneType", "bool", "int", "str", "tuple", "list", "dict"]
def isB (a b : String) : Bool := a == b || (a == "bool" && b == "int")
theorem isB_ok : ∀ a ∈ tys, ∀ b ∈ tys, kitB a b = some (isB a b) := by
  have h : (tys.all fun a => tys.all fun b => decide (kitB a b = some (isB a b))) = true := by decide +kernel
  intro a ha b hb
  exact of_decide_eq_true (List.all_eq_true.mp (List.all_eq_true.mp h a ha) b hb)
theorem tyn_mem {A : Ah} {d : D} {s : String} (h : tyn A d = some s) : s ∈ tys := by
  unfold tyn at h
  cases d with
  | ref a =>
    dsimp only at h
    split at h <;> first | (cases h; decide) | cases h
  | _ => first | (cases h; decide) | cases h
theorem tyn_ok {H : Hp} {A : Ah} {v : V} {d : D} {s : String} (R : RelA K H A) (hv : Val K H v d) (h : tyn A d = some s) : TyX K H v (.type s) := by
  unfold tyn at h
  cases d with
  | non => cases h; cases hv; exact .base .non
  | bl b => cases h; cases hv; exact .base (.bl b)
  | int i => cases h; cases hv; exact .base (.int i)
  | str cs => cases h; cases hv; exact .base (.str _)
  | ty n => cases h
  | lof ds =>
    cases h
  | tup ds =>
    cases h
    obtain ⟨a, vs, rfl, hp, _⟩ := hv.inv_tup
    rcases hp with hp | ⟨o, its, n, e, c, _⟩
    · rcases hp with hp | ⟨o, hp⟩
      · exact .base (.tup hp)
      · exact .fTuple hp
    · exact .kTuple e c
  | ref a =>
    cases hv
    dsimp only at h
    split at h
    · rename_i ds e
      cases h
      obtain ⟨vs, e1, _⟩ := R.lst e
      exact .base (.lst e1)
    · rename_i kvs e
      cases h
      obtain ⟨o, e1, e2⟩ := R _ _ e
      cases e2
      exact .base (.dK e1)
    · rename_i kvs e
      cases h
      obtain ⟨o, e1, e2⟩ := R _ _ e
      cases e2
      exact .base (.dT e1)
    · cases h
def aIsi : A1c := fun ds A q => match ds with
  | [d, .ty b] => ∃ s, tyn A d = some s ∧ b ∈ tys ∧ q (.bl (isB s b)) A
  | _ => False
theorem sim_isi : SimC K (rIsi K) aIsi := by
  intro H A vs ds q Q R hv h k
  unfold aIsi at h
  split at h
  · obtain ⟨v, w, rfl, h1, h2⟩ := hv.two
    obtain ⟨s, e, h⟩ := h
    cases h2
    exact ⟨v, _, _, _, _, rfl, .ty _, tyn_ok R h1 e, kit_ty (isB_ok s (tyn_mem e) _ h.1), k H _ _ A .rfl R (.bl _) h.2⟩
  · exact h.elim
end
section
variable {X : Cx}
theorem ba_len : BltA X (.builtin "len") (fun xs H Q => ∃ x n, xs = [x] ∧ LenV X.K x H n ∧ Q (.int n) H) aLen := ⟨call_len, sim_len⟩
theorem ba_int : BltA X (.type "int") (fun xs H Q => (∃ i, xs = [V.int i] ∧ Q (V.int i) H) ∨ ∃ k, xs = [V.bl k] ∧ Q (V.int (if k = true then 1 else 0)) H) aInt := ⟨call_int1, sim_int⟩
theorem ba_abs : BltA X (.builtin "abs") (fun xs H Q => ∃ i, xs = [V.int i] ∧ Q (V.int (if i < 0 then -i else i)) H) aAbs := ⟨call_abs, sim_abs⟩
theorem ba_str : BltA X (.type "str") (fun xs H Q => ∃ i, xs = [V.int i] ∧ i.natAbs.log2 < 1920 ∧ Q (V.str (Str.ofString (toString i))) H) aStr := ⟨call_str_int, sim_str⟩
theorem ba_min2 (hc : X.calm = true) : BltA X (.builtin "min") (fun xs H Q => ∃ i j, xs = [V.int i, V.int j] ∧ Q (V.int (if j < i then j else i)) H) aMin2 := ⟨call_min2 hc, sim_min2⟩
theorem ba_max2 (hc : X.calm = true) : BltA X (.builtin "max") (fun xs H Q => ∃ i j, xs = [V.int i, V.int j] ∧ Q (V.int (if j > i then j else i)) H) aMax2 := ⟨call_max2 hc, sim_max2⟩
theorem ba_list : BltA X (.type "list") (fun xs H Q => ∃ p ys, xs = [V.ref p] ∧ (SqL X.K H p ys ∨ SqT X.K H p ys) ∧ ∀ (l : Addr), H l = none → Q (V.ref l) (upd H l (HO.lst ys))) aList := ⟨call_list_of, sim_list⟩
theorem ba_tuple : BltA X (.type "tuple") (fun xs H Q => ∃ p ys, xs = [V.ref p] ∧ ((SqL X.K H p ys ∧ ∀ (l : Addr), H l = none → Q (V.ref l) (upd H l (HO.tup ys))) ∨ SqT X.K H p ys ∧ Q (V.ref p) H)) aTuple := ⟨call_tuple_of, sim_tuple⟩
theorem ba_isi : BltA X (.builtin "isinstance") (rIsi X.K) aIsi := ⟨call_isi, sim_isi⟩
end
end GA

namespace GA
open PySem PySem.Spec PyProof.Rows L2 GV TL
/-! ### slices -/
def cutD {α : Type} (xs : List α) (lo hi : Option Int) : List α := (xs.drop (HT.sIx xs.length 0 lo)).take (HT.sIx xs.length xs.length hi - HT.sIx xs.length 0 lo)
section
variable {X : Cx} {W : WX} {a b c e o : Expr} {es : List Expr} {ta tb tc te to : TE} {aa ab ac ae ao : AE} {t : TA} {at_ : AA} {pos apos cpos p p2 : Pos}
abbrev AO := Gt → Ah → (Option Int → Ah → Prop) → AX → Prop
structure POA (X : Cx) (W : WX) (e : Option Expr) (t : TO) (ao : AO) : Prop where
  pe : PO X e t
  sim : ∀ (σ : L2.St) (H : Hp) (Γ : Gt) (A : Ah) (q : Option Int → Ah → Prop) (x : AX) (Q : Option Int → Hp → Prop), RelA X.K H A → Slots X.K H σ Γ → ao Γ A q x →
    (∀ H' b A', Nxt X.K H H' → RelA X.K H' A' → q b A' → Q b H') → (∀ H' e A', Nxt X.K H H' → RelA X.K H' A' → x e A' → W (exC X.K e) (some e.d) σ H') → t σ H Q
def aNoP : AO := fun _ A q _ => q none A
def aPart (a : AE) : AO := fun Γ A q x => a Γ A (fun d A1 => match d with
  | .int i => q (some i) A1
  | _ => False) x
theorem go_none : POA X W none tNoPart aNoP := ⟨po_none, fun σ H Γ A q x Q R S h k _ => k H none A .rfl R h⟩
theorem go_some (ha : PEA X W a ta aa) : POA X W (some a) (tPart ta) (aPart aa) where
  pe := po_some ha.pe
  sim := fun σ H Γ A q x Q R S h k kx => ha.sim σ H Γ A _ x _ R S h (fun H1 v d A1 n1 R1 v1 h1 => by
    cases d with
    | int i => cases v1; exact ⟨i, rfl, k H1 _ A1 n1 R1 h1⟩
    | _ => exact h1.elim) kx
def aSl (a : AE) (lo hi : AO) : AE := fun Γ A q x => a Γ A (fun d A1 => lo Γ A1 (fun l A2 => hi Γ A2 (fun h A3 => match d with
  | .str cs => cs.length ≤ big ∧ q (.str (cutD cs l h)) A3
  | .tup ds => q (.tup (cutD ds l h)) A3
  | .ref a => onL A3 a fun ds => newL A3 (cutD ds l h) q
  | _ => False) x) x) x
def rSlU (K : Fg) : V → Option Int → Option Int → Hp → VK → Prop := fun x lo hi H Q => rSlS x lo hi H Q ∨ rSlA K x lo hi H Q ∨ rSlL K x lo hi H Q
theorem slU : SlR X (rSlU X.K) := by
  intro pins s σ H x v vl vu lo hi sl Q I rx hs pl pu h
  rcases h with h | h | h
  · exact sl_str pins s σ H x v vl vu lo hi sl Q I rx hs pl pu h
  · exact sl_tupA pins s σ H x v vl vu lo hi sl Q I rx hs pl pu h
  · exact sl_list pins s σ H x v vl vu lo hi sl Q I rx hs pl pu h
theorem Vls.cut {K : Fg} {H : Hp} {vs : List V} {ds : List D} (h : Vls K H vs ds) (lo hi : Option Int) : Vls K H (cutV vs lo hi) (cutD ds lo hi) := by
  unfold cutV cutD
  rw [h.length]
  exact (h.drop _).take _
theorem sIx_lt (n d : Nat) (hd : d ≤ n) (o : Option Int) : HT.sIx n d o ≤ n := HT.sIx_le n d hd o
theorem ga_sl {lo hi : Option Expr} {tl' th : TO} {al ah : AO} (ha : PEA X W a ta aa) (h1 : POA X W lo tl' al) (h2 : POA X W hi th ah) : PEA X W (.Subscript a (.Slice lo hi none p2) pos) (tSl (rSlU X.K) ta tl' th) (aSl aa al ah) where
  pe := pe_slice slU ha.pe h1.pe h2.pe
  sim := fun σ H Γ A q x Q R S h k kx => ha.sim σ H Γ A _ x _ R S h (fun H1 v d A1 n1 R1 v1 hh => h1.sim σ H1 Γ A1 _ x _ R1 (S.mono n1) hh
    (fun H2 l A2 n2 R2 hh => h2.sim σ H2 Γ A2 _ x _ R2 (S.mono (n1.trans n2)) hh (fun H3 u A3 n3 R3 hh => by
      have v3 := (v1.mono n2).mono n3
      have n := (n1.trans n2).trans n3
      cases d with
      | str cs =>
        obtain ⟨z, rfl, rfl⟩ := v3.inv_str
        refine .inl ⟨z, rfl, by rw [big_eq, len_tl]; exact hh.1, ?_⟩
        refine k H3 _ _ A3 n R3 (.strOf ?_) hh.2
        unfold cutS cutD
        rw [len_tl]
      | tup ds =>
        obtain ⟨p, vs, rfl, hp, hvs⟩ := v3.inv_tup
        refine .inr (.inl ⟨p, vs, rfl, hp, fun hw => ?_, fun hw p' hp' => ?_⟩)
        · have e : cutD ds l u = ds := by
            rw [hvs.length] at hw
            unfold cutD
            rw [hw.1, hw.2, List.drop_zero, Nat.sub_zero, List.take_length]
          have hh : q (.tup (cutD ds l u)) A3 := hh
          rw [e] at hh
          exact k H3 _ _ A3 n R3 (.tup hp hvs) hh
        · exact k _ _ _ A3 (n.trans (.new hp')) (R3.ext hp') (.tup (SqT.of upd_same) ((hvs.cut l u).mono (.new hp'))) hh
      | ref a =>
        obtain ⟨xs, ha, h⟩ := onL_of hh
        obtain ⟨ws, e1, r1⟩ := R3.lst ha
        cases v3
        exact .inr (.inr ⟨_, ws, rfl, SqL.of e1, fun p hp => k _ _ _ _ (n.trans (.new hp)) (R3.new hp (.lst (r1.cut l u))) (.ref p) (h p (R3.none hp))⟩)
      | _ => exact hh.elim) fun H3 e A3 n3 R3 h3 => kx H3 e A3 ((n1.trans n2).trans n3) R3 h3) fun H2 e A2 n2 R2 h2 => kx H2 e A2 (n1.trans n2) R2 h2) kx
/-! ### methods of built-in types -/
abbrev A1m := D → List D → Ah → (D → Ah → Prop) → Prop
def SimM (K : Fg) (T : String) (r : V → List V → Hp → VK → Prop) (ar : A1m) : Prop := ∀ (H : Hp) (A : Ah) (v : V) (d : D) (vs : List V) (ds : List D) (q : D → Ah → Prop) (Q : VK), RelA K H A → Val K H v d → Vls K H vs ds → ar d ds A q →
  (∀ H' z f A', Nxt K H H' → RelA K H' A' → Val K H' z f → q f A' → Q z H') → r v vs H Q
def isLst (A : Ah) : D → Prop
  | .ref a => ∃ ds, A a = some (.lst ds)
  | _ => False
def aMethL (r : A1m) (o : AE) (as : AA) : AE := fun Γ A q x => o Γ A (fun d A1 => isLst A1 d ∧ as Γ A1 (fun ds A2 => r d ds A2 q) x) x
theorem isLst_ty {K : Fg} {H : Hp} {A : Ah} {v : V} {d : D} (R : RelA K H A) (hv : Val K H v d) (h : isLst A d) : tyV K "list" v H := by
  cases d with
  | ref a =>
    obtain ⟨ds, e⟩ := h
    obtain ⟨vs, e1, _⟩ := R.lst e
    cases hv
    exact .inl ⟨rfl, _, SqL.of e1⟩
  | _ => exact h.elim
theorem sim_methL {r : V → List V → Hp → VK → Prop} {ar : A1m} (hr : SimM X.K "list" r ar) (ho : SimE X.K W to ao) (h : SimA X.K W t at_) : SimE X.K W (tBM X.K "list" r to t) (aMethL ar ao at_) := fun σ H Γ A q x Q R S hh k kx =>
  ho σ H Γ A _ x _ R S hh (fun H1 v d A1 n1 R1 v1 ⟨hl, h1⟩ => ⟨isLst_ty R1 v1 hl, h σ H1 Γ A1 _ x _ R1 (S.mono n1) h1
    (fun H2 vs ds A2 n2 R2 v2 h2 => hr H2 A2 v d vs ds q Q R2 (v1.mono n2) v2 h2 fun H3 z f A3 n3 R3 v3 h3 => k H3 z f A3 ((n1.trans n2).trans n3) R3 v3 h3) fun H2 e A2 n2 R2 h2 => kx H2 e A2 (n1.trans n2) R2 h2⟩) kx
theorem sim_methL0 {r : V → List V → Hp → VK → Prop} {ar : A1m} (hr : SimM X.K "list" r ar) (ho : SimE X.K W to ao) : SimE X.K W (tBM0 X.K "list" r to) (aMethL ar ao aNil) := fun σ H Γ A q x Q R S hh k kx =>
  ho σ H Γ A _ x _ R S hh (fun H1 v d A1 n1 R1 v1 ⟨hl, h1⟩ => ⟨isLst_ty R1 v1 hl, hr H1 A1 v d [] [] q Q R1 v1 .nil h1 fun H3 z f A3 n3 R3 v3 h3 => k H3 z f A3 (n1.trans n3) R3 v3 h3⟩) kx
/-- a list's method -/
structure MthL (X : Cx) (name : Str) (id : String) (r : V → List V → Hp → VK → Prop) (ar : A1m) : Prop where
  slot : Slot "list" name id
  ty : typeOf (Value.builtin id) = pure (Value.type "method_descriptor")
  op : MtR X id r
  sim : SimM X.K "list" r ar
theorem ga_mL {name : Str} {id : String} {r : V → List V → Hp → VK → Prop} {ar : A1m} (M : MthL X name id r ar) (ho : PEA X W o to ao) (h : PAA X W (e :: es) t at_)
    (h1 : attributeBase o name X.env (eval o X.env) = eval o X.env := by rfl)
    (h2 : ((backTo cpos (starEach (e :: es) X.env)).all (fun x => !x.1) && (backToKw cpos (keywordEach [] X.env)).all (fun x => x.1.isSome) && decide ((e :: es).length + ([] : List Keyword).length + (if ([] : List Keyword).isEmpty = true then 0 else 1) < 30)) = true := by rfl)
    (h3 : (apos.endLine == cpos.line) = true := by rfl) (h4 : starEach (e :: es) X.env = (false, eval e X.env) :: starEach es X.env := by rfl) (h5 : (backTo cpos (starEach es X.env)).any (·.1) = false := by rfl) :
    PEA X W (.Call (.Attribute o name apos) (e :: es) [] cpos) (tBM X.K "list" r to t) (aMethL ar ao at_) :=
  ⟨pe_bm PySem.F.plainAttrs_list M.slot M.ty M.op ho.pe h.pe h1 h2 h3 h4 h5, sim_methL M.sim ho.sim h.sim⟩
theorem ga_mL0 {name : Str} {id : String} {r : V → List V → Hp → VK → Prop} {ar : A1m} (M : MthL X name id r ar) (ho : PEA X W o to ao)
    (h1 : attributeBase o name X.env (eval o X.env) = eval o X.env := by rfl) (h3 : (apos.endLine == cpos.line) = true := by rfl) :
    PEA X W (.Call (.Attribute o name apos) [] [] cpos) (tBM0 X.K "list" r to) (aMethL ar ao aNil) :=
  ⟨pe_bm0 PySem.F.plainAttrs_list M.slot M.ty M.op ho.pe h1 h3, sim_methL0 M.sim ho.sim⟩
end
section
variable {K : Fg}
def aAppend : A1m := fun d ds A q => match d, ds with
  | .ref a, [e] => onL A a fun xs => xs.length < big ∧ q .non (updA A a (.lst (xs ++ [e])))
  | _, _ => False
theorem sim_append : SimM K "list" rAppend aAppend := by
  intro H A v d vs ds q Q R hv hvs h k
  unfold aAppend at h
  split at h
  · obtain ⟨w, rfl, hw⟩ := hvs.one
    obtain ⟨xs, ha, h⟩ := onL_of h
    obtain ⟨ws, e1, r1⟩ := R.lst ha
    cases hv
    exact ⟨_, ws, w, rfl, rfl, e1, by rw [big_eq, r1.length]; exact h.1, k _ _ _ _ (.set e1 noTup_lst) (R.set e1 noTup_lst (.lst (r1.append (.cons hw .nil)))) .non h.2⟩
  · exact h.elim
def aPop : A1m := fun d ds A q => match d, ds with
  | .ref a, [] => onL A a fun xs => ∃ y, xs[xs.length - 1]? = some y ∧ q y (updA A a (.lst xs.dropLast))
  | .ref a, [.int i] => onL A a fun xs => ∃ (j : Nat) (y : D), i = (j : Int) ∧ j < 1000000 ∧ xs[j]? = some y ∧ q y (updA A a (.lst (xs.eraseIdx j)))
  | _, _ => False
theorem Vls.dropLast {H : Hp} {vs : List V} {ds : List D} (h : Vls K H vs ds) : Vls K H vs.dropLast ds.dropLast := by
  rw [List.dropLast_eq_take, List.dropLast_eq_take, h.length]
  exact h.take _
theorem Vls.erase {H : Hp} {vs : List V} {ds : List D} (h : Vls K H vs ds) (n : Nat) : Vls K H (vs.eraseIdx n) (ds.eraseIdx n) := by
  rw [List.eraseIdx_eq_take_drop_succ, List.eraseIdx_eq_take_drop_succ]
  exact (h.take n).append (h.drop _)
def rPopU : V → List V → Hp → VK → Prop := fun x vs H Q => rPop x vs H Q ∨ rPopAt x vs H Q
theorem mtR_or {X : Cx} {id : String} {r r' : V → List V → Hp → VK → Prop} (h : MtR X id r) (h' : MtR X id r') : MtR X id (fun x vs H Q => r x vs H Q ∨ r' x vs H Q) := by
  intro pins s σ H x vs v us Q I rx rv q
  rcases q with q | q
  · exact h pins s σ H x vs v us Q I rx rv q
  · exact h' pins s σ H x vs v us Q I rx rv q
theorem mtM_or {X : Cx} {id : String} {r r' : V → List V → Hp → VK → Prop} (h : MtM X id r) (h' : MtM X id r') : MtM X id (fun x vs H Q => r x vs H Q ∨ r' x vs H Q) := by
  intro pins s σ H x vs v us Q I rx rv q
  rcases q with q | q
  · exact h pins s σ H x vs v us Q I rx rv q
  · exact h' pins s σ H x vs v us Q I rx rv q
theorem sim_pop : SimM K "list" rPopU aPop := by
  intro H A v d vs ds q Q R hv hvs h k
  unfold aPop at h
  split at h
  · obtain ⟨xs, ha, y, hy, h⟩ := onL_of h
    obtain ⟨ws, e1, r1⟩ := R.lst ha
    cases hv; cases hvs
    obtain ⟨z, hz, vz⟩ := r1.get hy
    refine .inl ⟨_, ws, z, rfl, rfl, e1, by rw [r1.length]; exact hz, ?_⟩
    have n : Nxt K H (upd H _ (.lst ws.dropLast)) := .set e1 noTup_lst
    exact k _ _ _ _ n (R.set e1 noTup_lst (.lst r1.dropLast)) (vz.mono n) h
  · obtain ⟨w, rfl, hw⟩ := hvs.one
    obtain ⟨xs, ha, j, y, rfl, hj, hy, h⟩ := onL_of h
    obtain ⟨ws, e1, r1⟩ := R.lst ha
    cases hv; cases hw
    obtain ⟨z, hz, vz⟩ := r1.get hy
    have hlt : j < ws.length := (List.getElem?_eq_some_iff.mp hz).1
    have hb : (2 : Int) ^ 63 = 9223372036854775808 := by decide
    have n : Nxt K H (upd H _ (.lst (ws.eraseIdx j))) := .set e1 noTup_lst
    refine .inr ⟨_, ws, _, j, z, rfl, rfl, e1, by omega, by omega, ?_, hz, k _ _ _ _ n (R.set e1 noTup_lst (.lst (r1.erase j))) (vz.mono n) h⟩
    have hn : ¬ ((j : Int) < 0) := by omega
    have hn2 : (j : Int) < (ws.length : Int) := by omega
    simp [seqIndex?, hn, hlt]
  · exact h.elim
end

section
variable {K : Fg}
def aExtend : A1m := fun d ds A q => match d, ds with
  | .ref a, [.ref b] => onL A a fun xs => onL A b fun ys => xs.length + ys.length ≤ big ∧ q .non (updA A a (.lst (xs ++ ys)))
  | _, _ => False
theorem sim_extend : SimM K "list" rExtend aExtend := by
  intro H A v d vs ds q Q R hv hvs h k
  unfold aExtend at h
  split at h
  · obtain ⟨w, rfl, hw⟩ := hvs.one
    obtain ⟨xs, ha, h⟩ := onL_of h
    obtain ⟨ys, hb, h⟩ := onL_of h
    obtain ⟨ws, e1, r1⟩ := R.lst ha
    obtain ⟨us, e2, r2⟩ := R.lst hb
    cases hv; cases hw
    exact ⟨_, _, ws, us, rfl, rfl, e1, e2, by rw [big_eq, r1.length, r2.length]; exact h.1, k _ _ _ _ (.set e1 noTup_lst) (R.set e1 noTup_lst (.lst (r1.append r2))) .non h.2⟩
  · exact h.elim
end
section
variable {X : Cx} {W : WX} {a b c e o : Expr} {es : List Expr} {ta tb tc te to : TE} {aa ab ac ae ao : AE} {t : TA} {at_ : AA} {pos apos cpos p p2 : Pos}
theorem ml_append : MthL X "append" "list.append" rAppend aAppend := ⟨PySem.F.slot_list_append, PySem.F.type_list_append, mt_append, sim_append⟩
theorem ml_pop : MthL X "pop" "list.pop" rPopU aPop := ⟨PySem.F.slot_list_pop, PySem.F.type_list_pop, mtM_or mt_pop mt_popAt, sim_pop⟩
theorem ml_extend : MthL X "extend" "list.extend" rExtend aExtend := ⟨PySem.F.slot_list_extend, PySem.F.type_list_extend, mt_extend, sim_extend⟩
/-! ### s.split(sep), sep.join(xs) -/
def splitD (sep cs : List Nat) : List (List Nat) := spl sep 0 [] cs
def aSplit (o s : AE) : AE := fun Γ A q x => o Γ A (fun d A1 => match d with
  | .str cs => s Γ A1 (fun e A2 => match e with
    | .str sep => sep ≠ [] ∧ sep.all (· < 256) = true ∧ cs.length + 2 ≤ big ∧ newL A2 ((splitD sep cs).map D.str) q
    | _ => False) x
  | _ => False) x
theorem Vls.strs {K : Fg} {H : Hp} : ∀ {ys : List Str} {zs : List (List Nat)}, ys.map tl = zs → Vls K H (ys.map V.str) (zs.map D.str)
  | [], _, rfl => .nil
  | y :: ys, _, rfl => .cons (.str y) (Vls.strs rfl)
theorem ga_split (ho : PEA X W o to ao) (he : PEA X W e te ae) (hs : starEach [e] X.env = [(false, eval e X.env)] := by rfl) (hb : attributeBase o "split" X.env (eval o X.env) = eval o X.env := by rfl) (hl : (apos.endLine == pos.line) = true := by rfl) :
    PEA X W (.Call (.Attribute o "split" apos) [e] [] pos) (tM1 (fun x xs H Q => ∃ a b, x = .str a ∧ xs = [.str b] ∧ (b.length == 0) = false ∧ a.length + 2 ≤ sizeLine ∧ rNewStrs (Txt.split a b) H Q) to te) (aSplit ao ae) where
  pe := pe_split ho.pe he.pe hs hb hl
  sim := fun σ H Γ A q x Q R S h k kx => ho.sim σ H Γ A _ x _ R S h (fun H1 v d A1 n1 R1 v1 h1 => by
    cases d with
    | str cs =>
      obtain ⟨z, rfl, rfl⟩ := v1.inv_str
      refine ⟨⟨z, rfl⟩, he.sim σ H1 Γ A1 _ x _ R1 (S.mono n1) h1 (fun H2 w f A2 n2 R2 v2 h2 => ?_) fun H2 e A2 n2 R2 h2 => kx H2 e A2 (n1.trans n2) R2 h2⟩
      cases f with
      | str sep =>
        obtain ⟨y, rfl, rfl⟩ := v2.inv_str
        obtain ⟨g1, g2, g3, g4⟩ := h2
        refine ⟨z, y, rfl, rfl, ?_, by rw [big_eq, len_tl]; exact g3, fun p hp => ?_⟩
        · rw [beq_eq_false_iff_ne, len_tl]
          exact fun z => g1 (List.eq_nil_of_length_eq_zero z)
        · refine k _ _ _ _ ((n1.trans n2).trans (.new hp)) (R2.new hp (.lst (Vls.strs ?_))) (.ref p) (g4 p (R2.none hp))
          refine split_spl z y g1 (kind_ok ?_)
          rw [← Array.all_toList]
          exact g2
      | _ => exact h2.elim
    | _ => exact h1.elim) kx
def strsOf : List D → Option (List (List Nat))
  | [] => some []
  | .str cs :: r => (strsOf r).map (cs :: ·)
  | _ => none
theorem strsOf_vals {K : Fg} {H : Hp} : ∀ {ds : List D} {zs : List (List Nat)} {vs : List V}, strsOf ds = some zs → Vls K H vs ds → ∃ ys : List Str, vs = ys.map V.str ∧ ys.map tl = zs
  | [], _, _, h, .nil => by cases h; exact ⟨[], rfl, rfl⟩
  | .str cs :: r, zs, _, h, .cons hv t => by
    unfold strsOf at h
    cases e : strsOf r with
    | none => rw [e] at h; cases h
    | some z =>
      rw [e] at h
      cases h
      obtain ⟨x, rfl, rfl⟩ := hv.inv_str
      obtain ⟨ys, rfl, rfl⟩ := strsOf_vals e t
      exact ⟨x :: ys, rfl, rfl⟩
def joinD (sep : List Nat) (zs : List (List Nat)) : List Nat := joinL sep zs
def aJoin (o s : AE) : AE := fun Γ A q x => o Γ A (fun d A1 => match d with
  | .str sep => s Γ A1 (fun e A2 => match e with
    | .tup ds => ∃ zs, strsOf ds = some zs ∧ (zs.map List.length).sum + zs.length * sep.length ≤ big ∧ q (.str (joinD sep zs)) A2
    | .ref a => onL A2 a fun ds => ∃ zs, strsOf ds = some zs ∧ (zs.map List.length).sum + zs.length * sep.length ≤ big ∧ q (.str (joinD sep zs)) A2
    | _ => False) x
  | _ => False) x
theorem tl_joinD (y : Str) (ys : List Str) : tl (Txt.join y ys) = joinD (tl y) (ys.map tl) := by rw [join_eq, tl_join]; rfl
theorem lens_tl (ys : List Str) : ys.map (fun x => x.length) = (ys.map tl).map List.length := by
  rw [List.map_map]
  exact List.map_congr_left fun y _ => len_tl y
theorem ga_join (ho : PEA X W o to ao) (he : PEA X W e te ae) (hs : starEach [e] X.env = [(false, eval e X.env)] := by rfl) (hb : attributeBase o "join" X.env (eval o X.env) = eval o X.env := by rfl) (hl : (apos.endLine == pos.line) = true := by rfl) :
    PEA X W (.Call (.Attribute o "join" apos) [e] [] pos) (tM1 (fun x xs H Q => ∃ a p ys, x = .str a ∧ xs = [.ref p] ∧ (SqL X.K H p (List.map V.str ys) ∨ SqT X.K H p (List.map V.str ys)) ∧ (List.map (fun x => x.length) ys).sum + ys.length * a.length ≤ 16777216 ∧ Q (.str (Txt.join a ys)) H) to te) (aJoin ao ae) where
  pe := pe_join ho.pe he.pe hs hb hl
  sim := fun σ H Γ A q x Q R S h k kx => ho.sim σ H Γ A _ x _ R S h (fun H1 v d A1 n1 R1 v1 h1 => by
    cases d with
    | str sep =>
      obtain ⟨z, rfl, rfl⟩ := v1.inv_str
      refine ⟨⟨z, rfl⟩, he.sim σ H1 Γ A1 _ x _ R1 (S.mono n1) h1 (fun H2 w f A2 n2 R2 v2 h2 => ?_) fun H2 e A2 n2 R2 h2 => kx H2 e A2 (n1.trans n2) R2 h2⟩
      cases f with
      | tup ds =>
        obtain ⟨zs, g1, g2, g3⟩ := h2
        obtain ⟨p, vs, rfl, hp, hvs⟩ := v2.inv_tup
        obtain ⟨ys, rfl, rfl⟩ := strsOf_vals g1 hvs
        refine ⟨z, p, ys, rfl, rfl, .inr hp, ?_, k _ _ _ A2 (n1.trans n2) R2 (.strOf (tl_joinD z ys)) g3⟩
        rw [lens_tl, len_tl z]; simpa using g2
      | ref a =>
        obtain ⟨xs, ha, zs, g1, g2, g3⟩ := onL_of h2
        obtain ⟨ws, e1, r1⟩ := R2.lst ha
        cases v2
        obtain ⟨ys, rfl, rfl⟩ := strsOf_vals g1 r1
        refine ⟨z, _, ys, rfl, rfl, .inl (SqL.of e1), ?_, k _ _ _ A2 (n1.trans n2) R2 (.strOf (tl_joinD z ys)) g3⟩
        rw [lens_tl, len_tl z]; simpa using g2
      | _ => exact h2.elim
    | _ => exact h1.elim) kx
end
end GA

namespace GA
open PySem PySem.Spec PyProof.Rows L2 GV TL
section
variable {X : Cx} {W : WX} {st : Stmt} {rest body orelse : List Stmt} {e o : Expr} {te to : TE} {ae ao : AE} {ts us : TS} {as' bs' : AS} {pos pos' p : Pos}
/-! ### blocks -/
def aNext : AS := fun D Γ A => D.nx Γ A
def aSeq (s t : AS) : AS := fun D Γ A => s { D with nx := t D } Γ A
theorem gb_nil : PSsA X W [] tNext aNext := ⟨pss_nil, fun D AD σ H Γ A R S h k => k.nx σ H Γ A .rfl R S h⟩
theorem gb_cons (h1 : PSA X W st ts as') (h2 : PSsA X W rest us bs') : PSsA X W (st :: rest) (tSeq ts us) (aSeq as' bs') where
  pe := pss_cons h1.pe h2.pe
  sim := fun D AD σ H Γ A R S h k => h1.sim _ _ σ H Γ A R S h ⟨fun σ' H' Γ' A' n R' S' h' => h2.sim D AD σ' H' Γ' A' R' S' h' (k.mono n), k.rt, k.bk, k.ct, k.ex⟩
theorem gb_one (h1 : PSA X W st ts as') : PSsA X W [st] ts as' := ⟨pss_one h1.pe, h1.sim⟩
theorem gs_pass : PSA X W (.Pass pos) tNext aNext := ⟨ps_pass, fun D AD σ H Γ A R S h k => k.nx σ H Γ A .rfl R S h⟩
def aBreak : AS := fun D Γ A => D.bk Γ A
theorem gs_break : PSA X W (.Break pos) tBreak aBreak := ⟨ps_break, fun D AD σ H Γ A R S h k => k.bk σ H Γ A .rfl R S h⟩
def aCont : AS := fun D Γ A => D.ct Γ A
theorem gs_cont : PSA X W (.Continue pos) tCont aCont := ⟨ps_continue, fun D AD σ H Γ A R S h k => k.ct σ H Γ A .rfl R S h⟩
def aNever : AS := fun _ _ _ => False
theorem gs_never : PSA X W st tNever aNever := ⟨ps_never, fun _ _ _ _ _ _ _ _ h _ => h⟩
theorem gb_never : PSsA X W rest tNever aNever := ⟨pss_never, fun _ _ _ _ _ _ _ _ h _ => h⟩
def aRet (a : AE) : AS := fun D Γ A => a Γ A D.rt fun e A' => D.ex e Γ A'
theorem gs_ret (h : PEA X W e te ae) : PSA X W (.Return (some e) pos) (tRet te) (aRet ae) :=
  ⟨ps_ret h.pe, fun D AD σ H Γ A R S hh k => h.sim σ H Γ A _ _ _ R S hh (fun H' v d A' n R' V' h' => k.rt v H' d A' n R' V' h') fun H' e A' n R' h' => k.ex e σ H' Γ A' n R' (S.mono n) h'⟩
def aRetN : AS := fun D _ A => D.rt .non A
theorem gs_retN : PSA X W (.Return none pos) tRetN aRetN := ⟨ps_retN, fun D AD σ H Γ A R S h k => k.rt .non H .non A .rfl R .non h⟩
def aDrop (a : AE) : AS := fun D Γ A => a Γ A (fun _ A' => D.nx Γ A') fun e A' => D.ex e Γ A'
theorem gs_expr (h : PEA X W e te ae) (hs : swapsWith e none pos.line X.env = pure false := by rfl) : PSA X W (.Expr e pos) (tDrop te) (aDrop ae) :=
  ⟨ps_expr h.pe hs, fun D AD σ H Γ A R S hh k => h.sim σ H Γ A _ _ _ R S hh (fun H' v d A' n R' _ h' => k.nx σ H' Γ A' n R' (S.mono n) h') fun H' e A' n R' h' => k.ex e σ H' Γ A' n R' (S.mono n) h'⟩
def aIf (c : AT) (t u : AS) : AS := fun D Γ A => c Γ A (fun b A1 => bsel b (t D Γ A1) (u D Γ A1)) fun e A' => D.ex e Γ A'
theorem gs_if {c : Expr} {tc : TT} {ac : AT} (h : PTA X W c tc ac) (h1 : PSsA X W body ts as') (h2 : PSsA X W orelse us bs') : PSA X W (.If c body orelse pos) (tIfS tc ts us) (aIf ac as' bs') where
  pe := ps_if h.pe h1.pe h2.pe
  sim := fun D AD σ H Γ A R S hh k => h.sim σ H Γ A _ _ _ R S hh (fun H1 b A1 n1 R1 h' => by
    cases b with
    | true => exact h1.sim D AD σ H1 Γ A1 R1 (S.mono n1) (h'.1 rfl) (k.mono n1)
    | false => exact h2.sim D AD σ H1 Γ A1 R1 (S.mono n1) (h'.2 rfl) (k.mono n1)) fun H' e A' n R' h' => k.ex e σ H' Γ A' n R' (S.mono n) h'
/-! ### targets -/
abbrev AG := D → Gt → Ah → (Gt → Ah → Prop) → Prop
abbrev AGs := List D → Gt → Ah → (Gt → Ah → Prop) → Prop
structure PGA (X : Cx) (tg : Expr) (g : TG) (ag : AG) : Prop where
  pe : PG X tg g
  sim : ∀ (v : V) (d : D) (σ : L2.St) (H : Hp) (Γ : Gt) (A : Ah) (q : Gt → Ah → Prop) (Q : L2.St → Hp → Prop), RelA X.K H A → Slots X.K H σ Γ → Val X.K H v d → ag d Γ A q →
    (∀ σ' H' Γ' A', Nxt X.K H H' → RelA X.K H' A' → Slots X.K H' σ' Γ' → q Γ' A' → Q σ' H') → g v σ H Q
structure PGsA (X : Cx) (tg : List Expr) (g : TGs) (ag : AGs) : Prop where
  pe : PGs X tg g
  sim : ∀ (vs : List V) (ds : List D) (σ : L2.St) (H : Hp) (Γ : Gt) (A : Ah) (q : Gt → Ah → Prop) (Q : L2.St → Hp → Prop), RelA X.K H A → Slots X.K H σ Γ → Vls X.K H vs ds → ag ds Γ A q →
    (∀ σ' H' Γ' A', Nxt X.K H H' → RelA X.K H' A' → Slots X.K H' σ' Γ' → q Γ' A' → Q σ' H') → g vs σ H Q
def agName (i : Nat) : AG := fun d Γ A q => q (Γ.set i (some d)) A
theorem gg_name {i : Nat} {x : Str} (hN : X.N.Nodup) (hi : X.N[i]? = some x := by rfl) (hl : L2.Loc X.env.scope x := by first | exact Or.inl rfl | exact Or.inr rfl) (hf : X.fn x = true ∨ List.lookup x X.env.scope.names = some NameKind.local := by first | exact Or.inl rfl | exact Or.inr rfl) :
    PGA X (.Name x pos) (gName i) (agName i) :=
  ⟨pg_name hN hi hl hf, fun v d σ H Γ A q Q R S hv h k => k _ H _ A .rfl R (S.set hv) h⟩
def agNil : AGs := fun ds Γ A q => ds = [] ∧ q Γ A
def agCons (t : AG) (u : AGs) : AGs := fun ds Γ A q => match ds with
  | d :: r => t d Γ A fun Γ' A' => u r Γ' A' q
  | [] => False
theorem gg_nil (h : PGs X [] gNil := by exact pgs_nil) : PGsA X [] gNil agNil := ⟨h, fun vs ds σ H Γ A q Q R S hv h k => by
  obtain ⟨rfl, h⟩ := h
  cases hv
  exact ⟨rfl, k σ H Γ A .rfl R S h⟩⟩
theorem gg_cons {tg : Expr} {tgs : List Expr} {t : TG} {u : TGs} {at_ : AG} {au : AGs} (h1 : PGA X tg t at_) (h2 : PGsA X tgs u au)
    (he : (assignEach (tg :: tgs) X.env).map (·.2) = assign tg X.env :: (assignEach tgs X.env).map (·.2) := by rfl) : PGsA X (tg :: tgs) (gCons t u) (agCons at_ au) :=
  ⟨pgs_cons h1.pe h2.pe he, fun vs ds σ H Γ A q Q R S hv h k => by
    cases ds with
    | nil => exact h.elim
    | cons d r =>
      cases hv with
      | cons hv ht => exact ⟨_, _, rfl, h1.sim _ d σ H Γ A _ _ R S hv h fun σ1 H1 Γ1 A1 n1 R1 S1 h1' => h2.sim _ r σ1 H1 Γ1 A1 q Q R1 S1 (ht.mono n1) h1' fun σ2 H2 Γ2 A2 n2 R2 S2 h2' => k σ2 H2 Γ2 A2 (n1.trans n2) R2 S2 h2'⟩⟩
def agTup (n : Nat) (t : AGs) : AG := fun d Γ A q => match d with
  | .tup ds => ds.length = n ∧ t ds Γ A q
  | _ => False
theorem gg_tup {tgs : List Expr} {k0 n : Nat} {t : TGs} {at_ : AGs} (hc : X.calm = true) (h : PGsA X tgs t at_) (h1 : (assignEach tgs X.env).length = n := by rfl) (h2 : (assignEach tgs X.env).findIdx? (·.1) = none := by rfl) :
    PGA X (.Tuple tgs k0 pos) (gTup X.K n t) (agTup n at_) :=
  ⟨pg_tup hc h.pe h1 h2, fun v d σ H Γ A q Q R S hv hh k => by
    cases d with
    | tup ds =>
      obtain ⟨a, vs, rfl, hp, hvs⟩ := hv.inv_tup
      exact ⟨a, vs, rfl, hp, by rw [hvs.length]; exact hh.1, h.sim vs ds σ H Γ A q Q R S hvs hh.2 k⟩
    | _ => exact hh.elim⟩
def aAsg (a : AE) (g : AG) : AS := fun D Γ A => a Γ A (fun d A1 => g d Γ A1 D.nx) fun e A' => D.ex e Γ A'
theorem sim_asg {g : TG} {ag : AG} (h : SimE X.K W te ae) (hg : PGA X e g ag) : SimS X.K W (tAsg te g) (aAsg ae ag) := fun D AD σ H Γ A R S hh k =>
  h σ H Γ A _ _ _ R S hh (fun H1 v d A1 n1 R1 v1 h1 => hg.sim v d σ H1 Γ A1 _ _ R1 (S.mono n1) v1 h1 fun σ2 H2 Γ2 A2 n2 R2 S2 h2 => k.nx σ2 H2 Γ2 A2 (n1.trans n2) R2 S2 h2) fun H' e A' n R' h' => k.ex e σ H' Γ A' n R' (S.mono n) h'
theorem gs_set {i : Nat} {x : Str} (hN : X.N.Nodup) (h : PEA X W e te ae) (hi : X.N[i]? = some x := by rfl) (hl : L2.Loc X.env.scope x := by first | exact Or.inl rfl | exact Or.inr rfl)
    (hs : swapsWith e (some (.Name x pos')) pos.line X.env = pure false := by rfl) (hf : X.fn x = true ∨ List.lookup x X.env.scope.names = some NameKind.local := by first | exact Or.inl rfl | exact Or.inr rfl) :
    PSA X W (.Assign [.Name x pos'] e pos) (tAsg te (gName i)) (aAsg ae (agName i)) :=
  ⟨ps_set hN hi hl h.pe hs hf, sim_asg h.sim (gg_name (pos := pos') hN hi hl hf)⟩
theorem gs_asg {tg : Expr} {g : TG} {ag : AG} (h : PEA X W e te ae) (hg : PGA X tg g ag) (h1 : swapsWithSole [tg] e pos.line X.env = pure false := by rfl) (h2 : swappedStores [tg] e X.env = pure none := by rfl)
    (h3 : (assignEach [tg] X.env).map (·.2) = [assign tg X.env] := by rfl) : PSA X W (.Assign [tg] e pos) (tAsg te g) (aAsg ae ag) :=
  ⟨ps_asg h.pe hg.pe h1 h2 h3, sim_asg h.sim hg⟩
/-- xs[i] = e -/
def agSubL (o i : AE) : AG := fun d Γ A q => o Γ A (fun l A1 => i Γ A1 (fun k A2 => match l, k with
  | .ref a, .int k => onL A2 a fun xs => ∃ j, ixN xs.length k = some j ∧ q Γ (updA A2 a (.lst (xs.set j d)))
  | _, _ => False) fun _ _ => False) fun _ _ => False
abbrev WF : WX := fun _ _ _ _ => False
theorem gg_subL {i : Expr} {ti : TE} {ai : AE} (ho : PEA X WF o to ao) (hi : PEA X WF i ti ai)
    (h : ∀ v, assign (.Subscript o i pos) X.env v = (do let ov ← holding [v] (eval o X.env); let iv ← holding [v, ov] (eval i X.env); standAt pos; holding [v, ov, iv] (setItem ov iv v); release [v, ov, iv] []) := by intro _; rfl) :
    PGA X (.Subscript o i pos) (gSub to ti rSetL) (agSubL ao ai) :=
  ⟨pg_sub ho.pe hi.pe set_list h, fun v d σ H Γ A q Q R S hv hh k => ho.sim σ H Γ A _ _ _ R S hh (fun H1 w l A1 n1 R1 v1 h1 => hi.sim σ H1 Γ A1 _ _ _ R1 (S.mono n1) h1
    (fun H2 z kk A2 n2 R2 v2 h2 => by
      cases l with
      | ref a => cases kk with
        | int kk =>
          obtain ⟨xs, ha, j, hj, h2⟩ := onL_of h2
          obtain ⟨ws, e1, r1⟩ := R2.lst ha
          cases v1; cases v2
          have n : Nxt X.K H2 (upd H2 a (.lst (ws.set j v))) := .set e1 noTup_lst
          exact ⟨a, ws, kk, j, rfl, rfl, e1, by rw [r1.length]; exact hj, k _ _ _ _ ((n1.trans n2).trans n) (R2.set e1 noTup_lst (.lst (r1.set ((hv.mono n1).mono n2) j))) (S.mono ((n1.trans n2).trans n)) h2⟩
        | _ => exact h2.elim
      | _ => exact h2.elim) fun _ _ _ _ _ z => z.elim) fun _ _ _ _ _ z => z.elim⟩
/-- x += e, a number -/
def aAug (i : Nat) (a : AE) (f : Int → Int → Int) : AS := fun D Γ A => match Γ[i]? with
  | some (some (.int m)) => a Γ A (fun d A1 => match d with
    | .int n => D.nx (Γ.set i (some (.int (f m n)))) A1
    | _ => False) fun e A' => D.ex e Γ A'
  | _ => False
theorem gs_augI {i : Nat} {x : Str} {op : Operator} {f : Int → Int → Int} (hN : X.N.Nodup) (hop : PIp X op (ipI f)) (h : PEA X W e te ae) (hi : X.N[i]? = some x := by rfl) (hl : L2.Loc X.env.scope x := by first | exact Or.inl rfl | exact Or.inr rfl)
    (hf : X.fn x = true ∨ List.lookup x X.env.scope.names = some NameKind.local := by first | exact Or.inl rfl | exact Or.inr rfl) : PSA X W (.AugAssign (.Name x pos') op e pos) (tAug i te (ipI f)) (aAug i ae f) :=
  ⟨ps_aug hN hi hl h.pe hop hf, fun D AD σ H Γ A R S hh k => by
    unfold aAug at hh
    split at hh
    · rename_i m e1
      obtain ⟨v, e2, hv⟩ := S.get i _ e1
      cases hv
      refine ⟨_, e2, h.sim σ H Γ A _ _ _ R S hh (fun H1 w d A1 n1 R1 v1 h1 => ?_) fun H' e A' n R' h' => k.ex e σ H' Γ A' n R' (S.mono n) h'⟩
      cases d with
      | int n => cases v1; exact ⟨m, n, rfl, rfl, k.nx _ H1 _ A1 n1 R1 ((S.mono n1).set (.int _)) h1⟩
      | _ => exact h1.elim
    · exact hh.elim⟩
end
/-! ### what a for walks -/
/-- a walk of known length: the list that must stay, how many, which -/
structure ItA where
  src : Option (Addr × List D)
  n : Nat
  item : Nat → D
def ItA.still (it : ItA) (A : Ah) : Prop := match it.src with
  | some (a, ds) => A a = some (.lst ds)
  | none => True
structure LoopOk (K : Fg) (H0 : Hp) (J : It) (it : ItA) : Prop where
  go : ∀ i H A, Nxt K H0 H → RelA K H A → it.still A → i < it.n → J.go i H
  yld : ∀ i H A x H', Nxt K H0 H → RelA K H A → it.still A → i < it.n → J.yld i H x H' → Nxt K H H' ∧ RelA K H' A ∧ Val K H' x (it.item i)
  stop : ∀ i H A, Nxt K H0 H → RelA K H A → it.still A → it.n ≤ i → J.stop i H
abbrev AI := Gt → Ah → (ItA → Ah → Prop) → AX → Prop
structure PIA (X : Cx) (W : WX) (tg iter : Expr) (wi : TI) (ai : AI) : Prop where
  pe : PI X tg iter wi
  sim : ∀ (σ : L2.St) (H : Hp) (Γ : Gt) (A : Ah) (q : ItA → Ah → Prop) (x : AX) (Q : It → Hp → Prop), RelA X.K H A → Slots X.K H σ Γ → ai Γ A q x →
    (∀ H' J it A', Nxt X.K H H' → RelA X.K H' A' → LoopOk X.K H' J it → it.still A' → q it A' → Q J H') →
    (∀ H' e A', Nxt X.K H H' → RelA X.K H' A' → x e A' → W (exC X.K e) (some e.d) σ H') → wi σ H Q

section
variable {X : Cx} {W : WX} {tg iter e : Expr} {body : List Stmt} {te : TE} {ae : AE} {wi : TI} {ai : AI} {g : TG} {ag : AG} {tb : TS} {ab : AS} {pos p : Pos}
def aFor (wi : AI) (g : AG) (tb : AS) : AS := fun D Γ A => wi Γ A (fun it A1 => ∃ Inv : Nat → Gt → Ah → Prop, Inv 0 Γ A1 ∧ (∀ i Γ' A', i ≤ it.n → Inv i Γ' A' → it.still A') ∧
  (∀ i Γ' A', i < it.n → Inv i Γ' A' → g (it.item i) Γ' A' fun Γ2 A2 => tb { D with nx := Inv (i + 1), ct := Inv (i + 1), bk := D.nx } Γ2 A2) ∧ ∀ Γ' A', Inv it.n Γ' A' → D.nx Γ' A') fun e A' => D.ex e Γ A'
theorem sim_for0 (hi : ∀ (σ : L2.St) (H : Hp) (Γ : Gt) (A : Ah) (q : ItA → Ah → Prop) (x : AX) (Q : It → Hp → Prop), RelA X.K H A → Slots X.K H σ Γ → ai Γ A q x →
    (∀ H' J it A', Nxt X.K H H' → RelA X.K H' A' → LoopOk X.K H' J it → it.still A' → q it A' → Q J H') →
    (∀ H' e A', Nxt X.K H H' → RelA X.K H' A' → x e A' → W (exC X.K e) (some e.d) σ H') → wi σ H Q) (hg : PGA X tg g ag) (hb : SimS X.K W tb ab) : SimS X.K W (tFor wi g tb) (aFor ai ag ab) := fun D AD σ H Γ A R S hh k =>
  hi σ H Γ A _ _ _ R S hh (fun H1 J it A1 n1 R1 L st ⟨Iv, h0, hs, hturn, hd⟩ => by
    refine ⟨fun i m σ' H' => m = it.n - i ∧ i ≤ it.n ∧ ∃ Γ' A', Nxt X.K H1 H' ∧ RelA X.K H' A' ∧ Slots X.K H' σ' Γ' ∧ Iv i Γ' A', ⟨it.n, by omega, Nat.zero_le _, Γ, A1, .rfl, R1, S.mono n1, h0⟩, ?_⟩
    rintro i m σ' H' ⟨rfl, hle, Γ', A', n', R', S', hI⟩
    have st' := hs i Γ' A' hle hI
    by_cases hlt : i < it.n
    · refine .inr ⟨L.go i H' A' n' R' st' hlt, fun σ2 H2 => ∃ Γ2 A2, Nxt X.K H1 H2 ∧ RelA X.K H2 A2 ∧ Slots X.K H2 σ2 Γ2 ∧ Iv (i + 1) Γ2 A2, fun σ2 H2 ⟨Γ2, A2, q⟩ => ⟨it.n - (i + 1), by omega, rfl, hlt, Γ2, A2, q⟩, fun x H3 hy => ?_⟩
      obtain ⟨n3, R3, v3⟩ := L.yld i H' A' x H3 n' R' st' hlt hy
      refine hg.sim x _ σ' H3 Γ' A' _ _ R3 (S'.mono n3) v3 (hturn i Γ' A' hlt hI) fun σ4 H4 Γ4 A4 n4 R4 S4 h4 => ?_
      have n14 := (n'.trans n3).trans n4
      refine hb _ _ σ4 H4 Γ4 A4 R4 S4 h4 ⟨fun σ5 H5 Γ5 A5 n5 R5 S5 h5 => ⟨Γ5, A5, n14.trans n5, R5, S5, h5⟩, (k.mono (n1.trans n14)).rt, fun σ5 H5 Γ5 A5 n5 R5 S5 h5 => k.nx σ5 H5 Γ5 A5 ((n1.trans n14).trans n5) R5 S5 h5,
        fun σ5 H5 Γ5 A5 n5 R5 S5 h5 => ⟨Γ5, A5, n14.trans n5, R5, S5, h5⟩, (k.mono (n1.trans n14)).ex⟩
    · have e : i = it.n := by omega
      subst e
      exact .inl ⟨L.stop _ H' A' n' R' st' (Nat.le_refl _), k.nx σ' H' Γ' A' (n1.trans n') R' S' (hd Γ' A' hI)⟩) fun H' e A' n R' h' => k.ex e σ H' Γ A' n R' (S.mono n) h'
theorem gs_for (hp : PassesOwn (model X.prog X.w) X.A X.env X.xe) (hc : X.calm = true) (hi : PIA X W tg iter wi ai) (hg : PGA X tg g ag) (hb : PSsA X W body tb ab)
    (hs : ∀ x, foldedSetIterable iter X.env x = pure x := by intro _; rfl) : PSA X W (.For tg iter body [] pos) (tFor wi g tb) (aFor ai ag ab) :=
  ⟨ps_for hp hc hi.pe hg.pe hb.pe hs, sim_for0 hi.sim hg hb.sim⟩
/-! ### the walks -/
theorem getD_at {ds : List D} {i : Nat} (hi : i < ds.length) : ds.getD i .non = ds[i] := by
  rw [List.getD_eq_getElem?_getD, List.getElem?_eq_getElem hi]
  rfl
theorem loop_list {K : Fg} {H0 : Hp} {a : Addr} {ds : List D} : LoopOk K H0 (Itl K a) ⟨some (a, ds), ds.length, fun i => ds.getD i .non⟩ where
  go := fun i H A _ R st hi => by
    obtain ⟨vs, e, r⟩ := R.lst st
    obtain ⟨v, hv, _⟩ := r.get (i := i) (List.getElem?_eq_getElem hi)
    exact ⟨vs, v, SqL.of e, hv⟩
  yld := fun i H A x H' _ R st hi hy => by
    obtain ⟨rfl, y⟩ := hy
    obtain ⟨vs, e, r⟩ := R.lst st
    obtain ⟨v, hv, r1⟩ := r.get (i := i) (List.getElem?_eq_getElem hi)
    have := y vs (SqL.of e)
    rw [hv] at this
    cases this
    refine ⟨.rfl, R, ?_⟩
    show Val K _ _ (ds.getD i .non)
    rw [getD_at hi]
    exact r1
  stop := fun i H A _ R st hi => by
    obtain ⟨vs, e, r⟩ := R.lst st
    exact ⟨vs, SqL.of e, by rw [r.length]; exact hi⟩
theorem loop_tup {K : Fg} {a : Addr} {ds : List D} {vs : List V} {H0 : Hp} (h : SqT K H0 a vs) (hv : Vls K H0 vs ds) : LoopOk K H0 (Itt K a) ⟨none, ds.length, fun i => ds.getD i .non⟩ where
  go := fun i H A n R _ hi => by
    obtain ⟨v, e, _⟩ := hv.get (i := i) (List.getElem?_eq_getElem hi)
    exact ⟨vs, v, n.tp _ _ h, e⟩
  yld := fun i H A x H' n R _ hi hy => by
    obtain ⟨rfl, y⟩ := hy
    obtain ⟨v, e, r1⟩ := hv.get (i := i) (List.getElem?_eq_getElem hi)
    have := y vs (n.tp _ _ h)
    rw [e] at this
    cases this
    refine ⟨.rfl, R, ?_⟩
    show Val K _ _ (ds.getD i .non)
    rw [getD_at hi]
    exact r1.mono n
  stop := fun i H A n R _ hi => ⟨vs, n.tp _ _ h, by rw [hv.length]; exact hi⟩
theorem loop_rng {K : Fg} {H0 : Hp} {lo : Int} {n : Nat} : LoopOk K H0 (Itr lo n) ⟨none, n, fun i => .int (lo + i)⟩ where
  go := fun i H A _ _ _ hi => hi
  yld := fun i H A x H' _ R _ hi hy => by
    obtain ⟨rfl, rfl⟩ := hy
    exact ⟨.rfl, R, .int _⟩
  stop := fun i H A _ _ _ hi => hi
theorem loop_str {K : Fg} {H0 : Hp} {x : Str} : LoopOk K H0 (Its x) ⟨none, (tl x).length, fun i => .str [(tl x).getD i 0]⟩ where
  go := fun i H A _ _ _ hi => by
    show i < x.cps.size
    simpa using hi
  yld := fun i H A z H' _ R _ hi hy => by
    obtain ⟨rfl, c, hc, rfl⟩ := hy
    refine ⟨.rfl, R, .strOf ?_⟩
    show [c] = [(tl x).getD i 0]
    have : (tl x)[i]? = some c := by rw [Array.getElem?_toList]; exact hc
    rw [List.getD_eq_getElem?_getD, this]
    rfl
  stop := fun i H A _ _ _ hi => by
    show x.cps.size ≤ i
    simpa using hi
theorem loop_rev {K : Fg} {H0 : Hp} {a : Addr} {ds : List D} : LoopOk K H0 (Itv K a ds.length) ⟨some (a, ds), ds.length, fun i => ds.getD (ds.length - 1 - i) .non⟩ where
  go := fun i H A _ R st hi => by
    have hi : i < ds.length := hi
    obtain ⟨vs, e, r⟩ := R.lst st
    obtain ⟨v, hv, _⟩ := r.get (i := ds.length - 1 - i) (List.getElem?_eq_getElem (by omega))
    exact ⟨hi, vs, v, SqL.of e, hv⟩
  yld := fun i H A x H' _ R st hi hy => by
    have hi : i < ds.length := hi
    obtain ⟨rfl, y⟩ := hy
    obtain ⟨vs, e, r⟩ := R.lst st
    obtain ⟨v, hv, r1⟩ := r.get (i := ds.length - 1 - i) (List.getElem?_eq_getElem (by omega))
    have := y vs (SqL.of e)
    rw [hv] at this
    cases this
    refine ⟨.rfl, R, ?_⟩
    show Val K _ _ (ds.getD (ds.length - 1 - i) .non)
    rw [getD_at (by omega)]
    exact r1
  stop := fun i H A _ _ _ hi => hi
theorem loop_revT {K : Fg} {a : Addr} {ds : List D} {vs : List V} {H0 : Hp} (h : SqT K H0 a vs) (hv : Vls K H0 vs ds) : LoopOk K H0 (RT.ItvT K a ds.length) ⟨none, ds.length, fun i => ds.getD (ds.length - 1 - i) .non⟩ where
  go := fun i H A n R _ hi => by
    have hi : i < ds.length := hi
    obtain ⟨v, e, _⟩ := hv.get (i := ds.length - 1 - i) (List.getElem?_eq_getElem (by omega))
    exact ⟨hi, vs, v, n.tp _ _ h, e⟩
  yld := fun i H A x H' n R _ hi hy => by
    have hi : i < ds.length := hi
    obtain ⟨rfl, y⟩ := hy
    obtain ⟨v, e, r1⟩ := hv.get (i := ds.length - 1 - i) (List.getElem?_eq_getElem (by omega))
    have := y vs (n.tp _ _ h)
    rw [e] at this
    cases this
    refine ⟨.rfl, R, ?_⟩
    show Val K _ _ (ds.getD (ds.length - 1 - i) .non)
    rw [getD_at (by omega)]
    exact r1.mono n
  stop := fun i H A _ _ _ hi => hi
/-- for x in a list | a tuple | a text: the three rules of the kind that stands there -/
def aIterL (a : AE) : AI := fun Γ A q x => a Γ A (fun d A1 => match d with
  | .ref a => onL A1 a fun ds => q ⟨some (a, ds), ds.length, fun i => ds.getD i .non⟩ A1
  | _ => False) x
theorem gi_list (h : PEA X W e te ae) : PIA X W tg e (iList X.K te) (aIterL ae) where
  pe := pi_list h.pe
  sim := fun σ H Γ A q x Q R S hh k kx => h.sim σ H Γ A _ x _ R S hh (fun H1 v d A1 n1 R1 v1 h1 => by
    cases d with
    | ref a =>
      obtain ⟨xs, ha, h1⟩ := onL_of h1
      obtain ⟨ws, e1, r1⟩ := R1.lst ha
      cases v1
      exact ⟨_, rfl, ⟨ws, SqL.of e1⟩, k H1 _ _ A1 n1 R1 loop_list ha h1⟩
    | _ => exact h1.elim) kx
def aIterT (a : AE) : AI := fun Γ A q x => a Γ A (fun d A1 => match d with
  | .tup ds => q ⟨none, ds.length, fun i => ds.getD i .non⟩ A1
  | _ => False) x
theorem gi_tup (h : PEA X W e te ae) : PIA X W tg e (iTup X.K te) (aIterT ae) where
  pe := pi_tup h.pe
  sim := fun σ H Γ A q x Q R S hh k kx => h.sim σ H Γ A _ x _ R S hh (fun H1 v d A1 n1 R1 v1 h1 => by
    cases d with
    | tup ds =>
      obtain ⟨p, vs, rfl, hp, hvs⟩ := v1.inv_tup
      exact ⟨_, rfl, ⟨vs, hp⟩, k H1 _ _ A1 n1 R1 (loop_tup hp hvs) trivial h1⟩
    | _ => exact h1.elim) kx
def aIterS (a : AE) : AI := fun Γ A q x => a Γ A (fun d A1 => match d with
  | .str cs => q ⟨none, cs.length, fun i => .str [cs.getD i 0]⟩ A1
  | _ => False) x
theorem gi_str (h : PEA X W e te ae) : PIA X W tg e (iStr te) (aIterS ae) where
  pe := pi_str h.pe
  sim := fun σ H Γ A q x Q R S hh k kx => h.sim σ H Γ A _ x _ R S hh (fun H1 v d A1 n1 R1 v1 h1 => by
    cases d with
    | str cs =>
      obtain ⟨z, rfl, rfl⟩ := v1.inv_str
      exact ⟨z, rfl, k H1 _ _ A1 n1 R1 loop_str trivial h1⟩
    | _ => exact h1.elim) kx
/-- either of three: a list, a tuple, a text -/
def aIter (a : AE) : AI := fun Γ A q x => a Γ A (fun d A1 => match d with
  | .ref a => onL A1 a fun ds => q ⟨some (a, ds), ds.length, fun i => ds.getD i .non⟩ A1
  | .tup ds => q ⟨none, ds.length, fun i => ds.getD i .non⟩ A1
  | .str cs => q ⟨none, cs.length, fun i => .str [cs.getD i 0]⟩ A1
  | _ => False) x
def iSeq (K : Fg) (te : TE) : TI := fun σ H R => te σ H fun x H1 => (∃ a, x = .ref a ∧ (∃ xs, SqL K H1 a xs) ∧ R (Itl K a) H1) ∨ (∃ a, x = .ref a ∧ (∃ xs, SqT K H1 a xs) ∧ R (Itt K a) H1) ∨ ∃ z, x = .str z ∧ R (Its z) H1
theorem pi_seq {l : Expr} {tl' : TE} (hl : PE X l tl') : PI X tg l (iSeq X.K tl') := by
  refine ⟨fun pins s σ H R I h => thn (hl.run pins s σ H _ I h) ?_⟩
  rintro v s1 ⟨x, H1, J, r1, q⟩
  rcases q with ⟨a, rfl, ⟨xs, hq⟩, q⟩ | ⟨a, rfl, ⟨xs, hq⟩, q⟩ | ⟨z, rfl, q⟩
  · cases r1
    obtain ⟨its, rv, p, hz⟩ := J.list hq
    refine wpAny_pyIter_list p.isList ⟨s1.heap.objs.size, [s1.heap.objs.size], _, _, H1, rfl, ?_, turn_list a _, ⟨_, Heap.get?_push_size _ rfl, rfl, rfl⟩, ?_, q⟩
    · exact J.kept (t' := s1.toks) fun b o e => Heap.get?_push_of_some _ e
    · intro b hb
      obtain rfl : b = s1.heap.objs.size := by simpa using hb
      exact J.fpOk (Nat.le_refl _) (J.hok.fresh (Nat.le_refl _))
  · cases r1
    obtain ⟨its, rv, p, hz⟩ := J.tuple hq
    refine wpAny_pyIter_tuple p ⟨s1.heap.objs.size, [s1.heap.objs.size], _, _, H1, rfl, ?_, turn_tuple a _, ⟨_, Heap.get?_push_size _ rfl, rfl, rfl⟩, ?_, q⟩
    · exact J.kept (t' := s1.toks) fun b o e => Heap.get?_push_of_some _ e
    · intro b hb
      obtain rfl : b = s1.heap.objs.size := by simpa using hb
      exact J.fpOk (Nat.le_refl _) (J.hok.fresh (Nat.le_refl _))
  · obtain ⟨t, rfl⟩ := r1
    cases ha : z.cps.all (· < 128)
    · exact wpAny_pyIter_wide ha (pi_one (tk := s1.toks) J _ (turn_str _ z t "str_iterator" (.inr rfl)) ⟨_, Heap.get?_push_size _ rfl, rfl, rfl⟩ q)
    · exact wpAny_pyIter_ascii ha (pi_one (tk := s1.toks) J _ (turn_str _ z t "str_ascii_iterator" (.inl rfl)) ⟨_, Heap.get?_push_size _ rfl, rfl, rfl⟩ q)
theorem gi_seq (h : PEA X W e te ae) : PIA X W tg e (iSeq X.K te) (aIter ae) where
  pe := pi_seq h.pe
  sim := fun σ H Γ A q x Q R S hh k kx => h.sim σ H Γ A _ x _ R S hh (fun H1 v d A1 n1 R1 v1 h1 => by
    cases d with
    | ref a =>
      obtain ⟨xs, ha, h1⟩ := onL_of h1
      obtain ⟨ws, e1, r1⟩ := R1.lst ha
      cases v1
      exact .inl ⟨_, rfl, ⟨ws, SqL.of e1⟩, k H1 _ _ A1 n1 R1 loop_list ha h1⟩
    | tup ds =>
      obtain ⟨p, vs, rfl, hp, hvs⟩ := v1.inv_tup
      exact .inr (.inl ⟨_, rfl, ⟨vs, hp⟩, k H1 _ _ A1 n1 R1 (loop_tup hp hvs) trivial h1⟩)
    | str cs =>
      obtain ⟨z, rfl, rfl⟩ := v1.inv_str
      exact .inr (.inr ⟨z, rfl, k H1 _ _ A1 n1 R1 loop_str trivial h1⟩)
    | _ => exact h1.elim) kx
theorem p62 : (2 : Int) ^ 62 = 4611686018427387904 := by decide
def aRng1 (as : AA) : AI := fun Γ A q x => as Γ A (fun ds A1 => match ds with
  | [.int j] => (-4611686018427387904 ≤ j ∧ j < 4611686018427387904) ∧ q ⟨none, j.toNat, fun i => .int (0 + i)⟩ A1
  | _ => False) x
def aRng2 (as : AA) : AI := fun Γ A q x => as Γ A (fun ds A1 => match ds with
  | [.int i, .int j] => (-4611686018427387904 ≤ i ∧ i < 4611686018427387904 ∧ -4611686018427387904 ≤ j ∧ j < 4611686018427387904) ∧ q ⟨none, (j - i).toNat, fun k => .int (i + k)⟩ A1
  | _ => False) x
theorem sim_rng1 {K : Fg} {ta : TA} {aa : AA} (h : SimA K W ta aa) (σ : L2.St) (H : Hp) (Γ : Gt) (A : Ah) (q : ItA → Ah → Prop) (x : AX) (Q : It → Hp → Prop) (R : RelA K H A) (S : Slots K H σ Γ) (hh : aRng1 aa Γ A q x)
    (k : ∀ H' J it A', Nxt K H H' → RelA K H' A' → LoopOk K H' J it → it.still A' → q it A' → Q J H') (kx : ∀ H' e A', Nxt K H H' → RelA K H' A' → x e A' → W (exC K e) (some e.d) σ H') : iRng1 ta σ H Q :=
  h σ H Γ A _ x _ R S hh (fun H1 vs ds A1 n1 R1 v1 h1 => by
    split at h1
    · obtain ⟨v, rfl, hv⟩ := v1.one
      cases hv
      exact ⟨_, rfl, by rw [p62]; exact h1.1.1, by rw [p62]; exact h1.1.2, k H1 _ _ A1 n1 R1 loop_rng trivial h1.2⟩
    · exact h1.elim) kx
theorem gi_rng1 {ta : TA} {aa : AA} (h : PAA X W [e] ta aa) (hm : X.mg "range" = none) (hg : Gl X "range" := by rfl) (hs : starEach [e] X.env = [(false, eval e X.env)] := by rfl) :
    PIA X W tg (.Call (.Name "range" p) [e] [] pos) (iRng1 ta) (aRng1 aa) := ⟨pi_range1 hg hm h.pe hs, sim_rng1 h.sim⟩
theorem gi_rng2 {e' : Expr} {ta : TA} {aa : AA} (h : PAA X W [e, e'] ta aa) (hm : X.mg "range" = none) (hg : Gl X "range" := by rfl) (hs : starEach [e, e'] X.env = [(false, eval e X.env), (false, eval e' X.env)] := by rfl) (hs2 : starEach [e'] X.env = [(false, eval e' X.env)] := by rfl) :
    PIA X W tg (.Call (.Name "range" p) [e, e'] [] pos) (iRng2 ta) (aRng2 aa) where
  pe := pi_range2 hg hm h.pe hs hs2
  sim := fun σ H Γ A q x Q R S hh k kx => h.sim σ H Γ A _ x _ R S hh (fun H1 vs ds A1 n1 R1 v1 h1 => by
    split at h1
    · obtain ⟨v, w, rfl, hv, hw⟩ := v1.two
      cases hv; cases hw
      exact ⟨_, _, rfl, by rw [p62]; exact h1.1, k H1 _ _ A1 n1 R1 loop_rng trivial h1.2⟩
    · exact h1.elim) kx
def aRev (a : AE) : AI := fun Γ A q x => a Γ A (fun d A1 => match d with
  | .ref a => onL A1 a fun ds => q ⟨some (a, ds), ds.length, fun i => ds.getD (ds.length - 1 - i) .non⟩ A1
  | .tup ds => q ⟨none, ds.length, fun i => ds.getD (ds.length - 1 - i) .non⟩ A1
  | _ => False) x
theorem gi_rev (h : PEA X W e te ae) (hm : X.mg "reversed" = none) (hg : Gl X "reversed" := by rfl) (hs : starEach [e] X.env = (false, eval e X.env) :: starEach [] X.env := by rfl) :
    PIA X W tg (.Call (.Name "reversed" p) [e] [] pos) (RT.iRevA X.K te) (aRev ae) where
  pe := RT.pi_revA hg hm h.pe hs
  sim := fun σ H Γ A q x Q R S hh k kx => h.sim σ H Γ A _ x _ R S hh (fun H1 v d A1 n1 R1 v1 h1 => by
    cases d with
    | ref a =>
      obtain ⟨xs, ha, h1⟩ := onL_of h1
      obtain ⟨ws, e1, r1⟩ := R1.lst ha
      cases v1
      have hl := r1.length
      exact ⟨_, ws, rfl, .inl ⟨SqL.of e1, by rw [hl]; exact k H1 _ _ A1 n1 R1 loop_rev ha h1⟩⟩
    | tup ds =>
      obtain ⟨p, vs, rfl, hp, hvs⟩ := v1.inv_tup
      have hl := hvs.length
      exact ⟨_, vs, rfl, .inr ⟨hp, by rw [hl]; exact k H1 _ _ A1 n1 R1 (loop_revT hp hvs) trivial h1⟩⟩
    | _ => exact h1.elim) kx
/-! ### while -/
def aWhile (c : AT) (tb : AS) : AS := fun D Γ A => ∃ Iv : Nat → Gt → Ah → Prop, (∃ m, Iv m Γ A) ∧ ∀ m Γ' A', Iv m Γ' A' →
  c Γ' A' (fun b A1 => bsel b (tb { D with nx := fun Γ2 A2 => ∃ m', m' < m ∧ Iv m' Γ2 A2, ct := fun Γ2 A2 => ∃ m', m' < m ∧ Iv m' Γ2 A2, bk := D.nx } Γ' A1) (D.nx Γ' A1)) fun e A1 => D.ex e Γ' A1
end
end GA

namespace GA
open PySem PySem.Spec PyProof.Rows L2 GV TL
section
variable {X : Cx} {W : WX} {c e : Expr} {es : List Expr} {body suite : List Stmt} {b₀ : Stmt} {tc : TT} {ac : AT} {tb : TS} {ab : AS} {t : TA} {at_ : AA} {pos p np pos' : Pos}
theorem gs_while (hp : PassesOwn (model X.prog X.w) X.A X.env X.xe) (hc : PTA X W c tc ac) (hb : PSsA X W body tb ab) : PSA X W (.While c body [] pos) (tWhile tc tb) (aWhile ac ab) where
  pe := ps_while hp hc.pe hb.pe
  sim := fun D AD σ H Γ A R S ⟨Iv, ⟨m0, h0⟩, turn⟩ k => by
    refine ⟨fun m σ' H' => ∃ Γ' A', Nxt X.K H H' ∧ RelA X.K H' A' ∧ Slots X.K H' σ' Γ' ∧ Iv m Γ' A', ⟨m0, Γ, A, .rfl, R, S, h0⟩, ?_⟩
    rintro m σ' H' ⟨Γ', A', n', R', S', hI⟩
    refine hc.sim σ' H' Γ' A' _ _ _ R' S' (turn m Γ' A' hI) (fun H1 b A1 n1 R1 h1 => ?_) fun H1 e A1 n1 R1 h1 => k.ex e σ' H1 Γ' A1 (n'.trans n1) R1 (S'.mono n1) h1
    have n01 := n'.trans n1
    cases b with
    | true =>
      refine ⟨fun σ2 H2 => ∃ Γ2 A2, Nxt X.K H H2 ∧ RelA X.K H2 A2 ∧ Slots X.K H2 σ2 Γ2 ∧ ∃ m', m' < m ∧ Iv m' Γ2 A2, fun σ2 H2 ⟨Γ2, A2, a1, a2, a3, m', hm, a4⟩ => ⟨m', hm, Γ2, A2, a1, a2, a3, a4⟩, ?_⟩
      exact hb.sim _ _ σ' H1 Γ' A1 R1 (S'.mono n1) (h1.1 rfl) ⟨fun σ5 H5 Γ5 A5 n5 R5 S5 h5 => ⟨Γ5, A5, n01.trans n5, R5, S5, h5⟩, (k.mono n01).rt, fun σ5 H5 Γ5 A5 n5 R5 S5 h5 => k.nx σ5 H5 Γ5 A5 (n01.trans n5) R5 S5 h5,
        fun σ5 H5 Γ5 A5 n5 R5 S5 h5 => ⟨Γ5, A5, n01.trans n5, R5, S5, h5⟩, (k.mono n01).ex⟩
    | false => exact k.nx σ' H1 Γ' A1 n01 R1 (S'.mono n1) (h1.2 rfl)
/-! ### raise -/
/-- what the text says of an own exception class: its name, its fields -/
structure ExcT0 (P : Program) (w : World) (K : Fg) (mg : Str → Option Value) (base : Heap) (x : Str) (ns : List Str) : Prop where
  n9 : ns.length ≤ 900
  gm : mg x = some (.ref (He.ga K x))
  oc : OexC K (He.ga K x)
  ex : ∃ (fI : Addr) (fd : FuncData) (ps : List Str), PySem.W.findIn K (.ref (He.ga K x)) "__init__" = some (some (.ref fI)) ∧ PySem.W.typeIn K (.ref fI) = some (.type "function") ∧
    FnOk P w K mg base (L2N.CX P w) 1 fI fd ps (spI (He.ga K x) ns) ∧ Binds K fd ps []
abbrev ExcT (X : Cx) (x : Str) (ns : List Str) : Prop := ExcT0 X.prog X.w X.K X.mg X.base x ns
def aRaise (x : Str) (ns : List Str) (as : AA) : AS := fun D Γ A => as Γ A (fun ds A1 => ds.length = ns.length ∧ ∀ d, A1 d = none → D.ex ⟨x, d⟩ Γ (updA A1 d (.xd (ns.zip ds).reverse))) fun e A' => D.ex e Γ A'
theorem zip_ok {K : Fg} {H : Hp} : ∀ {ns : List Str} {vs : List V} {ds : List D}, Vls K H vs ds → Paired (fun (p : Str × V) (q : Str × D) => p.1 = q.1 ∧ Val K H p.2 q.2) (ns.zip vs) (ns.zip ds)
  | [], _, _, _ => .nil
  | _ :: _, _, _, .nil => .nil
  | n :: ns, _, _, .cons h t => .cons ⟨rfl, h⟩ (zip_ok t)
theorem paired_app {α β : Type} {F : α → β → Prop} : ∀ {a : List α} {b : List β} {c : List α} {d : List β}, Paired F a b → Paired F c d → Paired F (a ++ c) (b ++ d)
  | _, _, _, _, .nil, h => h
  | _, _, _, _, .cons r t, h => .cons r (paired_app t h)
theorem paired_rev {α β : Type} {F : α → β → Prop} : ∀ {a : List α} {b : List β}, Paired F a b → Paired F a.reverse b.reverse
  | _, _, .nil => .nil
  | _, _, .cons r t => by
    rw [List.reverse_cons, List.reverse_cons]
    exact paired_app (paired_rev t) (.cons r .nil)
theorem far {K : Fg} {H Hf : Hp} {A : Ah} {d : Addr} {o : HO} {c : Cell} (R : RelA K H A) (hd : H d = none) (he : Hf d = some o) (keep : ∀ b o, H b = some o → Hf b = some o) (hc : CellOk K H c o) : Nxt K H Hf ∧ RelA K Hf (updA A d c) := by
  have n : Nxt K H Hf := by
    refine ⟨fun a xs hs => ?_, fun a o u hs => keep _ _ hs⟩
    rcases hs with hs | hs
    · refine .inl ?_
      rcases hs with hs | ⟨ob, hs⟩
      · exact .inl (keep _ _ hs)
      · exact .inr ⟨ob, keep _ _ hs⟩
    · exact .inr hs
  refine ⟨n, fun a c' e => ?_⟩
  by_cases had : a = d
  · subst had
    rw [updA_same] at e
    cases e
    exact ⟨o, he, hc.mono n⟩
  · rw [updA_ne had] at e
    obtain ⟨o', h1, h2⟩ := R a c' e
    exact ⟨o', keep _ _ h1, h2.mono n⟩
theorem gs_raise {x : Str} {ns : List Str} (T : ExcT X x ns) (hr : Room 2 X.A) (hc : X.calm = true) (tk : L2N.Takes X W) (ha : PAA X W (e :: es) t at_) (hg : Gl X x := by rfl) (hdb : (x == ("__debug__" : Str)) = false := by decide)
    (he : starEach (e :: es) X.env = (false, eval e X.env) :: starEach es X.env := by rfl) (hpl : (backTo pos (starEach es X.env)).any (·.1) = false := by rfl) :
    PSA X W (.Raise (some (.Call (.Name x p) (e :: es) [] pos)) none pos') (fun _ σ H => tMkO (He.ga X.K x) (spI (He.ga X.K x) ns) [] t σ H fun cls d H' => W cls d σ H') (aRaise x ns at_) := by
  obtain ⟨fI, fd, ps, iC, tI, F, hb⟩ := T.ex
  refine ⟨L2N.ps_raise hc tk (pmk_oexN T.oc iC tI F hr hb (L2N.passes_call tk fun _ _ _ _ z => z.elim) hg T.gm ha.pe hdb he hpl), ?_⟩
  intro D AD σ H Γ A R S hh k
  refine ha.sim σ H Γ A _ _ _ R S hh (fun H1 vs ds A1 n1 R1 v1 h1 => ?_) fun H' e A' n R' h' => k.ex e σ H' Γ A' n R' (S.mono n) h'
  refine mkO_pt (C := He.ga X.K x) (H1 := H1) (Q := fun cls d H' => W cls d σ H') T.n9 (by rw [v1.length]; exact h1.1) fun d Hf hd1 hf keep => ?_
  obtain ⟨nf, Rf⟩ := far R1 hd1 hf keep (.xd (paired_rev (zip_ok v1)))
  exact k.ex ⟨x, d⟩ σ Hf Γ _ (n1.trans nf) Rf (S.mono (n1.trans nf)) (h1.2 d (RelA.none R1 hd1))
/-! ### try: body / except GrantError as n: suite -/
theorem takesF {X : Cx} : L2N.Takes X WF := fun _ _ ⟨_, _, _, _, _, _, _, _, _, _, _, _, _, _, _, _, w⟩ => w.elim
/-- n: the clause's name in slot i; names: the classes that it is known to catch -/
def aTry (names : List Str) (i : Nat) (tb : AS) (su : Addr → Exn → AS) : AS := fun D Γ A => tb { D with ex := fun e Γ' A' => (e.cls ∈ names ∧ ∀ a, A' a = none → su a e ⟨fun Γ2 A2 => D.nx (Γ2.set i none) A2, D.rt, fun Γ2 A2 => D.bk (Γ2.set i none) A2, fun Γ2 A2 => D.ct (Γ2.set i none) A2, fun _ _ _ => False⟩ (Γ'.set i (some (.ref a))) A') } Γ A
/-- a plain exception object -/
def o0 (K : Fg) (e : Exn) : Obj := { cls := exC K e, dict := some e.d, data := .fields #[.none, .none, .none] }
def x0 : Value → Shared → Prop := fun _ _ => True
theorem gs_try {x n : Str} {i : Nat} {names : List Str} {tb : WX → List (Addr × Obj) → (Value → Shared → Prop) → TS} {ts : Addr → Obj → Exn → List (Addr × Obj) → TS} {su : Addr → Exn → AS} (hs : X.stack = X.env :: X.outer) (hf : X.env.frame = some X.env.locals) (hN : X.N.Nodup) (hi : X.N[i]? = some n) (hln : X.env.kindOf n = some .local)
    (hcn : Names X x (.ref (He.ga X.K x))) (hx : ∀ m ∈ names, PySem.W.exmOne X.K (.ref (He.ga X.K m)) (.ref (He.ga X.K x)) = some true) (tk : L2N.Takes X WF)
    (hb : ∀ (W : WX) (pn : List (Addr × Obj)) (xe : Value → Shared → Prop), L2N.Takes (X.tr pn xe) W → PassesOwn (model X.prog X.w) X.A X.env xe → PSsA (X.tr pn xe) W body (tb W pn xe) ab)
    
    (hsu : ∀ (a : Addr) (oe : Obj) (e : Exn) (pn : List (Addr × Obj)), e.cls ∈ names → L2N.Zn (exC X.K e) (some e.d) oe → (∃ vs, oe.data = .fields vs) → PSsA (X.suite a ((a, oe) :: pn)) WF (b₀ :: suite) (ts a oe e pn) (su a e))
    (hts : ∀ (a : Addr) (oe : Obj) (e : Exn) (pn : List (Addr × Obj)), ts a oe e pn = ts a (o0 X.K e) e [] := by intros; rfl) (htb : ∀ (W : WX) (pn : List (Addr × Obj)) (xe : Value → Shared → Prop), tb W pn xe = tb W [] x0 := by intros; rfl) :
    PSA X W (.Try body [.ExceptHandler (some (.Name x np)) (some n) (b₀ :: suite) pos'] [] [] pos)
      (fun D σ H => tb (wAs X.K (.ref (He.ga X.K x)) i (fun a cls d D σ H => ∃ e, cls = exC X.K e ∧ d = some e.d ∧ e.cls ∈ names ∧ ts a (o0 X.K e) e [] D σ H) WF D) [] x0 D σ H) (aTry names i ab su) where
  pe := L2N.ps_try_as hs hf hN hi hln hcn tk (fun W pn xe tk' ps => htb W pn xe ▸ (hb W pn xe tk' ps).pe) fun a oe cls d pn hz hf' => by
    refine ⟨fun pins s σ H D I h => ?_⟩
    obtain ⟨e, rfl, rfl, hm, h⟩ := h
    rw [← hts a oe e pn] at h
    exact (hsu a oe e pn hm hz hf').pe.run pins s σ H D I h
  sim := fun D AD σ H Γ A R S hh k => by
    have hbs : ∀ W : WX, SimS X.K W (tb W [] x0) ab := fun W => htb W [] _ ▸ (hb W [] (fun e s₁ => wpAny (model X.prog X.w) X.A (noteFrame e X.env) (fun _ s₂ => wpAny (model X.prog X.w) X.A (setFlight e none) (fun _ _ => True) X.xe s₂) X.xe s₁)
      (fun u s' ⟨a, B, sI, pins, σ, H, cls, d, eu, I, nb, up, sky, na, os, ag, w⟩ => by
        subst eu
        have hfr : X.A.frames = some (X.env :: X.outer) := by
          rw [← hs]
          exact I.ok.frames
        have sky' : Sky B (X.env :: X.outer) a (L2N.Zn cls d) X.env.locals s'.heap := by rw [← hs]; exact sky
        exact L2N.Sky.land L2N.Zn.steady hfr hf sky' fun _ _ _ => trivial) PassesOwn.looking).sim
    refine hbs _ D { AD with ex := fun e Γ' A' => (e.cls ∈ names ∧ ∀ a, A' a = none → su a e ⟨fun Γ2 A2 => AD.nx (Γ2.set i none) A2, AD.rt, fun Γ2 A2 => AD.bk (Γ2.set i none) A2, fun Γ2 A2 => AD.ct (Γ2.set i none) A2, fun _ _ _ => False⟩ (Γ'.set i (some (.ref a))) A') } σ H Γ A R S hh ⟨k.nx, k.rt, k.bk, k.ct, fun e σ' H' Γ' A' n' R' S' ⟨hm, h'⟩ => ?_⟩
    have hss : ∀ a e, e.cls ∈ names → SimS X.K WF (ts a (o0 X.K e) e []) (su a e) := fun a e hm => (hsu a (o0 X.K e) e [] hm ⟨rfl, rfl, fun vs hv => by cases hv; rfl⟩ ⟨_, rfl⟩).sim
    refine ⟨true, hx _ hm, fun _ a ha => ⟨e, rfl, rfl, hm, ?_⟩, fun z => Bool.noConfusion z⟩
    refine hss a e hm _ _ _ H' _ A' R' (S'.set (.ref a)) (h' a (RelA.none R' ha)) ⟨fun σ2 H2 Γ2 A2 n2 R2 S2 h2 => k.nx _ H2 _ A2 (n'.trans n2) R2 S2.unset h2, (k.mono n').rt, fun σ2 H2 Γ2 A2 n2 R2 S2 h2 => k.bk _ H2 _ A2 (n'.trans n2) R2 S2.unset h2,
      fun σ2 H2 Γ2 A2 n2 R2 S2 h2 => k.ct _ H2 _ A2 (n'.trans n2) R2 S2.unset h2, fun _ _ _ _ _ _ _ _ z => z.elim⟩
end
/-! ### a def's body -/
section
variable {P : Program} {w : World} {K : Fg} {mg : Str → Option Value} {base : Heap}
def startA (N : List Str) (ds : List D) : Gt := ds.map some ++ List.replicate (N.length - ds.length) none
theorem start_ok {H : Hp} {N : List Str} {vs : List V} {ds : List D} (h : Vls K H vs ds) : Slots K H (L2.start N vs) (startA N ds) := by
  refine ⟨by simp [L2.start, startA, h.length], fun i d e => ?_⟩
  unfold startA at e
  by_cases hi : i < ds.length
  · rw [List.getElem?_append_left (by simpa using hi), List.getElem?_map] at e
    cases q : ds[i]? with
    | none => rw [q] at e; cases e
    | some d' =>
      rw [q] at e
      cases e
      obtain ⟨v, hv, r⟩ := h.get q
      refine ⟨v, ?_, r⟩
      unfold L2.start
      rw [List.getElem?_append_left (by simp [h.length]; exact hi), List.getElem?_map, hv]
      rfl
  · rw [List.getElem?_append_right (by simpa using hi), List.getElem?_replicate] at e
    split at e <;> cases e
abbrev endsA (q : D → Ah → Prop) (x : AX) : AEnds := { nx := fun _ A => q .non A, rt := q, bk := fun _ _ => False, ct := fun _ _ => False, ex := fun e _ A => x e A }
/-- THE RULE for a def: its body's term, its body's abstract reading -/
theorem fnA_of {x qual : Str} {params : Arguments} {body : List Stmt} {scope : Scope} {dvs : List V} {kws : List (Str × V)} {f : Addr} {fd : FuncData} {N ps : List Str} {k : Nat} {sp : ASp} {as : AS}
    (F : FunD K x qual params body scope dvs kws f fd) (S : FnScope N ps scope) (len : ∀ ds A q e, sp ds A q e → ds.length = ps.length)
    (hbody : ∀ (cdv : Value) (A : Around) (outer : List Env) (s : Shared) (H : Hp) (E : XK), Room k (A.deeper (envOfC qual scope s.heap.objs.size f cdv)) →
      L2N.Takes (cxOf (L2N.CX P w) P w K mg base N qual scope f cdv A outer s H E) (fun cls d _ H => E cls d H) →
      PassesOwn (model P w) (A.deeper (envOfC qual scope s.heap.objs.size f cdv)) (envOfC qual scope s.heap.objs.size f cdv) (cxOf (L2N.CX P w) P w K mg base N qual scope f cdv A outer s H E).xe →
      ∃ ts, PSsA (cxOf (L2N.CX P w) P w K mg base N qual scope f cdv A outer s H E) (fun cls d _ H => E cls d H) body ts as)
    (pure : ∀ ds A q x, sp ds A q x → as (endsA q x) (startA N ds) A) : FnA P w K mg base (k + 1) f fd ps sp := by
  refine F.ok S (fun vs H Q E h => ?_) (fun cdv A outer s H vs Q E hr h => ?_)
  · obtain ⟨A, ds, q, x, _, hv, hs, _⟩ := h
    rw [hv.length]
    exact len _ _ _ _ hs
  · obtain ⟨Ab, ds, q, x, R, hv, hs, hq, hx⟩ := h
    obtain ⟨ts, T⟩ := hbody cdv A outer s H E hr (L2N.takes_of rfl rfl rfl rfl) (passes_of rfl)
    refine ⟨ts, T.pe, ?_⟩
    refine T.sim _ _ _ H _ Ab R (start_ok hv) (pure ds Ab q x hs) ⟨fun σ' H' Γ' A' n R' _ h' => hq H' .non .non A' n R' .non h', fun v H' d A' n R' v' h' => hq H' v d A' n R' v' h', fun _ _ _ _ _ _ _ h => h.elim, fun _ _ _ _ _ _ _ h => h.elim, fun e σ' H' Γ' A' n R' _ h' => hx H' e A' n R' h'⟩
/-! ### hot defs: called within an except suite, the handled exception may be handed in -/
abbrev HSp := Addr → Exn → ASp
def liftH (K : Fg) (cl : List Str) (sp : HSp) : Addr × Obj → Sp := fun p vs H Q E => ∃ e, e.cls ∈ cl ∧ L2N.Zn (exC K e) (some e.d) p.2 ∧ (∃ vs, p.2.data = .fields vs) ∧ lift K (sp p.1 e) vs H Q E
theorem fnH_of {cl : List Str} {x qual : Str} {params : Arguments} {body : List Stmt} {scope : Scope} {dvs : List V} {kws : List (Str × V)} {f : Addr} {fd : FuncData} {N ps : List Str} {k : Nat} {sp : HSp} {as : Addr → Exn → AS}
    (F : FunD K x qual params body scope dvs kws f fd) (S : FnScope N ps scope) (len : ∀ a e ds A q x, sp a e ds A q x → ds.length = ps.length)
    (hbody : ∀ (cdv : Value) (A : Around) (outer : List Env) (s : Shared) (H : Hp) (E : XK) (p : Addr × Obj) (e : Exn), e.cls ∈ cl → L2H.Hot1 A p → L2N.Zn (exC K e) (some e.d) p.2 → (∃ vs, p.2.data = .fields vs) → L2H.RoomH k (A.deeper (envOfC qual scope s.heap.objs.size f cdv)) →
      L2N.Takes (L2H.cxH (L2N.CX P w) P w K mg base N qual scope f cdv A outer s H E p) (fun cls d _ H => E cls d H) →
      PassesOwn (model P w) (A.deeper (envOfC qual scope s.heap.objs.size f cdv)) (envOfC qual scope s.heap.objs.size f cdv) (L2H.cxH (L2N.CX P w) P w K mg base N qual scope f cdv A outer s H E p).xe →
      ∃ ts, PSsA (L2H.cxH (L2N.CX P w) P w K mg base N qual scope f cdv A outer s H E p) (fun cls d _ H => E cls d H) body ts (as p.1 e))
    (pure : ∀ a e ds A q x, sp a e ds A q x → as a e (endsA q x) (startA N ds) A) : FnE P w K mg base (L2N.CX P w) (k + 1) f fd ps (liftH K cl sp) := by
  refine fnE_of F S (fun p vs H Q E h => ?_) (fun cdv A outer s H vs Q E p hot hr h => ?_)
  · obtain ⟨_, _, _, _, A, ds, q, x, _, hv, hs, _⟩ := h
    rw [hv.length]
    exact len _ _ _ _ _ _ hs
  · obtain ⟨e, hcl, hz, hf, Ab, ds, q, x, R, hv, hs, hq, hx⟩ := h
    obtain ⟨ts, T⟩ := hbody cdv A outer s H E p e hcl hot hz hf hr (L2N.takes_of rfl rfl rfl rfl) (passes_of rfl)
    refine ⟨ts, T.pe, ?_⟩
    refine T.sim _ _ _ H _ Ab R (start_ok hv) (pure p.1 e ds Ab q x hs) ⟨fun σ' H' Γ' A' n R' _ h' => hq H' .non .non A' n R' .non h', fun v H' d A' n R' v' h' => hq H' v d A' n R' v' h', fun _ _ _ _ _ _ _ h => h.elim, fun _ _ _ _ _ _ _ h => h.elim, fun e σ' H' Γ' A' n R' _ h' => hx H' e A' n R' h'⟩
end
/-- what the text says of a hot def -/
structure FnH0 (P : Program) (w : World) (K : Fg) (mg : Str → Option Value) (base : Heap) (cl : List Str) (x : Str) (k : Nat) (sp : HSp) : Prop where
  ex : ∃ (f : Addr) (fd : FuncData) (ps : List Str), FnE P w K mg base (L2N.CX P w) k f fd ps (liftH K cl sp) ∧ mg x = some (.ref f) ∧ PySem.W.keepIn K (.ref f) = true ∧ Binds K fd ps []
abbrev FndH (X : Cx) (cl : List Str) (x : Str) (k : Nat) (sp : HSp) : Prop := FnH0 X.prog X.w X.K X.mg X.base cl x k sp
section
variable {X : Cx} {W : WX} {e : Expr} {es : List Expr} {t : TA} {at_ : AA} {pos p : Pos} {a : Addr} {oe : Obj} {ε : Exn}
theorem hot_suite (hz : L2N.Zn (exC X.K ε) (some ε.d) oe) (hf : ∃ vs, oe.data = .fields vs) {pn : List (Addr × Obj)} : L2H.Hot1 (X.suite a pn).A (a, oe) := by
  obtain ⟨vs, hd⟩ := hf
  exact ⟨rfl, vs, hd, hz.2.2 vs hd⟩
theorem PE.imp {e : Expr} {t t' : TE} (h : PE X e t) (i : ∀ σ H Q, t' σ H Q → t σ H Q) : PE X e t' := ⟨fun pins s σ H Q I q => h.run pins s σ H Q I (i σ H Q q)⟩
theorem gh_call {cl : List Str} {k j : Nat} {x : Str} {sp : HSp} (F : FndH X cl x k sp) (hcl : ε.cls ∈ cl) (hr : L2H.RoomH j X.A) (hj : k ≤ j) (hot : L2H.Hot1 X.A (a, oe)) (hp : (a, oe) ∈ X.pn) (hz : L2N.Zn (exC X.K ε) (some ε.d) oe) (hf : ∃ vs, oe.data = .fields vs) (tk : L2N.Takes X W)
    (ha : PAA X W (e :: es) t at_) (hg : Gl X x := by rfl) (hdb : (x == ("__debug__" : Str)) = false := by decide)
    (he : starEach (e :: es) X.env = (false, eval e X.env) :: starEach es X.env := by rfl) (hpl : (backTo pos (starEach es X.env)).any (·.1) = false := by rfl) :
    PEA X W (.Call (.Name x p) (e :: es) [] pos) (tCallS (lift X.K (sp a ε)) (WE W) t) (aCall (sp a ε) at_) := by
  obtain ⟨f, fd, ps, F, hmg, hk, hb⟩ := F.ex
  exact ⟨pe_callE F (hr.mono hj) hot hp (fun vs H Q E h => ⟨ε, hcl, hz, hf, h⟩) hg hmg hk hb (fun σ => L2N.passAt tk σ) ha.pe hdb he hpl, sim_call ha.sim⟩
/-- isinstance(e, ..) of the handled exception -/
def aIsE (K : Fg) (a : Addr) (ε : Exn) : A1c := fun ds A q => (∃ fs, A ε.d = some (.xd fs)) ∧ match ds with
  | [.ref a', .ref D] => a' = a ∧ ∃ b, PySem.W.kitOne K (exC K ε) (.ref D) = some b ∧ q (.bl b) A
  | [.ref a', .ty T] => a' = a ∧ ∃ b, PySem.W.kitOne K (exC K ε) (.type T) = some b ∧ q (.bl b) A
  | [.ref a', .tup ds] => a' = a ∧ ∃ (Ds : List Addr) (b : Bool), ds = Ds.map D.ref ∧ PySem.W.kitAny K (exC K ε) (Ds.map Value.ref) = some b ∧ q (.bl b) A
  | _ => False
theorem vls_refs {K : Fg} {H : Hp} : ∀ {Ds : List Addr} {vs : List V}, Vls K H vs (Ds.map D.ref) → vs = Ds.map V.ref
  | [], _, .nil => rfl
  | a :: r, _, .cons h t => by
    cases h
    rw [vls_refs t]
    rfl
theorem sim_isE {K : Fg} : SimC K (GV.rIsE K (He.ga K ε.cls) a ε.d) (aIsE K a ε) := by
  intro H A vs ds q Q R hv h k
  obtain ⟨⟨fs, e1⟩, h⟩ := h
  obtain ⟨o, e2, e3⟩ := R _ _ e1
  cases e3
  refine ⟨⟨_, e2⟩, ?_⟩
  split at h
  · obtain ⟨v, w, rfl, h1, h2⟩ := hv.two
    cases h1; cases h2
    obtain ⟨rfl, b, g1, g2⟩ := h
    exact .inl ⟨_, b, rfl, g1, k H _ _ A .rfl R (.bl _) g2⟩
  · obtain ⟨v, w, rfl, h1, h2⟩ := hv.two
    cases h1; cases h2
    obtain ⟨rfl, b, g1, g2⟩ := h
    exact .inr (.inl ⟨_, b, rfl, g1, k H _ _ A .rfl R (.bl _) g2⟩)
  · obtain ⟨v, w, rfl, h1, h2⟩ := hv.two
    cases h1
    obtain ⟨rfl, Ds, b, rfl, g1, g2⟩ := h
    obtain ⟨t, us, rfl, ht, hus⟩ := h2.inv_tup
    have := vls_refs hus
    subst this
    exact .inr (.inr ⟨t, Ds, b, rfl, ht, g1, k H _ _ A .rfl R (.bl _) g2⟩)
  · exact h.elim
theorem ba_isE (T : EC X.K (He.ga X.K ε.cls)) (hz : L2N.Zn (exC X.K ε) (some ε.d) oe) (hf : ∃ vs, oe.data = .fields vs) (hp : (a, oe) ∈ X.pn) : BltA X (.builtin "isinstance") (GV.rIsE X.K (He.ga X.K ε.cls) a ε.d) (aIsE X.K a ε) := ⟨call_isE T hz hf hp, sim_isE⟩
/-- e.n -/
def aXf (a : Addr) (ε : Exn) (n : Str) (o : AE) : AE := fun Γ A q x => o Γ A (fun d A1 => match d with
  | .ref a' => a' = a ∧ ∃ fs, A1 ε.d = some (.xd fs) ∧ ∃ f, fs.lookup n = some f ∧ q f A1
  | _ => False) x
theorem lookup_ok {K : Fg} {H : Hp} {n : Str} : ∀ {ws : List (Str × V)} {fs : List (Str × D)} {f : D}, Paired (fun (p : Str × V) (q : Str × D) => p.1 = q.1 ∧ Val K H p.2 q.2) ws fs → fs.lookup n = some f → ∃ v, ws.lookup n = some v ∧ Val K H v f
  | _, _, _, .nil, e => by cases e
  | (m, v) :: ws, (m', d) :: fs, f, .cons ⟨h1, h2⟩ t, e => by
    dsimp only at h1
    subst h1
    rw [List.lookup_cons] at e ⊢
    cases hm : n == m with
    | true => rw [hm] at e; cases e; exact ⟨v, rfl, h2⟩
    | false => rw [hm] at e; exact lookup_ok t e
theorem gh_fld {o : Expr} {to : TE} {ao : AE} {n : Str} (T : XfC X.K (He.ga X.K ε.cls)) (hno : PySem.W.findIn X.K (.ref (He.ga X.K ε.cls)) n = some none) (hz : L2N.Zn (exC X.K ε) (some ε.d) oe) (hf : ∃ vs, oe.data = .fields vs) (hp : (a, oe) ∈ X.pn)
    (ho : PEA X W o to ao) (hb : attributeBase o n X.env (eval o X.env) = eval o X.env := by rfl) : PEA X W (.Attribute o n pos) (tXf a (exC X.K ε) (some ε.d) (He.ga X.K ε.cls) n to) (aXf a ε n ao) where
  pe := pe_xfP T hno hz hf hp ho.pe hb
  sim := fun σ H Γ A q x Q R S hh k kx => ho.sim σ H Γ A _ x _ R S hh (fun H1 v d A1 n1 R1 v1 h1 => by
    split at h1
    · obtain ⟨rfl, fs, e1, f, hl, h1⟩ := h1
      obtain ⟨o, e2, e3⟩ := R1 _ _ e1
      cases e3 with
      | xd hp' =>
        obtain ⟨w, hw, vw⟩ := lookup_ok hp' hl
        cases v1
        exact ⟨rfl, rfl, ε.d, _, w, rfl, e2, hw, k H1 w f A1 n1 R1 vw h1⟩
    · exact h1.elim) kx
/-- for in range while an exception is handled -/
structure PIHA (X : Cx) (W : WX) (tg iter : Expr) (wi : TI) (ai : AI) : Prop where
  pe : L2H.PIH X tg iter wi
  sim : ∀ (σ : L2.St) (H : Hp) (Γ : Gt) (A : Ah) (q : ItA → Ah → Prop) (x : AX) (Q : It → Hp → Prop), RelA X.K H A → Slots X.K H σ Γ → ai Γ A q x →
    (∀ H' J it A', Nxt X.K H H' → RelA X.K H' A' → LoopOk X.K H' J it → it.still A' → q it A' → Q J H') →
    (∀ H' e A', Nxt X.K H H' → RelA X.K H' A' → x e A' → W (exC X.K e) (some e.d) σ H') → wi σ H Q
theorem gh_rng1 {tg : Expr} {ta : TA} {aa : AA} (h : PAA X W [e] ta aa) (hm : X.mg "range" = none) (hg : Gl X "range" := by rfl) (hs : starEach [e] X.env = [(false, eval e X.env)] := by rfl) :
    PIHA X W tg (.Call (.Name "range" p) [e] [] pos) (iRng1 ta) (aRng1 aa) := ⟨L2H.pi_range1H hg hm h.pe hs, sim_rng1 h.sim⟩
theorem gh_for {tg iter : Expr} {body : List Stmt} {wi : TI} {ai : AI} {g : TG} {ag : AG} {tb : TS} {ab : AS} (hp : PassesOwn (model X.prog X.w) X.A X.env X.xe) (hc : L2H.HotC X) (hi : PIHA X W tg iter wi ai) (hg : PGA X tg g ag) (hb : PSsA X W body tb ab)
    (hs : ∀ x, foldedSetIterable iter X.env x = pure x := by intro _; rfl) : PSA X W (.For tg iter body [] pos) (tFor wi g tb) (aFor ai ag ab) :=
  ⟨L2H.ps_forH hp hc hi.pe hg.pe hb.pe hs, sim_for0 hi.sim hg hb.sim⟩
end
end GA

namespace GA
open PySem PySem.Spec PyProof.Rows L2 GV TL
/-! ### the head's facts -/
inductive Fx where
  | glo (x : Str)
  | free (x : Str)
  | int (x : Str) (i : Int)
  | str (x z : Str)
  | tup (x : Str) (vs : List He.Dv)
  | exc (x : Str)
  | noat (x f : Str)
  | ini (x : Str)
  | exm (x y : Str)
  | kit (x y : Str) (b : Bool)
  | kitT (x : Str) (T : String) (b : Bool)
def oexB (K : Fg) (C : Addr) : Bool := match K.lookup C with
  | some ⟨.type "type", _, .cls cd, sl⟩ => (match cd.mro, sl.toList with
    | .ref C' :: bm, [_, _, _, _, some (.builtin n), _] => C' == C && n == "ValueError.__new__" && !cd.hasDel && cd.hasDict && PySem.HandSPX.refsVE bm
    | _, _ => false)
  | _ => false
def excB (K : Fg) (C : Addr) : Bool := oexB K C && decide (PySem.W.findIn K (.ref C) "__setattr__" = some (some (.builtin "object.__setattr__"))) && decide (PySem.W.subIn K (.ref C) (.type "BaseException") = some true) &&
  decide (PySem.W.typeIn K (.ref C) = some (.type "type")) && PySem.W.keepIn K (.ref C) && xfB K C && (PySem.W.clsIn K C).isSome && decide (PySem.W.findIn K (.ref C) "__class__" = some (some (.builtin "object.__class__"))) &&
  decide (PySem.W.specialIn K (.builtin "object.__class__") "__get__" = some (some (.builtin "getset_descriptor.__get__"))) && decide (PySem.W.takesIn K (.builtin "object.__class__") = some true) && decide (PySem.W.mroIn K C (.type "object") = some true)
def Fx.ok (K : Fg) : Fx → Bool
  | .glo x => (He.Fa.glo x).ok K
  | .free x => (He.Fa.free x).ok K
  | .int x i => (He.Fa.int x i).ok K
  | .str x z => (He.Fa.str x z).ok K
  | .tup x vs => He.tupB K x vs && (He.Fa.glo x).ok K
  | .exc x => excB K (He.ga K x) && (He.Fa.glo x).ok K
  | .noat x f => decide (PySem.W.findIn K (.ref (He.ga K x)) f = some none)
  | .ini x => decide (PySem.W.findIn K (.ref (He.ga K x)) "__init__" = some (some (.ref (He.fAd K (x, some "__init__"))))) && decide (PySem.W.typeIn K (.ref (He.fAd K (x, some "__init__"))) = some (.type "function"))
  | .exm x y => decide (PySem.W.exmOne K (.ref (He.ga K x)) (.ref (He.ga K y)) = some true)
  | .kit x y b => decide (PySem.W.kitOne K (.ref (He.ga K x)) (.ref (He.ga K y)) = some b)
  | .kitT x T b => decide (PySem.W.kitOne K (.ref (He.ga K x)) (.type T) = some b)
theorem oexB_ok {K : Fg} {C : Addr} (h : oexB K C = true) : ∃ nm q N bs bm sn sub ab col dd k0 k1 k2 k3 k5, K.lookup C = some (excClassObj nm q C N bs bm true sn sub ab col dd k0 k1 k2 k3 k5 "ValueError.__new__") ∧ PySem.HandSPX.refsVE bm = true := by
  unfold oexB at h
  split at h
  · rename_i dd cd sl ho
    split at h
    · rename_i C' bm k0 k1 k2 k3 n k5 hm hs
      simp only [Bool.and_eq_true, beq_iff_eq, Bool.not_eq_true'] at h
      obtain ⟨⟨⟨⟨rfl, rfl⟩, hdel⟩, hdct⟩, hr⟩ := h
      obtain ⟨nm, bs, mro, ns, qn, hd, sn, sub, ab, col, del⟩ := cd
      dsimp only at hm hdel hdct
      subst hm hdel hdct
      have hsl : sl = #[k0, k1, k2, k3, some (.builtin "ValueError.__new__"), k5] := by
        obtain ⟨l⟩ := sl
        simp only at hs
        rw [hs]
      subst hsl
      exact ⟨nm, qn, ns, bs, bm, sn, sub, ab, col, dd, k0, k1, k2, k3, k5, ho, hr⟩
    · cases h
  · cases h
structure ExcK (K : Fg) (C : Addr) : Prop where
  oc : OexC K C
  ec : EC K C
theorem excB_ok {K : Fg} {C : Addr} (h : excB K C = true) : ExcK K C := by
  unfold excB at h
  simp only [Bool.and_eq_true, decide_eq_true_eq] at h
  obtain ⟨⟨⟨⟨⟨⟨⟨⟨⟨⟨h1, h2⟩, h3⟩, h4⟩, h5⟩, h6⟩, h7⟩, h8⟩, h9⟩, h10⟩, h11⟩ := h
  exact ⟨⟨oexB_ok h1, h2, h3, h4, h5⟩, ⟨h7, xfB_ok h6, h8, h9, h10, h11⟩⟩
abbrev AlX : Type := Bool × List He.FnW
def obsX (fx : List Fx) (fn : List He.DefD) (K : Fg) : AlX := ((fx.all fun f => f.ok K) && fn.all fun d => d.ok K, fn.map fun d => He.fnW K d.at_)
def SaysX (fx : List Fx) (fn : List He.DefD) (K : Fg) : Prop := obsX fx fn K = (true, fn.map He.DefD.val)
def obsXG (n : Nat) (fx : List Fx) (fn : List He.DefD) (g : Addr → Option Obj) : AlX := obsX fx fn (He.frG g (He.asD g n))
def hookX (n : Nat) (fx : List Fx) (fn : List He.DefD) : PySem.W.Hook where
  α := AlX
  obs := fun s => obsXG n fx fn s.heap.get?
  val := fun _ => (true, fn.map He.DefD.val)
  says := fun _ h => ∃ K : Fg, K.In h ∧ SaysX fx fn K
  of := fun _ _ e => ⟨_, He.frG_in, e⟩
  keeps := fun _ _ _ ⟨K, hK, c⟩ k => ⟨K, PySem.W.Frag.In.keeps hK k, c⟩
theorem obsXG_eq {n : Nat} {fx : List Fx} {fn : List He.DefD} {g : Addr → Option Obj} {s : Shared} (h : ∀ a, g a = s.heap.get? a) : obsXG n fx fn g = (hookX n fx fn).obs s := by
  have e : g = s.heap.get? := funext h
  rw [e] <;> rfl
section
variable {fx : List Fx} {fn : List He.DefD} {K : Fg}
theorem SaysX.fact (c : SaysX fx fn K) (i : Nat) {f : Fx} (h : fx[i]? = some f := by rfl) : f.ok K = true := by
  have c0 : ((fx.all fun f => f.ok K) && fn.all fun d => d.ok K) = true := congrArg (fun z : AlX => z.1) c
  exact List.all_eq_true.mp (Bool.and_eq_true_iff.mp c0).1 f (List.mem_of_getElem? h)
theorem SaysX.def_ (c : SaysX fx fn K) (i : Nat) {d : He.DefD} (h : fn[i]? = some d := by rfl) : ∃ fd, FunD K d.name d.qual d.params d.body d.scope (d.dvs K) (d.kws K) (He.fAd K d.at_) fd := by
  have c0 : ((fx.all fun f => f.ok K) && fn.all fun d => d.ok K) = true := congrArg (fun z : AlX => z.1) c
  have e : fn.map (fun d => He.fnW K d.at_) = fn.map He.DefD.val := congrArg (fun z : AlX => z.2) c
  have e2 : (fn.map fun d => He.fnW K d.at_)[i]? = (fn.map He.DefD.val)[i]? := by rw [e]
  rw [List.getElem?_map, List.getElem?_map, h] at e2
  exact He.DefD.funD (Option.some.inj e2) (List.all_eq_true.mp (Bool.and_eq_true_iff.mp c0).2 d (List.mem_of_getElem? h))
end
/-! ### what is found in the facts -/
section
variable {K : Fg} {h : Heap} {mg : Str → Option Value}
theorem glo_mg (X : K.In h) (G : h.Ns mainGlobals mg) {x : Str} (c : (Fx.glo x).ok K = true) : mg x = some (.ref (He.ga K x)) := He.glo_ok X G c
theorem free_mg (X : K.In h) (G : h.Ns mainGlobals mg) {x : Str} (c : (Fx.free x).ok K = true) : mg x = none := He.free_ok X G c
theorem int_mg (X : K.In h) (G : h.Ns mainGlobals mg) {x : Str} {i : Int} (c : (Fx.int x i).ok K = true) : ∃ t, mg x = some (.int i t) := He.int_ok X G c
theorem str_mg (X : K.In h) (G : h.Ns mainGlobals mg) {x z : Str} (c : (Fx.str x z).ok K = true) : ∃ t, mg x = some (.str z t) := He.str_ok X G c
theorem tup_mg (X : K.In h) (G : h.Ns mainGlobals mg) {x : Str} {vs : List He.Dv} (c : (Fx.tup x vs).ok K = true) : mg x = some (.ref (He.ga K x)) ∧ ∀ H, SqT K H (He.ga K x) (vs.map (He.Dv.v K)) := by
  have c' : (He.tupB K x vs && (He.Fa.glo x).ok K) = true := c
  obtain ⟨h1, h2⟩ := Bool.and_eq_true_iff.mp c'
  exact ⟨He.glo_ok X G h2, fun H => He.tupB_ok h1 H⟩
theorem exc_mg (X : K.In h) (G : h.Ns mainGlobals mg) {x : Str} (c : (Fx.exc x).ok K = true) : mg x = some (.ref (He.ga K x)) ∧ ExcK K (He.ga K x) := by
  have c' : (excB K (He.ga K x) && (He.Fa.glo x).ok K) = true := c
  obtain ⟨h1, h2⟩ := Bool.and_eq_true_iff.mp c'
  exact ⟨He.glo_ok X G h2, excB_ok h1⟩
theorem noat_ok {x f : Str} (c : (Fx.noat x f).ok K = true) : PySem.W.findIn K (.ref (He.ga K x)) f = some none := of_decide_eq_true c
theorem ini_ok {x : Str} (c : (Fx.ini x).ok K = true) : PySem.W.findIn K (.ref (He.ga K x)) "__init__" = some (some (.ref (He.fAd K (x, some "__init__")))) ∧ PySem.W.typeIn K (.ref (He.fAd K (x, some "__init__"))) = some (.type "function") := by
  have c' : (decide (PySem.W.findIn K (.ref (He.ga K x)) "__init__" = some (some (.ref (He.fAd K (x, some "__init__"))))) && decide (PySem.W.typeIn K (.ref (He.fAd K (x, some "__init__"))) = some (.type "function"))) = true := c
  obtain ⟨h1, h2⟩ := Bool.and_eq_true_iff.mp c'
  exact ⟨of_decide_eq_true h1, of_decide_eq_true h2⟩
theorem exm_ok {x y : Str} (c : (Fx.exm x y).ok K = true) : PySem.W.exmOne K (.ref (He.ga K x)) (.ref (He.ga K y)) = some true := of_decide_eq_true c
theorem kit_ok {x y : Str} {b : Bool} (c : (Fx.kit x y b).ok K = true) : PySem.W.kitOne K (.ref (He.ga K x)) (.ref (He.ga K y)) = some b := of_decide_eq_true c
theorem kitT_ok {x : Str} {T : String} {b : Bool} (c : (Fx.kitT x T b).ok K = true) : PySem.W.kitOne K (.ref (He.ga K x)) (.type T) = some b := of_decide_eq_true c
end
end GA

namespace GA
open PySem PySem.Spec PyProof.Rows L2 GV TL
/-! ### the module's constants -/
section
variable {X : Cx} {W : WX} {pos : Pos}
theorem ga_globS {x z : Str} (hm : ∃ t, X.mg x = some (.str z t)) (hg : Gl X x := by rfl) (hd : (x == ("__debug__" : Str)) = false := by decide) : PEA X W (.Name x pos) (tC (.str z)) (aC (.str (tl z))) := by
  obtain ⟨t, hm⟩ := hm
  exact ga_glob hm ⟨t, rfl⟩ (fun _ => .str z) hg hd
theorem ga_globI {x : Str} {i : Int} (hm : ∃ t, X.mg x = some (.int i t)) (hg : Gl X x := by rfl) (hd : (x == ("__debug__" : Str)) = false := by decide) : PEA X W (.Name x pos) (tC (.int i)) (aC (.int i)) := by
  obtain ⟨t, hm⟩ := hm
  exact ga_glob hm ⟨t, rfl⟩ (fun _ => .int i) hg hd
theorem ga_globC {x : Str} {a : Addr} (hm : X.mg x = some (.ref a)) (hg : Gl X x := by rfl) (hd : (x == ("__debug__" : Str)) = false := by decide) : PEA X W (.Name x pos) (tC (.ref a)) (aC (.ref a)) :=
  ga_glob hm rfl (fun _ => .ref a) hg hd
structure GlobT (K : Fg) (mg : Str → Option Value) (x : Str) (vs : List V) (ds : List D) : Prop where
  mg : mg x = some (.ref (He.ga K x))
  at_ : ∀ H, SqT K H (He.ga K x) vs
  rel : ∀ H, Vls K H vs ds
theorem ga_globT {x : Str} {vs : List V} {ds : List D} (h : GlobT X.K X.mg x vs ds) (hg : Gl X x := by rfl) (hd : (x == ("__debug__" : Str)) = false := by decide) : PEA X W (.Name x pos) (tC (.ref (He.ga X.K x))) (aC (.tup ds)) :=
  ga_glob h.mg rfl (fun H => .tup (h.at_ H) (h.rel H)) hg hd
end
/-! ### the end -/
abbrev CXA (P : Program) : CXT := fun o H s E u s' => ∃ w : World, L2N.CX P w o H s E u s'
theorem fnOk_any {P : Program} {w : World} {K : Fg} {mg : Str → Option Value} {base : Heap} {k : Nat} {f : Addr} {fd : FuncData} {ps : List Str} {sp : Sp} (F : FnOk P w K mg base (L2N.CX P w) k f fd ps sp) : FnOk P w K mg base (CXA P) k f fd ps sp :=
  ⟨F.len, fun A outer s H args us vs Q E a b c d e => codeAny_mono (F.run A outer s H args us vs Q E a b c d e) fun r s' h => by
    cases r with
    | ok y => cases y <;> exact h
    | error e => exact ⟨w, h⟩⟩
theorem cxa_no {P : Program} (H : Hp) (s : Shared) (e : Value) (s' : Shared) (h : CXA P [] H s (fun _ _ _ => False) e s') : False := by
  obtain ⟨w, a, B, H', cls, d, _, _, _, _, _, _, _, h⟩ := h
  exact h
theorem lift_law {K : Fg} {H : Hp} {a : Addr} {ns : List Int} {sp : ASp} {Q : VK} {E : XK} (o : Only H) (h : SqL K H a (ns.map V.int)) (hs : ∀ A, sp [.lof (ns.map D.int)] A (fun d _ => d = .bl true) fun _ _ => False) (hq : ∀ H', Q (.bl true) H') : lift K sp [.ref a] H Q E := by
  have hv : Vls K H (ns.map V.int) (ns.map D.int) := by
    clear h hs
    induction ns with
    | nil => exact .nil
    | cons i r ih => exact .cons (.int i) ih
  refine ⟨fun _ => none, [.lof (ns.map D.int)], _, _, fun a c e => (by cases e), .cons (.lof (SqF.of o h) hv) .nil, hs _, fun H' v d A' _ _ hv hd => ?_, fun _ _ _ _ _ z => z.elim⟩
  subst hd
  cases hv
  exact hq H'
end GA

namespace GA
open PySem PySem.Spec PyProof.Rows L2 GV TL
/-! ### list comprehensions -/
def wipeG (Γ : Gt) : List Nat → Gt
  | [] => Γ
  | v :: vs => (wipeG Γ vs).set v none
theorem Slots.wipe {K : Fg} {H : Hp} {σ : L2.St} {Γ : Gt} (s : Slots K H σ Γ) : ∀ vs : List Nat, Slots K H (L2.wipe σ vs) (wipeG Γ vs)
  | [] => s
  | _ :: vs => (Slots.wipe s vs).unset
theorem wipe_set {σ : L2.St} {i : Nat} {x : Option V} : ∀ {vs : List Nat}, (i ∈ vs → L2.wipe (σ.set i x) vs = L2.wipe σ vs) ∧ (i ∉ vs → L2.wipe (σ.set i x) vs = (L2.wipe σ vs).set i x)
  | [] => ⟨nofun, fun _ => rfl⟩
  | v :: vs => by
    obtain ⟨h1, h2⟩ := wipe_set (σ := σ) (i := i) (x := x) (vs := vs)
    constructor
    · intro h
      show (L2.wipe (σ.set i x) vs).set v none = (L2.wipe σ vs).set v none
      by_cases hi : i ∈ vs
      · rw [h1 hi]
      · rw [h2 hi]
        rcases List.mem_cons.mp h with rfl | h
        · rw [List.set_set]
        · exact (hi h).elim
    · intro h
      show (L2.wipe (σ.set i x) vs).set v none = ((L2.wipe σ vs).set v none).set i x
      rw [h2 fun z => h (List.mem_cons_of_mem _ z)]
      exact List.set_comm _ _ fun e => h (e ▸ List.mem_cons_self)
/-- a target that writes to the block's own slots alone -/
def TgW (vs : List Nat) (g : TG) : Prop := ∀ v σ H Q, g v σ H Q → g v σ H fun σ2 H2 => L2.wipe σ2 vs = L2.wipe σ vs ∧ Q σ2 H2
def TgWs (vs : List Nat) (g : TGs) : Prop := ∀ v σ H Q, g v σ H Q → g v σ H fun σ2 H2 => L2.wipe σ2 vs = L2.wipe σ vs ∧ Q σ2 H2
theorem tw_name {vs : List Nat} {i : Nat} (h : i ∈ vs) : TgW vs (gName i) := fun _ _ _ _ q => ⟨wipe_set.1 h, q⟩
theorem tw_nil {vs : List Nat} : TgWs vs gNil := fun _ _ _ _ ⟨e, q⟩ => ⟨e, rfl, q⟩
theorem tw_cons {vs : List Nat} {t : TG} {u : TGs} (mono : ∀ v σ H (Q Q' : L2.St → Hp → Prop), t v σ H Q → (∀ σ' H', Q σ' H' → Q' σ' H') → t v σ H Q') (h : TgW vs t) (hu : TgWs vs u) : TgWs vs (gCons t u) := fun _ σ H Q ⟨v, r, e, q⟩ => by
  refine ⟨v, r, e, ?_⟩
  refine mono _ _ _ _ _ (h v σ H _ q) fun σ' H' ⟨e1, q1⟩ => ?_
  have := hu r σ' H' Q q1
  rw [e1] at this
  exact this
theorem tw_consN {vs : List Nat} {i : Nat} {u : TGs} (h : i ∈ vs) (hu : TgWs vs u) : TgWs vs (gCons (gName i) u) := tw_cons (fun _ _ _ _ _ q k => k _ _ q) (tw_name h) hu
theorem tw_tup {vs : List Nat} {K : Fg} {n : Nat} {t : TGs} (h : TgWs vs t) : TgW vs (gTup K n t) := fun _ σ H Q ⟨a, xs, e, hq, hl, q⟩ => ⟨a, xs, e, hq, hl, h xs σ H Q q⟩
section
variable {X : Cx} {W : WX} {elt tg iter : Expr} {ifs : List Expr} {scope : Scope} {own : List (Str × Nat)} {pos p : Pos} {wi : TI} {ai : AI} {ag : AG} {at_ : AT} {ae : AE}
structure PTsA (X : Cx) (W : WX) (ifs : List Expr) (tt : TT) (at_ : AT) : Prop where
  pe : PTs X ifs tt
  sim : SimT X.K W tt at_
def aYes : AT := fun _ A q _ => q true A
theorem gts_nil : PTsA X W [] tYes aYes := ⟨pts_nil, fun σ H Γ A q x Q R S h k _ => k H true A .rfl R h⟩
theorem gts_one {c : Expr} {t : TT} (h : PTA X W c t at_) : PTsA X W [c] t at_ := ⟨pts_one h.pe, h.sim⟩
/-- how a comprehension's walk is read -/
@[irreducible] def lcR (it : ItA) (A1 : Ah) (g : AG) (c : AT) (e : AE) (vs : List Nat) (Γ : Gt) (q : D → Ah → Prop) : Prop := ∀ p, A1 p = none → ∃ Inv : Nat → List D → Ah → Prop, Inv 0 [] (updA A1 p (.lst [])) ∧
  (∀ i acc A', i ≤ it.n → Inv i acc A' → it.still A' ∧ A' p = some (.lst acc)) ∧
  (∀ i acc A', i < it.n → Inv i acc A' → g (it.item i) (wipeG Γ vs) A' fun Γ2 A2 => c Γ2 A2 (fun b A3 => bsel b (e Γ2 A3 (fun y A4 => ∃ ac, A4 p = some (.lst ac) ∧ ac.length < big ∧ Inv (i + 1) (ac ++ [y]) (updA A4 p (.lst (ac ++ [y])))) fun _ _ => False) (∃ ac, A3 p = some (.lst ac) ∧ Inv (i + 1) ac A3)) fun _ _ => False) ∧
  ∀ acc A', Inv it.n acc A' → q (.ref p) A'
def aLc (wi : AI) (g : AG) (c : AT) (e : AE) (vs : List Nat) : AE := fun Γ A q x => wi Γ A (fun it A1 => lcR it A1 g c e vs Γ q) x
theorem sim_lc {K : Fg} {g : TG} {tt : TT} {te : TE} {vs : List Nat} (hi : ∀ (σ : L2.St) (H : Hp) (Γ : Gt) (A : Ah) (q : ItA → Ah → Prop) (x : AX) (Q : It → Hp → Prop), RelA K H A → Slots K H σ Γ → ai Γ A q x →
    (∀ H' J it A', Nxt K H H' → RelA K H' A' → LoopOk K H' J it → it.still A' → q it A' → Q J H') → (∀ H' e A', Nxt K H H' → RelA K H' A' → x e A' → W (exC K e) (some e.d) σ H') → wi σ H Q)
    (hg : ∀ (v : V) (d : D) (σ : L2.St) (H : Hp) (Γ : Gt) (A : Ah) (q : Gt → Ah → Prop) (Q : L2.St → Hp → Prop), RelA K H A → Slots K H σ Γ → Val K H v d → ag d Γ A q → (∀ σ' H' Γ' A', Nxt K H H' → RelA K H' A' → Slots K H' σ' Γ' → q Γ' A' → Q σ' H') → g v σ H Q)
    (tw : TgW vs g) (ht : SimT K WF tt at_) (he : SimE K WF te ae) : SimE K W (tLc wi g tt te vs) (aLc ai ag at_ ae vs) := fun σ H Γ A q x Q R S hh k kx =>
  hi σ H Γ A _ x _ R S hh (fun H1 J it A1 n1 R1 L st h1 => by
    intro D hD
    unfold lcR at h1
    obtain ⟨Iv, h0, hs, hturn, hd⟩ := h1 D (R1.none hD)
    have n2 : Nxt K H1 (upd H1 D (.lst [])) := .new hD
    refine ⟨fun i m H' => m = it.n - i ∧ i ≤ it.n ∧ ∃ acc A', Nxt K H1 H' ∧ RelA K H' A' ∧ Iv i acc A', ⟨it.n, by omega, Nat.zero_le _, [], _, n2, R1.new hD (.lst .nil), h0⟩, ?_⟩
    rintro i m H' ⟨rfl, hle, acc, A', n', R', hI⟩
    obtain ⟨st', hacc⟩ := hs i acc A' hle hI
    by_cases hlt : i < it.n
    · refine .inr ⟨L.go i H' A' n' R' st' hlt, fun H2 => ∃ acc2 A2, Nxt K H1 H2 ∧ RelA K H2 A2 ∧ Iv (i + 1) acc2 A2, fun H2 ⟨acc2, A2, q⟩ => ⟨it.n - (i + 1), by omega, rfl, hlt, acc2, A2, q⟩, fun y H2 hy => ?_⟩
      obtain ⟨n3, R3, V3⟩ := L.yld i H' A' y H2 n' R' st' hlt hy
      have hw : L2.wipe (L2.wipe σ vs) vs = L2.wipe σ vs := by
        apply List.ext_getElem?
        intro j
        by_cases hj : j ∈ vs
        · have a1 : ∀ τ : L2.St, (L2.wipe τ vs)[j]? = if j < τ.length then some none else none := by
            intro τ
            cases e : (L2.wipe τ vs)[j]? with
            | none => rw [if_neg]; rw [List.getElem?_eq_none_iff, L2.wipe_length] at e; omega
            | some o =>
              cases o with
              | none =>
                rw [if_pos]
                have := (List.getElem?_eq_some_iff.mp e).1
                rw [L2.wipe_length] at this
                exact this
              | some v => exact ((L2.wipe_some e).2 hj).elim
          rw [a1, a1, L2.wipe_length]
        · rw [L2.wipe_out hj]
      have hg1 := hg y (it.item i) (L2.wipe σ vs) H2 (wipeG Γ vs) A' _ (fun σ2 H3 => tt σ2 H3 fun b H4 => if b = true then te σ2 H4 fun y H5 => ∃ acc, H5 D = some (.lst acc) ∧ acc.length < sizeLine ∧ (fun H2 => ∃ acc2 A2, Nxt K H1 H2 ∧ RelA K H2 A2 ∧ Iv (i + 1) acc2 A2) (upd H5 D (.lst (acc ++ [y]))) else (fun H2 => ∃ acc2 A2, Nxt K H1 H2 ∧ RelA K H2 A2 ∧ Iv (i + 1) acc2 A2) H4) R3 ((S.wipe vs).mono ((n1.trans n').trans n3)) V3 (hturn i acc A' hlt hI) (fun σ2 H3 Γ2 A2 n4 R4 S4 h4 => by
        refine ht σ2 H3 Γ2 A2 _ _ _ R4 S4 h4 (fun H4 b A3 n5 R5 h5 => ?_) (fun _ _ _ _ _ z => z.elim)
        have n05 := ((n'.trans n3).trans n4).trans n5
        cases b with
        | false =>
          obtain ⟨ac, e, h5⟩ := h5.2 rfl
          exact ⟨ac, A3, n05, R5, h5⟩
        | true =>
          refine he σ2 H4 Γ2 A3 _ _ _ R5 (S4.mono n5) (h5.1 rfl) (fun H5 z f A4 n6 R6 V6 h6 => ?_) (fun _ _ _ _ _ z => z.elim)
          obtain ⟨ac, e, hb, h6⟩ := h6
          obtain ⟨ws, e2, r2⟩ := R6.lst e
          have n7 : Nxt K H5 (upd H5 D (.lst (ws ++ [z]))) := .set e2 noTup_lst
          refine ⟨ws, e2, by rw [r2.length]; exact hb, ac ++ [f], _, (n05.trans n6).trans n7, R6.set e2 noTup_lst (.lst (r2.append (.cons V6 .nil))), h6⟩)
      have := tw y (L2.wipe σ vs) H2 _ hg1
      rw [hw] at this
      exact this
    · have he : i = it.n := by omega
      subst he
      exact .inl ⟨L.stop _ H' A' n' R' st' (Nat.le_refl _), k H' _ _ A' (n1.trans n') R' (.ref D) (hd acc A' hI)⟩) kx
theorem ga_lc {g : Shared → Hp → Addr → List (Str × Addr) → List Addr → TG} {tt : Shared → Hp → Addr → List (Str × Addr) → List Addr → TT} {te : Shared → Hp → Addr → List (Str × Addr) → List Addr → TE} (hc : X.calm = true) (hN : X.N.Nodup) (hi : PIA X W tg iter wi ai) (ok : BlkOk X.N X.env.scope scope own)
    (hg : ∀ (s : Shared) (H : Hp) (C : Addr) (cl : List (Str × Addr)) (fp : List Addr), PGA (X.blk s H scope (compEnvC scope cl C X.env) fp) tg (g s H C cl fp) ag)
    (ht : ∀ (s : Shared) (H : Hp) (C : Addr) (cl : List (Str × Addr)) (fp : List Addr), PTsA (X.blk s H scope (compEnvC scope cl C X.env) fp) WF ifs (tt s H C cl fp) at_)
    (he : ∀ (s : Shared) (H : Hp) (C : Addr) (cl : List (Str × Addr)) (fp : List Addr), PEA (X.blk s H scope (compEnvC scope cl C X.env) fp) WF elt (te s H C cl fp) ae)
    (tw : TgW (own.map (·.2)) (g X.s_0 X.H_0 0 [] []))
    (eg : ∀ (s : Shared) (H : Hp) (C : Addr) (cl : List (Str × Addr)) (fp : List Addr), g s H C cl fp = g X.s_0 X.H_0 0 [] [] := by intros; rfl)
    (et : ∀ (s : Shared) (H : Hp) (C : Addr) (cl : List (Str × Addr)) (fp : List Addr), tt s H C cl fp = tt X.s_0 X.H_0 0 [] [] := by intros; rfl)
    (ee : ∀ (s : Shared) (H : Hp) (C : Addr) (cl : List (Str × Addr)) (fp : List Addr), te s H C cl fp = te X.s_0 X.H_0 0 [] [] := by intros; rfl) (hs : ∀ x, foldedSetIterable iter X.env x = pure x := by intro _; rfl) :
    PEA X W (.ListComp elt [⟨tg, iter, ifs, 0⟩] scope pos) (tLc wi (g X.s_0 X.H_0 0 [] []) (tt X.s_0 X.H_0 0 [] []) (te X.s_0 X.H_0 0 [] []) (own.map (·.2))) (aLc ai ag at_ ae (own.map (·.2))) where
  pe := pe_lc hc hN hi.pe ok (fun s H C cl fp => eg s H C cl fp ▸ (hg s H C cl fp).pe) (fun s H C cl fp => et s H C cl fp ▸ (ht s H C cl fp).pe) (fun s H C cl fp => ee s H C cl fp ▸ (he s H C cl fp).pe) hs
  sim := sim_lc hi.sim (hg X.s_0 X.H_0 0 [] []).sim tw (ht X.s_0 X.H_0 0 [] []).sim (he X.s_0 X.H_0 0 [] []).sim
theorem gs_setLc {i : Nat} {y : Str} {py spos : Pos} {g : Shared → Hp → Addr → List (Str × Addr) → List Addr → TG} {tt : Shared → Hp → Addr → List (Str × Addr) → List Addr → TT} {te : Shared → Hp → Addr → List (Str × Addr) → List Addr → TE} (hc : X.calm = true) (hN : X.N.Nodup) (hi : PIA X W tg iter wi ai) (ok : BlkOk X.N X.env.scope scope own)
    (hg : ∀ (s : Shared) (H : Hp) (C : Addr) (cl : List (Str × Addr)) (fp : List Addr), PGA (X.blk s H scope (compEnvC scope cl C X.env) fp) tg (g s H C cl fp) ag)
    (ht : ∀ (s : Shared) (H : Hp) (C : Addr) (cl : List (Str × Addr)) (fp : List Addr), PTsA (X.blk s H scope (compEnvC scope cl C X.env) fp) WF ifs (tt s H C cl fp) at_)
    (he : ∀ (s : Shared) (H : Hp) (C : Addr) (cl : List (Str × Addr)) (fp : List Addr), PEA (X.blk s H scope (compEnvC scope cl C X.env) fp) WF elt (te s H C cl fp) ae)
    (tw : TgW (own.map (·.2)) (g X.s_0 X.H_0 0 [] [])) (hy : X.N[i]? = some y := by rfl) (hyl : X.env.scope.names.lookup y = some .local := by rfl)
    (eg : ∀ (s : Shared) (H : Hp) (C : Addr) (cl : List (Str × Addr)) (fp : List Addr), g s H C cl fp = g X.s_0 X.H_0 0 [] [] := by intros; rfl)
    (et : ∀ (s : Shared) (H : Hp) (C : Addr) (cl : List (Str × Addr)) (fp : List Addr), tt s H C cl fp = tt X.s_0 X.H_0 0 [] [] := by intros; rfl)
    (ee : ∀ (s : Shared) (H : Hp) (C : Addr) (cl : List (Str × Addr)) (fp : List Addr), te s H C cl fp = te X.s_0 X.H_0 0 [] [] := by intros; rfl) (hs : ∀ x, foldedSetIterable iter X.env x = pure x := by intro _; rfl)
    (hsw : swapsWith (.ListComp elt [⟨tg, iter, ifs, 0⟩] scope pos) (some (.Name y py)) spos.line X.env = pure true := by rfl) :
    PSA X W (.Assign [.Name y py] (.ListComp elt [⟨tg, iter, ifs, 0⟩] scope pos) spos) (tAsg (tLc wi (g X.s_0 X.H_0 0 [] []) (tt X.s_0 X.H_0 0 [] []) (te X.s_0 X.H_0 0 [] []) (own.map (·.2))) (gName i)) (aAsg (aLc ai ag at_ ae (own.map (·.2))) (agName i)) where
  pe := ps_setLc hc hN hy hyl hsw hi.pe ok (fun s H C cl fp => eg s H C cl fp ▸ (hg s H C cl fp).pe) (fun s H C cl fp => et s H C cl fp ▸ (ht s H C cl fp).pe) (fun s H C cl fp => ee s H C cl fp ▸ (he s H C cl fp).pe) hs
  sim := sim_asg (sim_lc hi.sim (hg X.s_0 X.H_0 0 [] []).sim tw (ht X.s_0 X.H_0 0 [] []).sim (he X.s_0 X.H_0 0 [] []).sim) (gg_name (pos := py) hN hy (.inl hyl) (.inr hyl))
end
end GA

namespace GA
open PySem PySem.Spec PyProof.Rows L2 GV TL
section
variable {X : Cx} {W : WX} {a b c e o : Expr} {es : List Expr} {ta tb tc te to : TE} {aa ab ac ae ao : AE} {t : TA} {at_ : AA} {pos apos cpos p p2 tpos : Pos} {elts : List Expr} {kk : Nat} {tg : Expr}
/-! ### enumerate of a list -/
theorem loop_enum {K : Fg} {a : Addr} {ds : List D} {H0 : Hp} : LoopOk K H0 (Ite K a) ⟨some (a, ds), ds.length, fun i => .tup [.int (i : Nat), ds.getD i .non]⟩ where
  go := fun i H A n R st hi => by
    have st : A a = some (.lst ds) := st
    have hi : i < ds.length := hi
    obtain ⟨ws, e1, r1⟩ := R.lst st
    obtain ⟨v, e, _⟩ := r1.get (i := i) (List.getElem?_eq_getElem hi)
    exact ⟨ws, v, SqL.of e1, e⟩
  yld := fun i H A x H' n R st hi hy => by
    have st : A a = some (.lst ds) := st
    have hi : i < ds.length := hi
    obtain ⟨ws, e1, r1⟩ := R.lst st
    obtain ⟨v, e, rv⟩ := r1.get (i := i) (List.getElem?_eq_getElem hi)
    obtain ⟨T, y, rfl, hT, rfl, hx⟩ := hy
    have := hx ws (SqL.of e1)
    rw [e] at this
    cases this
    have n2 : Nxt K H (upd H T (.tup [.int (i : Nat), v])) := .new hT
    refine ⟨n2, R.ext hT, ?_⟩
    show Val K _ _ (D.tup [.int (i : Nat), ds.getD i .non])
    rw [getD_at hi]
    exact .tup (.inl (.inl (upd_same ..))) (.cons (.int _) (.cons (rv.mono n2) .nil))
  stop := fun i H A n R st hi => by
    have st : A a = some (.lst ds) := st
    obtain ⟨ws, e1, r1⟩ := R.lst st
    exact ⟨ws, SqL.of e1, by rw [r1.length]; exact hi⟩
def aEnum (as : AA) : AI := fun Γ A q x => as Γ A (fun ds A1 => match ds with
  | [.ref a] => onL A1 a fun ds => q ⟨some (a, ds), ds.length, fun i => .tup [.int (i : Nat), ds.getD i .non]⟩ A1
  | _ => False) x
theorem gi_enum (h : PAA X W [e] t at_) (hm : X.mg "enumerate" = none) (hg : Gl X "enumerate" := by rfl) (hs : starEach [e] X.env = [(false, eval e X.env)] := by rfl) :
    PIA X W (.Tuple elts kk tpos) (.Call (.Name "enumerate" p) [e] [] pos) (iEnum X.K t) (aEnum at_) where
  pe := pi_enum hg hm h.pe hs
  sim := fun σ H Γ A q x Q R S hh k kx => h.sim σ H Γ A _ x _ R S hh (fun H1 vs ds A1 n1 R1 v1 h1 => by
    split at h1
    · obtain ⟨v, rfl, hv⟩ := v1.one
      cases hv
      obtain ⟨xs, ha, h1⟩ := onL_of h1
      obtain ⟨ws, e1, r1⟩ := R1.lst ha
      exact ⟨_, ws, rfl, SqL.of e1, k H1 _ _ A1 n1 R1 loop_enum ha h1⟩
    · exact h1.elim) kx
/-! ### lstrip of signs -/
theorem drop_while (p : Nat → Bool) : ∀ l : List Nat, l.drop (l.takeWhile p).length = l.dropWhile p
  | [] => rfl
  | c :: l => by
    cases h : p c with
    | true => simp only [List.takeWhile_cons, List.dropWhile_cons, h, if_true, List.length_cons, List.drop_succ_cons]; exact drop_while p l
    | false => simp [List.takeWhile_cons, List.dropWhile_cons, h]
theorem tl_lstrip (x y : Str) : tl (Txt.lstripChars x y) = (tl x).dropWhile fun c => decide (c ∈ tl y) := by
  unfold Txt.lstripChars
  rw [stripBy_eq]
  unfold stripHi stripLo
  rw [if_pos rfl, if_neg (by decide), tl_strSub_end]
  have : y.cps.contains = fun c => decide (c ∈ tl y) := by
    funext c
    rw [Bool.eq_iff_iff]
    simp [tl]
  rw [this]
  exact drop_while _ _
def aLstrip (o s : AE) : AE := fun Γ A q x => o Γ A (fun d A1 => match d with
  | .str cs => s Γ A1 (fun e A2 => match e with
    | .str ch => cs.length ≤ big ∧ q (.str (cs.dropWhile fun c => decide (c ∈ ch))) A2
    | _ => False) x
  | _ => False) x
theorem ga_lstrip (ho : PEA X W o to ao) (he : PEA X W e te ae) (hs : starEach [e] X.env = [(false, eval e X.env)] := by rfl) (hb : attributeBase o "lstrip" X.env (eval o X.env) = eval o X.env := by rfl) (hl : (apos.endLine == pos.line) = true := by rfl) :
    PEA X W (.Call (.Attribute o "lstrip" apos) [e] [] pos) (tM1 (fun x xs H Q => ∃ a b, x = .str a ∧ xs = [.str b] ∧ a.length ≤ sizeLine ∧ Q (.str (Txt.lstripChars a b)) H) to te) (aLstrip ao ae) where
  pe := pe_m1 PySem.F.slot_str_lstrip PySem.F.type_str_lstrip mt_lstripChars ho.pe he.pe hs hb hl
  sim := fun σ H Γ A q x Q R S h k kx => ho.sim σ H Γ A _ x _ R S h (fun H1 v d A1 n1 R1 v1 h1 => by
    cases d with
    | str cs =>
      obtain ⟨z, rfl, rfl⟩ := v1.inv_str
      refine ⟨⟨z, rfl⟩, he.sim σ H1 Γ A1 _ x _ R1 (S.mono n1) h1 (fun H2 w f A2 n2 R2 v2 h2 => ?_) fun H2 e A2 n2 R2 h2 => kx H2 e A2 (n1.trans n2) R2 h2⟩
      cases f with
      | str sep =>
        obtain ⟨y, rfl, rfl⟩ := v2.inv_str
        refine ⟨z, y, rfl, rfl, by have := h2.1; rw [big_eq, len_tl]; exact this, ?_⟩
        exact k _ _ _ A2 (n1.trans n2) R2 (.strOf (tl_lstrip z y)) h2.2
      | _ => exact h2.elim
    | _ => exact h1.elim) kx
end
end GA

namespace GA
open PySem PySem.Spec PyProof.Rows L2 GV TL
/-! ### dicts with numbers and texts for keys -/
section
variable {κ : Type} [DecidableEq κ]
def getD' (kvs : List (κ × D)) (k : κ) : Option D := (kvs.find? fun kv => decide (kv.1 = k)).map (·.2)
def putD (kvs : List (κ × D)) (k : κ) (v : D) : List (κ × D) :=
  if (kvs.any fun kv => decide (kv.1 = k)) = true then kvs.map (fun kv => if kv.1 = k then (kv.1, v) else kv) else kvs ++ [(k, v)]
abbrev RelKV (K : Fg) (H : Hp) (ws : List (κ × V)) (kvs : List (κ × D)) : Prop := Paired (fun (p : κ × V) (q : κ × D) => p.1 = q.1 ∧ Val K H p.2 q.2) ws kvs
theorem relkv_get {K : Fg} {H : Hp} {k : κ} : ∀ {ws : List (κ × V)} {kvs : List (κ × D)}, RelKV K H ws kvs → (∀ d, getD' kvs k = some d → ∃ v, valV ws k = some v ∧ Val K H v d) ∧ (getD' kvs k = none → valV ws k = none) ∧ (ws.any fun kv => decide (kv.1 = k)) = kvs.any fun kv => decide (kv.1 = k)
  | _, _, .nil => ⟨fun _ e => (by cases e), fun _ => rfl, rfl⟩
  | (a, v) :: ws, (b, d) :: kvs, .cons ⟨h1, h2⟩ t => by
    dsimp only at h1
    subst h1
    obtain ⟨g1, g2, g3⟩ := relkv_get (k := k) t
    by_cases hk : a = k
    · refine ⟨fun d' e => ?_, fun e => ?_, ?_⟩
      · simp only [getD', List.find?_cons, hk, decide_true, Option.map_some, Option.some.injEq] at e
        subst e
        exact ⟨v, valV_pos hk, h2⟩
      · simp [getD', List.find?_cons, hk] at e
      · simp [hk]
    · refine ⟨fun d' e => ?_, fun e => ?_, ?_⟩
      · rw [valV_neg hk]
        refine g1 d' ?_
        simpa [getD', List.find?_cons, hk] using e
      · rw [valV_neg hk]
        refine g2 ?_
        simpa [getD', List.find?_cons, hk] using e
      · simp only [List.any_cons, hk, decide_false, Bool.false_or]
        exact g3
theorem relkv_map {K : Fg} {H : Hp} {k : κ} {v : V} {d : D} (hv : Val K H v d) : ∀ {ws : List (κ × V)} {kvs : List (κ × D)}, RelKV K H ws kvs → RelKV K H (ws.map fun kv => if kv.1 = k then (kv.1, v) else kv) (kvs.map fun kv => if kv.1 = k then (kv.1, d) else kv)
  | _, _, .nil => .nil
  | (a, v') :: ws, (b, d') :: kvs, .cons ⟨h1, h2⟩ t => by
    dsimp only at h1
    subst h1
    rw [List.map_cons, List.map_cons]
    refine .cons ?_ (relkv_map hv t)
    by_cases e : a = k
    · rw [if_pos e, if_pos e]; exact ⟨rfl, hv⟩
    · rw [if_neg e, if_neg e]; exact ⟨rfl, h2⟩
theorem relkv_put {K : Fg} {H : Hp} {k : κ} {v : V} {d : D} {ws : List (κ × V)} {kvs : List (κ × D)} (h : RelKV K H ws kvs) (hv : Val K H v d) : RelKV K H (putK ws k v) (putD kvs k d) := by
  unfold putK putD
  rw [(relkv_get (k := k) h).2.2]
  split
  · exact relkv_map hv h
  · exact paired_app h (.cons ⟨rfl, hv⟩ .nil)
theorem relkv_len {K : Fg} {H : Hp} {ws : List (κ × V)} {kvs : List (κ × D)} (h : RelKV K H ws kvs) : ws.length = kvs.length := Paired.length h
end
/-- a key of a number or a text -/
def keyOf : D → Option Key
  | .int i => some (.inl i)
  | .str cs => some (.inr ⟨cs.toArray⟩)
  | _ => none
theorem keyOf_ok {K : Fg} {H : Hp} {v : V} {d : D} {k : Key} (hv : Val K H v d) (h : keyOf d = some k) : v = kV k := by
  cases d with
  | int i => cases h; cases hv; rfl
  | str cs =>
    obtain ⟨x, rfl, rfl⟩ := hv.inv_str
    cases h
    rfl
  | _ => cases h
theorem RelA.dic {K : Fg} {H : Hp} {A : Ah} {a : Addr} {kvs : List (Key × D)} (R : RelA K H A) (h : A a = some (.dic kvs)) : ∃ ws, H a = some (.dK ws) ∧ RelKV K H ws kvs := by
  obtain ⟨o, h1, h2⟩ := R a _ h
  cases h2 with
  | dic hv => exact ⟨_, h1, hv⟩
def onD (A : Ah) (a : Addr) (k : List (Key × D) → Prop) : Prop := ∃ kvs, A a = some (.dic kvs) ∧ k kvs
section
variable {X : Cx} {W : WX} {o i e value : Expr} {pos pos' : Pos} {td ty tv : TE} {ao ai av : AE}
def aDNew : AE := fun _ A q _ => ∀ p, A p = none → q (.ref p) (updA A p (.dic []))
theorem ga_dnew : PEA X W (.Dict [] [] pos) tDNewK aDNew := ⟨pe_dnewK, fun σ H Γ A q x Q R S h k _ p hp => k _ _ _ _ (.new hp) (R.new hp (.dic .nil)) (.ref p) (h p (R.none hp))⟩
def aDGet (o i : AE) : AE := fun Γ A q x => o Γ A (fun d A1 => i Γ A1 (fun k A2 => match d with
  | .ref a => onD A2 a fun kvs => ∃ ky v, keyOf k = some ky ∧ getD' kvs ky = some v ∧ q v A2
  | _ => False) x) x
theorem ga_dget (hu : X.A.units + 64 < cLine) (ho : PEA X W o td ao) (hi : PEA X W i ty ai) (hs : NoSl i := by exact fun _ _ => rfl) : PEA X W (.Subscript o i pos) (tDGet td ty) (aDGet ao ai) where
  pe := pe_dget (by omega) ho.pe hi.pe hs
  sim := fun σ H Γ A q x Q R S h k kx => ho.sim σ H Γ A _ x _ R S h (fun H1 v d A1 n1 R1 v1 h1 => hi.sim σ H1 Γ A1 _ x _ R1 (S.mono n1) h1 (fun H2 w f A2 n2 R2 v2 h2 => by
    cases d with
    | ref a =>
      obtain ⟨kvs, e, ky, u, hk, hg, h2⟩ := h2
      obtain ⟨ws, e1, r1⟩ := R2.dic e
      cases v1
      obtain ⟨z, hz, rz⟩ := (relkv_get (k := ky) r1).1 u hg
      have := keyOf_ok v2 hk
      subst this
      exact ⟨a, z, rfl, hz ▸ DGet.k e1, k H2 z u A2 (n1.trans n2) R2 rz h2⟩
    | _ => exact h2.elim) fun H2 e A2 n2 R2 h2 => kx H2 e A2 (n1.trans n2) R2 h2) kx
def aDIn (i o : AE) : AE := fun Γ A q x => i Γ A (fun k A1 => o Γ A1 (fun d A2 => match d with
  | .ref a => onD A2 a fun kvs => ∃ ky, keyOf k = some ky ∧ q (.bl (getD' kvs ky).isSome) A2
  | _ => False) x) x
def aDNi (i o : AE) : AE := fun Γ A q x => i Γ A (fun k A1 => o Γ A1 (fun d A2 => match d with
  | .ref a => onD A2 a fun kvs => ∃ ky, keyOf k = some ky ∧ q (.bl (!(getD' kvs ky).isSome)) A2
  | _ => False) x) x
theorem dget_any {K : Fg} {H : Hp} {a : Addr} {ws : List (Key × V)} {kvs : List (Key × D)} {ky : Key} (e1 : H a = some (.dK ws)) (r1 : RelKV K H ws kvs) : ∃ o : Option V, DGet H a (kV ky) o ∧ o.isSome = (getD' kvs ky).isSome := by
  obtain ⟨g1, g2, _⟩ := relkv_get (k := ky) r1
  refine ⟨valV ws ky, .k e1, ?_⟩
  cases h : getD' kvs ky with
  | none => rw [g2 h]; rfl
  | some d => obtain ⟨v, e, _⟩ := g1 d h; rw [e]; rfl
theorem sim_din {K : Fg} (hi : SimE K W ty ai) (ho : SimE K W td ao) : SimE K W (tDIn ty td) (aDIn ai ao) := fun σ H Γ A q x Q R S h k kx =>
  hi σ H Γ A _ x _ R S h (fun H1 v d A1 n1 R1 v1 h1 => ho σ H1 Γ A1 _ x _ R1 (S.mono n1) h1 (fun H2 w f A2 n2 R2 v2 h2 => by
    cases f with
    | ref a =>
      obtain ⟨kvs, e, ky, hk, h2⟩ := h2
      obtain ⟨ws, e1, r1⟩ := R2.dic e
      cases v2
      have := keyOf_ok v1 hk
      subst this
      obtain ⟨ov, g, ei⟩ := dget_any (ky := ky) e1 r1
      exact ⟨a, ov, rfl, g, by rw [ei]; exact k H2 _ _ A2 (n1.trans n2) R2 (.bl _) h2⟩
    | _ => exact h2.elim) fun H2 e A2 n2 R2 h2 => kx H2 e A2 (n1.trans n2) R2 h2) kx
theorem sim_dni {K : Fg} (hi : SimE K W ty ai) (ho : SimE K W td ao) : SimE K W (tDNotIn ty td) (aDNi ai ao) := fun σ H Γ A q x Q R S h k kx =>
  hi σ H Γ A _ x _ R S h (fun H1 v d A1 n1 R1 v1 h1 => ho σ H1 Γ A1 _ x _ R1 (S.mono n1) h1 (fun H2 w f A2 n2 R2 v2 h2 => by
    cases f with
    | ref a =>
      obtain ⟨kvs, e, ky, hk, h2⟩ := h2
      obtain ⟨ws, e1, r1⟩ := R2.dic e
      cases v2
      have := keyOf_ok v1 hk
      subst this
      obtain ⟨ov, g, ei⟩ := dget_any (ky := ky) e1 r1
      exact ⟨a, ov, rfl, g, by rw [ei]; exact k H2 _ _ A2 (n1.trans n2) R2 (.bl _) h2⟩
    | _ => exact h2.elim) fun H2 e A2 n2 R2 h2 => kx H2 e A2 (n1.trans n2) R2 h2) kx
theorem ga_din (hu : X.A.units + 64 < cLine) (hi : PEA X W i ty ai) (ho : PEA X W o td ao) (h1 : behindInMarks .In o = false := by rfl) : PEA X W (.Compare i [.In] [o] pos) (tDIn ty td) (aDIn ai ao) := ⟨pe_cmp (pc_din (by omega) hi.pe ho.pe) h1, sim_din hi.sim ho.sim⟩
theorem ga_dni (hu : X.A.units + 64 < cLine) (hi : PEA X W i ty ai) (ho : PEA X W o td ao) (h1 : behindInMarks .NotIn o = false := by rfl) : PEA X W (.Compare i [.NotIn] [o] pos) (tDNotIn ty td) (aDNi ai ao) := ⟨pe_cmp (pc_dnotin (by omega) hi.pe ho.pe) h1, sim_dni hi.sim ho.sim⟩
theorem gt_din (hu : X.A.units + 64 < cLine) (hi : PEA X W i ty ai) (ho : PEA X W o td ao) (h1 : behindInMarks .In o = false := by rfl) : PTA X W (.Compare i [.In] [o] pos) (tB (tDIn ty td)) (aTest (aDIn ai ao)) := ⟨pt_cmp (pc_din (by omega) hi.pe ho.pe) h1, sim_test (sim_din hi.sim ho.sim)⟩
theorem gt_dni (hu : X.A.units + 64 < cLine) (hi : PEA X W i ty ai) (ho : PEA X W o td ao) (h1 : behindInMarks .NotIn o = false := by rfl) : PTA X W (.Compare i [.NotIn] [o] pos) (tB (tDNotIn ty td)) (aTest (aDNi ai ao)) := ⟨pt_cmp (pc_dnotin (by omega) hi.pe ho.pe) h1, sim_test (sim_dni hi.sim ho.sim)⟩
def aDPut (o i v : AE) : AS := fun D Γ A => v Γ A (fun d A1 => o Γ A1 (fun l A2 => i Γ A2 (fun k A3 => match l with
  | .ref a => onD A3 a fun kvs => ∃ ky, keyOf k = some ky ∧ kvs.length < big ∧ D.nx Γ (updA A3 a (.dic (putD kvs ky d)))
  | _ => False) fun e A' => D.ex e Γ A') fun e A' => D.ex e Γ A') fun e A' => D.ex e Γ A'
theorem gs_dput (hu : X.A.units + 64 < cLine) (ho : PEA X W o td ao) (hi : PEA X W i ty ai) (hv : PEA X W value tv av) (hs : swapsWith value (some (.Subscript o i pos')) pos.line X.env = pure false := by rfl) :
    PSA X W (.Assign [.Subscript o i pos'] value pos) (sDPut td ty tv) (aDPut ao ai av) where
  pe := ps_dput (by omega) ho.pe hi.pe hv.pe hs
  sim := fun D AD σ H Γ A R S hh k => hv.sim σ H Γ A _ _ _ R S hh (fun H1 v d A1 n1 R1 v1 h1 => ho.sim σ H1 Γ A1 _ _ _ R1 (S.mono n1) h1 (fun H2 w f A2 n2 R2 v2 h2 => hi.sim σ H2 Γ A2 _ _ _ R2 (S.mono (n1.trans n2)) h2 (fun H3 z g A3 n3 R3 v3 h3 => by
    cases f with
    | ref a =>
      obtain ⟨kvs, e, ky, hk, hb, h3⟩ := h3
      obtain ⟨ws, e1, r1⟩ := R3.dic e
      cases v2
      have := keyOf_ok v3 hk
      subst this
      have n4 : Nxt X.K H3 (upd H3 a (.dK (putK ws ky v))) := .set e1 noTup_dK
      have n13 := n1.trans (n2.trans n3)
      exact ⟨a, _, rfl, .k e1 (by rw [relkv_len r1]; exact hb), k.nx σ _ Γ _ (n13.trans n4) (R3.set e1 noTup_dK (.dic (relkv_put r1 (v1.mono (n2.trans n3))))) (S.mono (n13.trans n4)) h3⟩
    | _ => exact h3.elim) fun H' e A' n R' h' => k.ex e σ H' Γ A' ((n1.trans n2).trans n) R' (S.mono ((n1.trans n2).trans n)) h') fun H' e A' n R' h' => k.ex e σ H' Γ A' (n1.trans n) R' (S.mono (n1.trans n)) h') fun H' e A' n R' h' => k.ex e σ H' Γ A' n R' (S.mono n) h'
end
end GA

namespace GA
open PySem PySem.Spec PyProof.Rows L2 GV TL
/-! ### own defs with keyword-only parameters -/
structure FnK0 (P : Program) (w : World) (K : Fg) (mg : Str → Option Value) (base : Heap) (x : Str) (k : Nat) (sp : ASp) (n : Nat) (ks : List Str) (dvs : List V) (dds : List D) : Prop where
  ex : ∃ (f : Addr) (fd : FuncData) (ps : List Str), FnA P w K mg base k f fd ps sp ∧ mg x = some (.ref f) ∧ PySem.W.keepIn K (.ref f) = true ∧ (∃ ds, Vals dvs ds ∧ Binds K fd ps ds) ∧ KBn K fd ps n ks (fun us ws => us ++ ws) (fun vs zs => vs ++ zs)
  dd : ∀ H, Vls K H dvs dds
abbrev FndK (X : Cx) (x : Str) (k : Nat) (sp : ASp) (n : Nat) (ks : List Str) (dvs : List V) (dds : List D) : Prop := FnK0 X.prog X.w X.K X.mg X.base x k sp n ks dvs dds
section
variable {X : Cx} {W : WX} {k n : Nat} {x : Str} {sp : ASp} {ks : List Str} {dvs : List V} {dds : List D} {e : Expr} {es : List Expr} {kws : List Keyword} {p pos kpos : Pos} {t tk' : TA} {at_ ak : AA} {te : TE} {ae : AE} {nm : Option Str}
/-- the keywords lack: the defaults -/
def aCallD (sp : ASp) (dds : List D) (as : AA) : AE := fun Γ A q x => as Γ A (fun ds A1 => sp (ds ++ dds) A1 q x) x
theorem ga_callD (F : FndK X x k sp n ks dvs dds) (hr : Room k X.A) (tk : L2N.Takes X W) (h : PAA X W (e :: es) t at_) (hg : Gl X x := by rfl) (hdb : (x == ("__debug__" : Str)) = false := by decide)
    (he : starEach (e :: es) X.env = (false, eval e X.env) :: starEach es X.env := by rfl) (hpl : (backTo pos (starEach es X.env)).any (·.1) = false := by rfl) :
    PEA X W (.Call (.Name x p) (e :: es) [] pos) (tCallSD (lift X.K sp) dvs (WE W) t) (aCallD sp dds at_) := by
  obtain ⟨⟨f, fd, ps, G, hm, hk, ⟨ds, hd, hb⟩, _⟩, dd⟩ := F
  exact ⟨pe_callSD G hr hg hm hk hb hd (fun σ => L2N.passAt tk σ) h.pe hdb he hpl, fun σ H Γ A q x Q R S hh k kx => h.sim σ H Γ A _ x _ R S hh (fun H1 vs ds A1 n1 R1 v1 h1 =>
    ⟨A1, ds ++ dds, q, x, R1, v1.append (dd H1), h1, fun H2 v d A2 n2 R2 v2 h2 => k H2 v d A2 (n1.trans n2) R2 v2 h2, fun H2 e A2 n2 R2 h2 => kx H2 e A2 (n1.trans n2) R2 h2⟩) kx⟩
/-! the call with all keywords -/
structure PKA (X : Cx) (W : WX) (kws : List Keyword) (ta : TA) (aa : AA) : Prop where
  pe : PK X kws ta
  sim : SimA X.K W ta aa
theorem gk_nil : PKA X W [] tNil aNil := ⟨pk_nil, gs_nil.sim⟩
theorem gk_cons (ha : PEA X W e te ae) (hr : PKA X W kws t at_) : PKA X W (⟨nm, e, kpos⟩ :: kws) (tCons te t) (aCons ae at_) :=
  ⟨pk_cons ha.pe hr.pe, fun σ H Γ A q x Q R S h k kx => ha.sim σ H Γ A _ x _ R S h (fun H1 v d A1 n1 R1 v1 h1 => hr.sim σ H1 Γ A1 _ x _ R1 (S.mono n1) h1
    (fun H2 vs ds A2 n2 R2 v2 h2 => k H2 _ _ A2 (n1.trans n2) R2 (.cons (v1.mono n2) v2) h2) fun H2 e A2 n2 R2 h2 => kx H2 e A2 (n1.trans n2) R2 h2) kx⟩
def tCallK (sp : Sp) (n m : Nat) (E : L2.St → XK) (t tk' : TA) : TE := fun σ H Q => t σ H fun vs H1 => tk' σ H1 fun zs H2 => vs.length = n ∧ zs.length = m ∧ sp (vs ++ zs) H2 Q (E σ)
def aCallK (sp : ASp) (n m : Nat) (as ak : AA) : AE := fun Γ A q x => as Γ A (fun ds A1 => ak Γ A1 (fun es A2 => ds.length = n ∧ es.length = m ∧ sp (ds ++ es) A2 q x) x) x
theorem ga_callK (F : FndK X x k sp n ks dvs dds) (hr : Room k X.A) (tk : L2N.Takes X W) (h : PAA X W (e :: es) t at_) (hkw : PKA X W kws tk' ak) (hg : Gl X x := by rfl)
    (hall : (backToKw pos (keywordEach kws X.env)).all (·.1.isSome) = true := by rfl) (hks : (backToKw pos (keywordEach kws X.env)).filterMap (·.1) = ks := by rfl)
    (hdb : (x == ("__debug__" : Str)) = false := by decide) (he : starEach (e :: es) X.env = (false, eval e X.env) :: starEach es X.env := by rfl)
    (hpl : ((backTo pos (starEach (e :: es) X.env)).any (·.1) || (backToKw pos (keywordEach kws X.env)).any (·.1.isNone)) = false := by rfl) :
    PEA X W (.Call (.Name x p) (e :: es) kws pos) (tCallK (lift X.K sp) n ks.length (WE W) t tk') (aCallK sp n ks.length at_ ak) := by
  obtain ⟨⟨f, fd, ps, G, hm, hk, _, hb⟩, _⟩ := F
  refine ⟨⟨fun pins s σ H Q I hq => ?_⟩, fun σ H Γ A q x Q R S hh k kx => h.sim σ H Γ A _ x _ R S hh (fun H1 vs ds A1 n1 R1 v1 h1 => hkw.sim σ H1 Γ A1 _ x _ R1 (S.mono n1) h1 (fun H2 zs es A2 n2 R2 v2 h2 =>
    ⟨by rw [v1.length]; exact h2.1, by rw [v2.length]; exact h2.2.1, A2, ds ++ es, q, x, R2, (v1.mono n2).append v2, h2.2.2, fun H3 v d A3 n3 R3 v3 h3 => k H3 v d A3 ((n1.trans n2).trans n3) R3 v3 h3, fun H3 e A3 n3 R3 h3 => kx H3 e A3 ((n1.trans n2).trans n3) R3 h3⟩)
    fun H2 e A2 n2 R2 h2 => kx H2 e A2 (n1.trans n2) R2 h2) kx⟩
  refine wpAny_Call_Name_kw (ld_glob I hg hm ?_ hdb)
  refine PySem.W.callWith_KW (h₀ := X.base) I.ok.mod.kin hk hall (thn (h.pe.run pos pins s σ H _ I hq) fun us s1 ⟨vs, H1, I1, r, q⟩ => ?_) hpl he
  refine thn (hkw.pe.run pos pins s1 σ H1 _ I1 q) fun ws s2 ⟨zs, H2, I2, rz, l1, l2, q2⟩ => ⟨I2.kIn, ?_⟩
  rw [hks]
  have r2 := hb.rel r rz
  have hx := L2N.passAt tk σ
  refine wpAny_call (codeAny_mono (G.run X.A X.stack s2 H2 ⟨us, ks.zip ws⟩ (us ++ ws) (vs ++ zs) Q (WE W σ) hr I2.env0 (hb.to s2 us ws I2.kIn (r.length.symm.trans l1) (rz.length.symm.trans l2)) r2 q2) fun r s' hq => ?_)
  cases r with
  | error e => exact hx pins H2 s2 e s' I2 hq
  | ok fl =>
    cases fl with
    | ret u => exact I2.after hq
    | next => exact False.elim hq
    | brk => exact False.elim hq
    | cont => exact False.elim hq
end
end GA

namespace GA
open PySem PySem.Spec PyProof.Rows L2 GV TL
/-! ### sorted of a list: numbers, or less than 64 texts -/
theorem ltCps_lex : ∀ a b : List Nat, ltCps a b = lexL a b
  | _, [] => by cases ‹List Nat› <;> rfl
  | [], _ :: _ => rfl
  | a :: x, b :: y => by
    have := ltCps_lex x y
    unfold ltCps lexL
    rw [this]
    rfl
def srtL : List (List Nat) → Bool
  | x :: y :: r => !lexL y x && srtL (y :: r)
  | _ => true
theorem srt_ok : ∀ ys : List Str, sortedS ys = true → srtL (ys.map tl) = true
  | [], _ => rfl
  | [_], _ => rfl
  | x :: y :: r, h => by
    have h : risingS x (y :: r) = true := h
    unfold risingS at h
    obtain ⟨h1, h2⟩ := Bool.and_eq_true_iff.mp h
    have ih := srt_ok (y :: r) h2
    show (!lexL (tl y) (tl x) && srtL ((y :: r).map tl)) = true
    rw [ih, Bool.and_true, ← ltCps_lex]
    exact h1
theorem intsV {K : Fg} {H : Hp} : ∀ {ns : List Int} {vs : List V}, Vls K H vs (ns.map D.int) → vs = ns.map V.int
  | [], _, .nil => rfl
  | _ :: _, _, .cons h t => by cases h; rw [intsV t]; rfl
theorem intsD {K : Fg} {H : Hp} : ∀ ns : List Int, Vls K H (ns.map V.int) (ns.map D.int)
  | [] => .nil
  | i :: r => .cons (.int i) (intsD r)
theorem strsV {K : Fg} {H : Hp} : ∀ {ss : List (List Nat)} {vs : List V}, Vls K H vs (ss.map D.str) → ∃ ys : List Str, vs = ys.map V.str ∧ ys.map tl = ss
  | [], _, .nil => ⟨[], rfl, rfl⟩
  | _ :: _, _, .cons h t => by
    obtain ⟨x, rfl, e⟩ := h.inv_str
    obtain ⟨ys, rfl, e2⟩ := strsV t
    exact ⟨x :: ys, rfl, by rw [List.map_cons, e, e2]⟩
def aSorted : A1c := fun ds A q => match ds with
  | [.ref a] => onL A a fun xs => (∃ ns : List Int, xs = ns.map D.int ∧ ∀ ns' : List Int, ns'.Perm ns → ns'.Pairwise (· ≤ ·) → newL A (ns'.map D.int) q) ∨
    ∃ ss : List (List Nat), xs = ss.map D.str ∧ ss.length < 64 ∧ ∀ ys : List (List Nat), ys.Perm ss → srtL ys = true → newL A (ys.map D.str) q
  | _ => False
def rSrtU (K : Fg) : List V → Hp → VK → Prop := fun vs H Q => rSortedI K vs H Q ∨ rSortedS K vs H Q
theorem sim_sorted {K : Fg} : SimC K (rSrtU K) aSorted := by
  intro H A vs ds q Q R hv h k
  unfold aSorted at h
  split at h
  · obtain ⟨v, rfl, h1⟩ := hv.one
    cases h1
    obtain ⟨xs, ha, h⟩ := onL_of h
    obtain ⟨ws, e1, r1⟩ := R.lst ha
    rcases h with ⟨ns, rfl, h⟩ | ⟨ss, rfl, h64, h⟩
    · have := intsV r1
      subst this
      exact .inl ⟨_, ns, rfl, SqL.of e1, fun ns' p hp ho hn => k _ _ _ _ (.new hn) (R.new hn (.lst (intsD ns'))) (.ref p) (h ns' hp ho p (R.none hn))⟩
    · obtain ⟨ys, rfl, rfl⟩ := strsV r1
      refine .inr ⟨_, ys, rfl, SqL.of e1, by rw [List.length_map] at h64; exact h64, fun zs p hp ho hn => ?_⟩
      exact k _ _ _ _ (.new hn) (R.new hn (.lst (Vls.strs rfl))) (.ref p) (h (zs.map tl) (hp.map tl) (srt_ok zs ho) p (R.none hn))
  · exact h.elim
section
variable {X : Cx}
theorem cr_srtU : CallR X (.builtin "sorted") (rSrtU X.K) := by
  intro pins s σ H xs us Q I r h
  rcases h with h | h
  · exact cr_sortedI pins s σ H xs us Q I r h
  · exact cr_sortedS pins s σ H xs us Q I r h
theorem ba_sorted : BltA X (.builtin "sorted") (rSrtU X.K) aSorted := ⟨cr_srtU, sim_sorted⟩
end
end GA

namespace GA
open PySem PySem.Spec PyProof.Rows L2 GV TL
/-! ### len and list of a dict -/
def keyD' : Key → D
  | .inl i => .int i
  | .inr x => .str (tl x)
theorem keyD_val {K : Fg} {H : Hp} (k : Key) : Val K H (kV k) (keyD' k) := by
  cases k with
  | inl i => exact .int i
  | inr x => exact .str x
theorem keys_rel {K : Fg} {H : Hp} : ∀ {ws : List (Key × V)} {kvs : List (Key × D)}, RelKV K H ws kvs → Vls K H (ws.map fun kv => kV kv.1) (kvs.map fun kv => keyD' kv.1)
  | _, _, .nil => .nil
  | (a, v) :: ws, (b, d) :: kvs, .cons ⟨h1, _⟩ t => by
    dsimp only at h1
    subst h1
    exact .cons (keyD_val a) (keys_rel t)
def aLenD : A1c := fun ds A q => match ds with
  | [.ref a] => onD A a fun kvs => q (.int kvs.length) A
  | _ => False
def aListD : A1c := fun ds A q => match ds with
  | [.ref a] => onD A a fun kvs => newL A (kvs.map fun kv => keyD' kv.1) q
  | _ => False
theorem sim_lenD {K : Fg} : SimC K (fun xs H Q => ∃ a kvs, xs = [V.ref a] ∧ H a = some (.dK kvs) ∧ Q (.int kvs.length) H) aLenD := by
  intro H A vs ds q Q R hv h k
  unfold aLenD at h
  split at h
  · obtain ⟨v, rfl, h1⟩ := hv.one
    cases h1
    obtain ⟨kvs, e, h⟩ := h
    obtain ⟨ws, e1, r1⟩ := R.dic e
    exact ⟨_, ws, rfl, e1, by rw [relkv_len r1]; exact k H _ _ A .rfl R (.int _) h⟩
  · exact h.elim
theorem sim_listD {K : Fg} : SimC K (fun xs H Q => ∃ (a : Addr) (kvs : List (Key × V)), xs = [V.ref a] ∧ Rd H a (.dK kvs) ∧ ∀ p, H p = none → Q (.ref p) (upd H p (.lst (kvs.map fun kv => kV kv.1)))) aListD := by
  intro H A vs ds q Q R hv h k
  unfold aListD at h
  split at h
  · obtain ⟨v, rfl, h1⟩ := hv.one
    cases h1
    obtain ⟨kvs, e, h⟩ := h
    obtain ⟨ws, e1, r1⟩ := R.dic e
    exact ⟨_, ws, rfl, .inl e1, fun p hp => k _ _ _ _ (.new hp) (R.new hp (.lst (keys_rel r1))) (.ref p) (h p (R.none hp))⟩
  · exact h.elim
section
variable {X : Cx}
theorem ba_lenD : BltA X (.builtin "len") (fun xs H Q => ∃ a kvs, xs = [V.ref a] ∧ H a = some (.dK kvs) ∧ Q (.int kvs.length) H) aLenD := ⟨call_lenD, sim_lenD⟩
theorem ba_listD (hc : X.calm = true) : BltA X (.type "list") (fun xs H Q => ∃ (a : Addr) (kvs : List (Key × V)), xs = [V.ref a] ∧ Rd H a (.dK kvs) ∧ ∀ p, H p = none → Q (.ref p) (upd H p (.lst (kvs.map fun kv => kV kv.1)))) aListD := ⟨call_listD hc, sim_listD⟩
end
end GA

namespace GA
open PySem PySem.Spec PyProof.Rows L2 GV TL
/-! ### the plain side: heaps -/
def Ext (A A' : Ah) : Prop := ∀ b c, A b = some c → A' b = some c
/-- all but l is kept -/
def Kp (l : Addr) (A A' : Ah) : Prop := ∀ b c, b ≠ l → A b = some c → A' b = some c
theorem Ext.rfl {A : Ah} : Ext A A := fun _ _ h => h
theorem Ext.trans {A B C : Ah} (h : Ext A B) (g : Ext B C) : Ext A C := fun b c e => g b c (h b c e)
theorem Ext.new {A : Ah} {p : Addr} {c : Cell} (h : A p = none) : Ext A (updA A p c) := fun b d e => by
  rw [updA_ne (fun z => by rw [z, h] at e; cases e)]; exact e
theorem Ext.newer {A B : Ah} {p : Addr} {c : Cell} (g : Ext A B) (h : B p = none) : Ext A (updA B p c) := g.trans (.new h)
/-- a cell that was not there when the watch began may change -/
theorem Ext.upd {A B : Ah} {p : Addr} {c : Cell} (g : Ext A B) (h : A p = none) : Ext A (updA B p c) := fun b d e => by
  rw [updA_ne (fun z => by rw [z, h] at e; cases e)]; exact g b d e
theorem Ext.kp {A B : Ah} (h : Ext A B) {l : Addr} : Kp l A B := fun b c _ e => h b c e
theorem Kp.rfl {l : Addr} {A : Ah} : Kp l A A := fun _ _ _ h => h
theorem Kp.trans {l : Addr} {A B C : Ah} (h : Kp l A B) (g : Kp l B C) : Kp l A C := fun b c n e => g b c n (h b c n e)
theorem Kp.set {l : Addr} {A : Ah} {c : Cell} : Kp l A (updA A l c) := fun b d n e => by rw [updA_ne n]; exact e
theorem Kp.new {l p : Addr} {A B : Ah} {c : Cell} (g : Kp l A B) (h : B p = none) : Kp l A (updA B p c) := g.trans (Ext.new h).kp
theorem Kp.upd {l : Addr} {A B : Ah} {p : Addr} {c : Cell} (g : Kp l A B) (h : A p = none) : Kp l A (updA B p c) := fun b d n e => by
  rw [updA_ne (fun z => by rw [z, h] at e; cases e)]; exact g b d n e
/-- what was new since A stays apart -/
theorem Kp.at {l b : Addr} {A B : Ah} {c : Cell} (g : Kp l A B) (h : A b = some c) (n : b ≠ l) : B b = some c := g b c n h
/-! ### numbers -/
@[irreducible] def Wd : Int := 10 ^ 256
theorem Wd_lim : Wd.natAbs < lim := by decide +kernel
theorem Wd_big : (10 : Int) ^ 100 ≤ Wd := by decide +kernel

theorem smallW {i : Int} (h : 0 ≤ i) (g : i ≤ Wd) : SmallI i := Nat.lt_of_le_of_lt (by have := Wd_lim; omega) Wd_lim
theorem lim64 : 340282366920938463463374607431768211456 < lim := by decide +kernel
theorem small128 {i : Int} (h : -340282366920938463463374607431768211456 ≤ i) (g : i ≤ 340282366920938463463374607431768211456) : SmallI i := Nat.lt_of_le_of_lt (by omega) lim64
theorem lim60 : 1000000000000000000000000000000000000000000000000000000000000 < lim := by decide +kernel
theorem small60 {i : Int} (h : -1000000000000000000000000000000000000000000000000000000000000 ≤ i) (g : i ≤ 1000000000000000000000000000000000000000000000000000000000000) : SmallI i := Nat.lt_of_le_of_lt (by omega) lim60
theorem small_mod {a : Int} : SmallI (a % 18446744073709551557) := small128 (by omega) (by omega)
theorem small_mdiv {a : Int} : SmallI (a % 18446744073709551557 / 4294967296) := small128 (by omega) (by omega)
theorem small_mdiv2 {a : Int} : SmallI (a % 18446744073709551557 / 65536) := small128 (by omega) (by omega)
theorem mod_lo {a : Int} : 0 ≤ a % 18446744073709551557 := by omega
theorem mod_hi {a : Int} : a % 18446744073709551557 < 18446744073709551557 := by omega
/-! ### the store of a law -/
def stL (c0 c1 c2 c3 c4 c5 : Int) (r : List Int) : List D := .int c0 :: .int c1 :: .int c2 :: .int c3 :: .int c4 :: .int c5 :: r.map D.int
theorem stL_len {c0 c1 c2 c3 c4 c5 : Int} {r : List Int} : (stL c0 c1 c2 c3 c4 c5 r).length = r.length + 6 := by simp [stL]
theorem ixN_st {c0 c1 c2 c3 c4 c5 : Int} {r : List Int} {k : Nat} (h : k < 6) : L2.ixN (stL c0 c1 c2 c3 c4 c5 r).length (k : Int) = some k := by
  rw [stL_len]
  unfold L2.ixN
  rw [if_pos (by omega), if_pos (by omega)]
  rfl
theorem atI_st {c0 c1 c2 c3 c4 c5 : Int} {r : List Int} {k : Nat} {d : D} (h : k < 6) (e : (stL c0 c1 c2 c3 c4 c5 r)[k]? = some d) : L2.atI (stL c0 c1 c2 c3 c4 c5 r) (k : Int) = some d := by
  unfold L2.atI
  rw [ixN_st h]
  exact e
theorem atI_c0 {c0 c1 c2 c3 c4 c5 : Int} {r : List Int} : L2.atI (stL c0 c1 c2 c3 c4 c5 r) 0 = some (.int c0) := atI_st (k := 0) (by decide) rfl
theorem ixN_c0 {c0 c1 c2 c3 c4 c5 : Int} {r : List Int} : L2.ixN (stL c0 c1 c2 c3 c4 c5 r).length 0 = some 0 := ixN_st (k := 0) (by decide)
theorem atI_c1 {c0 c1 c2 c3 c4 c5 : Int} {r : List Int} : L2.atI (stL c0 c1 c2 c3 c4 c5 r) 1 = some (.int c1) := atI_st (k := 1) (by decide) rfl
theorem ixN_c1 {c0 c1 c2 c3 c4 c5 : Int} {r : List Int} : L2.ixN (stL c0 c1 c2 c3 c4 c5 r).length 1 = some 1 := ixN_st (k := 1) (by decide)
theorem atI_c2 {c0 c1 c2 c3 c4 c5 : Int} {r : List Int} : L2.atI (stL c0 c1 c2 c3 c4 c5 r) 2 = some (.int c2) := atI_st (k := 2) (by decide) rfl
theorem ixN_c2 {c0 c1 c2 c3 c4 c5 : Int} {r : List Int} : L2.ixN (stL c0 c1 c2 c3 c4 c5 r).length 2 = some 2 := ixN_st (k := 2) (by decide)
theorem atI_c3 {c0 c1 c2 c3 c4 c5 : Int} {r : List Int} : L2.atI (stL c0 c1 c2 c3 c4 c5 r) 3 = some (.int c3) := atI_st (k := 3) (by decide) rfl
theorem ixN_c3 {c0 c1 c2 c3 c4 c5 : Int} {r : List Int} : L2.ixN (stL c0 c1 c2 c3 c4 c5 r).length 3 = some 3 := ixN_st (k := 3) (by decide)
theorem atI_c4 {c0 c1 c2 c3 c4 c5 : Int} {r : List Int} : L2.atI (stL c0 c1 c2 c3 c4 c5 r) 4 = some (.int c4) := atI_st (k := 4) (by decide) rfl
theorem ixN_c4 {c0 c1 c2 c3 c4 c5 : Int} {r : List Int} : L2.ixN (stL c0 c1 c2 c3 c4 c5 r).length 4 = some 4 := ixN_st (k := 4) (by decide)
theorem atI_c5 {c0 c1 c2 c3 c4 c5 : Int} {r : List Int} : L2.atI (stL c0 c1 c2 c3 c4 c5 r) 5 = some (.int c5) := atI_st (k := 5) (by decide) rfl
theorem ixN_c5 {c0 c1 c2 c3 c4 c5 : Int} {r : List Int} : L2.ixN (stL c0 c1 c2 c3 c4 c5 r).length 5 = some 5 := ixN_st (k := 5) (by decide)
theorem atI_cr {c0 c1 c2 c3 c4 c5 : Int} {r : List Int} (h : 6 ≤ c0) (g : c0 < ((stL c0 c1 c2 c3 c4 c5 r).length : Int)) : ∃ z, z ∈ r ∧ L2.atI (stL c0 c1 c2 c3 c4 c5 r) c0 = some (.int z) := by
  have hl : c0.toNat - 6 < r.length := by
    rw [stL_len] at g
    omega
  refine ⟨r[c0.toNat - 6]'hl, List.getElem_mem _, ?_⟩
  unfold L2.atI L2.ixN
  rw [if_pos (by omega), if_pos g]
  show (stL c0 c1 c2 c3 c4 c5 r)[c0.toNat]? = _
  have hk : ∀ m, m < r.length → (stL c0 c1 c2 c3 c4 c5 r)[m + 6]? = (r[m]?).map D.int := fun m _ => by simp [stL]
  have h6 : (c0.toNat - 6) + 6 = c0.toNat := by omega
  have h7 := hk _ hl
  rw [h6, List.getElem?_eq_getElem hl] at h7
  exact h7
structure StI (c0 c1 c2 c3 c4 c5 : Int) (r : List Int) (n : Nat) : Prop where
  len : r.length ≤ 64
  h0 : 6 ≤ c0
  h1 : 0 ≤ c1 ∧ c1 ≤ Wd
  h2 : 0 ≤ c2 ∧ c2 ≤ 60
  h3 : 0 ≤ c3 ∧ c3 ≤ 1
  h4 : 0 ≤ c4 ∧ c4 ≤ n
  h5 : 0 ≤ c5 ∧ c5 ≤ Wd
  hr : ∀ i ∈ r, 0 ≤ i ∧ i ≤ Wd
def St (A : Ah) (l : Addr) (n : Nat) : Prop := ∃ c0 c1 c2 c3 c4 c5 r, A l = some (.lst (stL c0 c1 c2 c3 c4 c5 r)) ∧ StI c0 c1 c2 c3 c4 c5 r n
theorem St.mono {A : Ah} {l : Addr} {n m : Nat} (h : St A l n) (g : n ≤ m) : St A l m := by
  obtain ⟨c0, c1, c2, c3, c4, c5, r, e, i⟩ := h
  exact ⟨c0, c1, c2, c3, c4, c5, r, e, ⟨i.len, i.h0, i.h1, i.h2, i.h3, by have := i.h4; omega, i.h5, i.hr⟩⟩
theorem St.ext {A B : Ah} {l : Addr} {n : Nat} (h : St A l n) (g : Ext A B) : St B l n := by
  obtain ⟨c0, c1, c2, c3, c4, c5, r, e, i⟩ := h
  exact ⟨c0, c1, c2, c3, c4, c5, r, g _ _ e, i⟩
theorem St.some {A : Ah} {l : Addr} {n : Nat} (h : St A l n) : ∃ xs, A l = some (.lst xs) := let ⟨_, _, _, _, _, _, _, e, _⟩ := h; ⟨_, e⟩
theorem St.ne {A : Ah} {l p : Addr} {n : Nat} (h : St A l n) (g : A p = none) : p ≠ l := by
  obtain ⟨xs, e⟩ := h.some
  intro z; rw [z, e] at g; cases g
theorem Kp.none {l p : Addr} {A B : Ah} (K : Kp l A B) (h : B p = Option.none) (n : p ≠ l) : A p = Option.none := by
  cases e : A p with
  | none => rfl
  | some c => rw [K _ _ n e] at h; cases h
theorem Ext.none {p : Addr} {A B : Ah} (K : Ext A B) (h : B p = Option.none) : A p = Option.none := by
  cases e : A p with
  | none => rfl
  | some c => rw [K _ _ e] at h; cases h
theorem St.upd {A : Ah} {l p : Addr} {n : Nat} {c : Cell} (h : St A l n) (g : p ≠ l) : St (updA A p c) l n := by
  obtain ⟨c0, c1, c2, c3, c4, c5, r, e, i⟩ := h
  exact ⟨c0, c1, c2, c3, c4, c5, r, by rw [updA_ne (Ne.symm g)]; exact e, i⟩
/-- what can be picked from -/
def Items (A : Ah) (d : D) (xs : List D) : Prop := (∃ cs, d = .str cs ∧ xs = cs.map fun c => .str [c]) ∨ (∃ p, d = .ref p ∧ A p = some (.lst xs)) ∨ d = .tup xs
/-- a comprehension whose body takes every item and leaves the heap as it is -/
theorem lc_of {it : ItA} {A1 : Ah} {g : AG} {c : AT} {e : AE} {vs : List Nat} {Γ : Gt} {q : D → Ah → Prop} (f : Nat → D) (hsrc : it.src = none) (hn : it.n ≤ big)
    (body : ∀ (i : Nat) (A' : Ah) (k : D → Ah → Prop) (sk : Ah → Prop), i < it.n → Ext A1 A' → k (f i) A' → g (it.item i) (wipeG Γ vs) A' fun Γ2 A2 => c Γ2 A2 (fun b A3 => bsel b (e Γ2 A3 k fun _ _ => False) (sk A3)) fun _ _ => False)
    (done : ∀ p, A1 p = none → q (.ref p) (updA A1 p (.lst ((List.range it.n).map f)))) :
    lcR it A1 g c e vs Γ q := by
  unfold lcR
  intro p hp
  refine ⟨fun i acc A' => acc = (List.range i).map f ∧ A' = updA A1 p (.lst acc), ⟨rfl, rfl⟩, ?_, ?_, ?_⟩
  · rintro i acc A' _ ⟨rfl, rfl⟩
    refine ⟨?_, updA_same⟩
    unfold ItA.still
    rw [hsrc]
    trivial
  · rintro i acc A' hi ⟨rfl, rfl⟩
    refine body i _ _ (fun A3 => ∃ ac, A3 p = some (.lst ac) ∧ ac = (List.range (i + 1)).map f ∧ A3 = updA A1 p (.lst ac)) hi (fun b d h => ?_) ⟨_, updA_same, by rw [List.length_map, List.length_range]; omega, ?_, updA_updA⟩
    · rw [updA_ne (fun z => by rw [z, hp] at h; cases h)]; exact h
    · rw [List.range_succ, List.map_append]; rfl
  · rintro acc A' ⟨rfl, rfl⟩
    exact done p hp
end GA

namespace GA
open PySem PySem.Spec PyProof.Rows L2 GV TL
theorem atI_zero' {α : Type} {c : α} {r : List α} : L2.atI (c :: r) 0 = some c := by
  unfold L2.atI L2.ixN
  rw [if_pos (by omega), if_pos (by rw [List.length_cons]; omega)]
  rfl
theorem atI_one' {α : Type} {c d : α} {r : List α} : L2.atI (c :: d :: r) 1 = some d := by
  unfold L2.atI L2.ixN
  rw [if_pos (by omega), if_pos (by rw [List.length_cons, List.length_cons]; omega)]
  rfl
/-- the same for one without a heap hypothesis -/
theorem map_range_getD {α : Type} {L : List α} {d : D} (f : α → D) (g : D → D) : (List.range (L.map f).length).map (fun i => g ((L.map f).getD i d)) = L.map fun a => g (f a) := by
  apply List.ext_getElem
  · simp
  · intro i h1 h2
    simp only [List.length_map, List.length_range] at h1
    simp [List.getD_eq_getElem?_getD, List.getElem?_eq_getElem h1]
theorem map_getD {α : Type} {L : List α} {d : D} (f : α → D) {i : Nat} (h : i < L.length) : (L.map f).getD i d = f L[i] := by
  rw [List.getD_eq_getElem?_getD, List.getElem?_map, List.getElem?_eq_getElem h]; rfl
theorem atI_map {α : Type} {L : List α} (f : α → D) {i : Nat} (h : i < L.length) : L2.atI (L.map f) (i : Int) = some (f L[i]) := by
  unfold L2.atI L2.ixN
  rw [if_pos (by omega), if_pos (by rw [List.length_map]; omega)]
  show (L.map f)[((i : Int)).toNat]? = _
  rw [Int.toNat_natCast, List.getElem?_map, List.getElem?_eq_getElem h]; rfl
/-- a comprehension with a condition -/
theorem lc_fil {it : ItA} {A1 : Ah} {g : AG} {c : AT} {e : AE} {vs : List Nat} {Γ : Gt} {q : D → Ah → Prop} (f : Nat → D) (pr : Nat → Bool) (hsrc : it.src = none) (hn : it.n ≤ big)
    (body : ∀ (i : Nat) (A' : Ah) (k : D → Ah → Prop) (sk : Ah → Prop), i < it.n → Ext A1 A' → (pr i = true → k (f i) A') → (pr i = false → sk A') → g (it.item i) (wipeG Γ vs) A' fun Γ2 A2 => c Γ2 A2 (fun b A3 => bsel b (e Γ2 A3 k fun _ _ => False) (sk A3)) fun _ _ => False)
    (done : ∀ p, A1 p = none → q (.ref p) (updA A1 p (.lst (((List.range it.n).filter pr).map f)))) :
    lcR it A1 g c e vs Γ q := by
  unfold lcR
  intro p hp
  refine ⟨fun i acc A' => acc = ((List.range i).filter pr).map f ∧ A' = updA A1 p (.lst acc), ⟨rfl, rfl⟩, ?_, ?_, ?_⟩
  · rintro i acc A' _ ⟨rfl, rfl⟩
    refine ⟨?_, updA_same⟩
    unfold ItA.still
    rw [hsrc]
    trivial
  · rintro i acc A' hi ⟨rfl, rfl⟩
    have hr : (List.range (i + 1)).filter pr = (List.range i).filter pr ++ if pr i = true then [i] else [] := by
      rw [List.range_succ, List.filter_append]
      congr 1
      cases h : pr i <;> simp [h]
    refine body i _ _ (fun A3 => ∃ ac, A3 p = some (.lst ac) ∧ ac = ((List.range (i + 1)).filter pr).map f ∧ A3 = updA A1 p (.lst ac)) hi (fun b d h => ?_) (fun hpr => ⟨_, updA_same, ?_, ?_, updA_updA⟩) (fun hpr => ⟨_, updA_same, ?_, rfl⟩)
    · rw [updA_ne (fun z => by rw [z, hp] at h; cases h)]; exact h
    · have := List.length_filter_le pr (List.range i)
      rw [List.length_range] at this
      rw [List.length_map]; omega
    · rw [hr, if_pos hpr, List.map_append]; rfl
    · rw [hr, if_neg (by rw [hpr]; decide), List.append_nil]
  · rintro acc A' ⟨rfl, rfl⟩
    exact done p hp
def optP {α : Type} (p : α → Bool) : Option α → Bool
  | some b => p b
  | none => false
theorem flt_len {α : Type} (p : α → Bool) : ∀ L : List α, ((List.range L.length).filter fun i => optP p L[i]?).length = L.countP p
  | [] => rfl
  | a :: r => by
    have ih := flt_len p r
    rw [List.length_cons, List.range_succ_eq_map, List.filter_cons, List.filter_map, List.countP_cons]
    have e : ((fun i => optP p (a :: r)[i]?) ∘ Nat.succ) = fun i => optP p r[i]? := rfl
    rw [e]
    have h0 : optP p (a :: r)[0]? = p a := rfl
    rw [h0]
    cases h : p a with
    | true => simp only [if_true, List.length_cons, List.length_map]; rw [ih]
    | false => simp only [Bool.false_eq_true, if_false, List.length_map]; rw [ih]; rfl
/-! ### cuts -/
theorem cut_to {α : Type} {xs : List α} {k : Nat} : cutD xs none (some (k : Int)) = xs.take k := by
  unfold cutD
  rw [HT.sIx_nat, HT.sIx_none, List.drop_zero, Nat.sub_zero, ← List.take_take, List.take_length]
theorem cut_from {α : Type} {xs : List α} {k : Nat} : cutD xs (some (k : Int)) none = xs.drop k := by
  unfold cutD
  rw [HT.sIx_nat, HT.sIx_none, List.take_of_length_le (by rw [List.length_drop]; omega)]
  by_cases h : k ≤ xs.length
  · rw [Nat.min_eq_left h]
  · rw [Nat.min_eq_right (by omega), List.drop_length, List.drop_eq_nil_of_le (by omega)]
theorem cut_mid {α : Type} {xs : List α} {k m : Nat} : cutD xs (some (k : Int)) (some (m : Int)) = (xs.drop k).take (m - k) := by
  unfold cutD
  rw [HT.sIx_nat, HT.sIx_nat]
  by_cases h : k ≤ xs.length
  · rw [Nat.min_eq_left h]
    by_cases g : m ≤ xs.length
    · rw [Nat.min_eq_left g]
    · rw [Nat.min_eq_right (by omega), List.take_of_length_le (by rw [List.length_drop]; omega), List.take_of_length_le (by rw [List.length_drop]; omega)]
  · rw [Nat.min_eq_right (a := k) (by omega), List.drop_length, List.take_nil, List.drop_eq_nil_of_le (by omega), List.take_nil]
theorem cut_map {α β : Type} {xs : List α} {f : α → β} {lo hi : Option Int} : cutD (xs.map f) lo hi = (cutD xs lo hi).map f := by
  unfold cutD
  rw [List.length_map, List.map_take, List.map_drop]
theorem toN {i : Int} (h : 0 ≤ i) : ∃ k : Nat, i = k := Int.eq_ofNat_of_zero_le h
/-! ### lists without doubles -/
theorem nodup_len {α : Type} [DecidableEq α] : ∀ {l m : List α}, l.Nodup → (∀ a ∈ l, a ∈ m) → l.length ≤ m.length
  | [], _, _, _ => Nat.zero_le _
  | a :: r, m, h, s => by
    have hm : a ∈ m := s a List.mem_cons_self
    obtain ⟨h1, h2⟩ := List.nodup_cons.mp h
    have := nodup_len (m := m.erase a) h2 fun b hb => (List.mem_erase_of_ne (fun z => h1 (by rw [← z]; exact hb))).mpr (s b (List.mem_cons_of_mem _ hb))
    rw [List.length_erase_of_mem hm] at this
    have := List.length_pos_of_mem hm
    rw [List.length_cons]
    omega
/-! ### dicts of texts to numbers -/
abbrev kS (c : List Nat) : Key := .inr ⟨c.toArray⟩
theorem kS_inj {c d : List Nat} (h : kS c = kS d) : c = d := by
  have h : (⟨c.toArray⟩ : Str) = ⟨d.toArray⟩ := Sum.inr.inj h
  have h : c.toArray = d.toArray := congrArg (fun s : Str => s.cps) h
  simpa using h
structure Mp (kvs : List (Key × D)) (f : List Nat → Option Int) : Prop where
  nd : (kvs.map (·.1)).Nodup
  ks : ∀ k ∈ kvs.map (·.1), ∃ c, k = kS c
  get : ∀ c, getD' kvs (kS c) = (f c).map D.int
theorem getD'_none {kvs : List (Key × D)} {k : Key} : getD' kvs k = none ↔ k ∉ kvs.map (·.1) := by
  unfold getD'
  rw [Option.map_eq_none_iff, List.find?_eq_none]
  constructor
  · intro h m
    obtain ⟨p, hp, e⟩ := List.mem_map.mp m
    exact h p hp (by simpa using e)
  · intro h p hp z
    exact h (List.mem_map.mpr ⟨p, hp, by simpa using z⟩)
theorem any_key {kvs : List (Key × D)} {k : Key} : (kvs.any fun kv => decide (kv.1 = k)) = true ↔ k ∈ kvs.map (·.1) := by
  rw [List.any_eq_true, List.mem_map]
  constructor
  · rintro ⟨p, h, e⟩; exact ⟨p, h, by simpa using e⟩
  · rintro ⟨p, h, e⟩; exact ⟨p, h, by simpa using e⟩
theorem putD_keys {kvs : List (Key × D)} {k : Key} {v : D} : (k ∈ kvs.map (·.1) ∧ (putD kvs k v).map (·.1) = kvs.map (·.1)) ∨ (k ∉ kvs.map (·.1) ∧ (putD kvs k v).map (·.1) = kvs.map (·.1) ++ [k]) := by
  unfold putD
  by_cases h : k ∈ kvs.map (·.1)
  · refine .inl ⟨h, ?_⟩
    rw [if_pos (any_key.mpr h), List.map_map]
    apply List.map_congr_left
    intro p _
    show (if p.1 = k then (p.1, v) else p).1 = p.1
    split <;> rfl
  · refine .inr ⟨h, ?_⟩
    rw [if_neg (fun z => h (any_key.mp z)), List.map_append]; rfl
theorem putD_get {kvs : List (Key × D)} {k k' : Key} {v : D} : getD' (putD kvs k v) k' = if k' = k then some v else getD' kvs k' := by
  unfold putD
  by_cases h : k ∈ kvs.map (·.1)
  · rw [if_pos (any_key.mpr h)]
    induction kvs with
    | nil => cases h
    | cons p r ih =>
      unfold getD' at ih ⊢
      rw [List.map_cons, List.find?_cons, List.find?_cons]
      by_cases e : p.1 = k
      · by_cases e' : k' = k
        · simp [e, e']
        · have : ¬ p.1 = k' := fun z => e' (by rw [← z, e])
          have h2 : ¬ k = k' := fun z => e' z.symm
          simp only [e, if_true, h2, e', if_false, decide_false]
          by_cases hr : k ∈ r.map (·.1)
          · have := ih hr
            rw [if_neg e'] at this
            exact this
          · have : r.map (fun kv => if kv.1 = k then (kv.1, v) else kv) = r := by
              rw [List.map_congr_left (g := id) (fun q hq => if_neg fun (z : q.1 = k) => hr (z ▸ List.mem_map_of_mem hq)), List.map_id]
            rw [this]
      · have hr : k ∈ r.map (·.1) := by
          rcases List.mem_cons.mp h with z | z
          · exact (e z.symm).elim
          · exact z
        simp only [e, if_false]
        by_cases e2 : p.1 = k'
        · have : ¬ k' = k := fun z => e (e2.trans z)
          simp [e2, this]
        · simp only [e2, decide_false]
          exact ih hr
  · rw [if_neg (fun z => h (any_key.mp z))]
    unfold getD'
    rw [List.find?_append]
    by_cases e : k' = k
    · subst e
      have : getD' kvs k' = none := getD'_none.mpr h
      unfold getD' at this
      rw [Option.map_eq_none_iff] at this
      simp [this]
    · have : ¬ k = k' := fun z => e z.symm
      simp [e, this]
theorem putD_len {kvs : List (Key × D)} {k : Key} {v : D} : (putD kvs k v).length ≤ kvs.length + 1 := by
  unfold putD
  split <;> simp
theorem putD_len' {kvs : List (Key × D)} {k : Key} {v : D} (h : getD' kvs k ≠ none) : (putD kvs k v).length = kvs.length := by
  have hm : k ∈ kvs.map (·.1) := by
    by_cases m : k ∈ kvs.map (·.1)
    · exact m
    · exact (h (getD'_none.mpr m)).elim
  unfold putD
  rw [if_pos (any_key.mpr hm), List.length_map]
theorem Mp.nil : Mp [] fun _ => none := ⟨List.nodup_nil, nofun, fun _ => rfl⟩
theorem Mp.put {kvs : List (Key × D)} {f : List Nat → Option Int} (h : Mp kvs f) (c : List Nat) (i : Int) : Mp (putD kvs (kS c) (.int i)) fun d => if d = c then some i else f d where
  nd := by
    rcases putD_keys (kvs := kvs) (k := kS c) (v := .int i) with ⟨hm, e⟩ | ⟨hm, e⟩
    · rw [e]; exact h.nd
    · rw [e]; exact List.nodup_append.mpr ⟨h.nd, by simp, fun a ha b hb => by rw [List.mem_singleton.mp hb]; exact fun z => hm (by rw [← z]; exact ha)⟩
  ks := fun k hk => by
    rcases putD_keys (kvs := kvs) (k := kS c) (v := .int i) with ⟨hm, e⟩ | ⟨hm, e⟩
    · rw [e] at hk; exact h.ks k hk
    · rw [e] at hk
      rcases List.mem_append.mp hk with m | m
      · exact h.ks k m
      · exact ⟨c, List.mem_singleton.mp m⟩
  get := fun d => by
    rw [putD_get]
    by_cases e : d = c
    · subst e; rw [if_pos rfl, if_pos rfl]; rfl
    · rw [if_neg (fun z => e (kS_inj z)), if_neg e]; exact h.get d
theorem Mp.mem {kvs : List (Key × D)} {f : List Nat → Option Int} (h : Mp kvs f) {c : List Nat} : kS c ∈ kvs.map (·.1) ↔ f c ≠ none := by
  have := getD'_none (kvs := kvs) (k := kS c)
  rw [h.get, Option.map_eq_none_iff] at this
  constructor
  · intro m e; exact this.mp e m
  · intro e
    by_cases m : kS c ∈ kvs.map (·.1)
    · exact m
    · exact (e (this.mpr m)).elim
theorem Mp.le {kvs es : List (Key × D)} {f : List Nat → Option Int} (h : Mp kvs f) (g : Mp es f) : kvs.length ≤ es.length := by
  have := nodup_len (l := kvs.map (·.1)) (m := es.map (·.1)) h.nd fun k hk => by
    obtain ⟨c, rfl⟩ := h.ks k hk
    exact g.mem.mpr (h.mem.mp hk)
  simpa using this
theorem Mp.len {kvs es : List (Key × D)} {f : List Nat → Option Int} (h : Mp kvs f) (g : Mp es f) : kvs.length = es.length := Nat.le_antisymm (h.le g) (g.le h)
theorem Mp.congr {kvs : List (Key × D)} {f g : List Nat → Option Int} (h : Mp kvs f) (e : ∀ c, f c = g c) : Mp kvs g := ⟨h.nd, h.ks, fun c => by rw [← e]; exact h.get c⟩
theorem keyOf_str {c : List Nat} : keyOf (.str c) = some (kS c) := rfl
end GA

namespace GA
open PySem PySem.Spec PyProof.Rows L2 GV TL
/-! ### how many truth values of a list are this one -/
def cntR (K : Fg) : V → List V → Hp → VK → Prop := fun x xs H Q => ∃ (a : Addr) (bs : List Bool) (k : Bool), x = .ref a ∧ xs = [.bl k] ∧ SqL K H a (bs.map V.bl) ∧ Q (.int (bs.count k : Nat)) H
theorem blsV : ∀ {bs : List Bool} {us : List Value}, Vals (bs.map V.bl) us → us = bs.map Value.bool
  | [], _, h => by cases h; rfl
  | b :: r, _, h => by
    cases h with
    | cons h1 h2 =>
      cases h1
      rw [blsV h2]
      rfl
theorem blsCount (k : Bool) : ∀ bs : List Bool, (bs.map Value.bool).countP (PyProof.Rows.isBoolOf k) = bs.count k
  | [] => rfl
  | b :: r => by
    have e : PyProof.Rows.isBoolOf k (.bool b) = (b == k) := rfl
    rw [List.map_cons, List.countP_cons, List.count_cons, blsCount k r, e]
section
variable {X : Cx}
theorem mt_cntB : MtR X "list.count" (cntR X.K) := by
  intro pins s σ H x xs v us Q I hx hxs h
  obtain ⟨a, bs, k, rfl, rfl, hs, hq⟩ := h
  cases hx
  obtain ⟨u, rfl, hu⟩ := hxs.one
  cases hu
  obtain ⟨its, hv, hp, hn⟩ := I.list hs
  have hb := blsV hv
  subst hb
  obtain ⟨⟨cl, dd, dt, sl⟩, n, g1, g2, g3, g4⟩ := hp
  dsimp only at g2 g4
  subst g2
  subst g4
  refine call_meets PySem.F.slot_list_count ⟨_, g1, rfl⟩ PySem.F.entry_list_count (PySem.F.args_list_count_2 _ _) (PySem.SeqAt.list_countAt a (bs.map Value.bool).toArray n dd sl (.bool k) (PyProof.Rows.isBoolOf k)) ⟨g1, fun y hy => ?_, ?_⟩
  · have hy : y ∈ bs.map Value.bool := by simpa using hy
    obtain ⟨b, _, rfl⟩ := List.mem_map.mp hy
    exact PySem.SeqAt.EqAt.bool_bool b k
  · refine ⟨.int (bs.count k : Nat), H, I.tok _, ⟨s.toks, ?_⟩, hq⟩
    show Value.int (((bs.map Value.bool).countP (PyProof.Rows.isBoolOf k) : Nat) : Int) s.toks = _
    rw [blsCount]
end
def aCount : A1m := fun d ds A q => match d, ds with
  | .ref a, [.bl k] => onL A a fun xs => ∃ bs : List Bool, xs = bs.map D.bl ∧ q (.int (bs.count k : Nat)) A
  | _, _ => False
theorem blsD {K : Fg} {H : Hp} : ∀ {bs : List Bool} {vs : List V}, Vls K H vs (bs.map D.bl) → vs = bs.map V.bl
  | [], _, .nil => rfl
  | _ :: _, _, .cons h t => by cases h; rw [blsD t]; rfl
theorem sim_count {K : Fg} : SimM K "list" (cntR K) aCount := by
  intro H A v d vs ds q Q R hv hvs h k
  unfold aCount at h
  split at h
  · obtain ⟨w, rfl, hw⟩ := hvs.one
    obtain ⟨xs, ha, bs, rfl, h⟩ := h
    obtain ⟨ws, e1, r1⟩ := R.lst ha
    have := blsD r1
    subst this
    cases hv
    cases hw
    exact ⟨_, bs, _, rfl, rfl, SqL.of e1, k _ _ _ A .rfl R (.int _) h⟩
  · exact h.elim
/-! ### sum of a list of numbers -/
def aSum : A1c := fun ds A q => match ds with
  | [.ref a] => onL A a fun xs => ∃ ns : List Int, xs = ns.map D.int ∧ q (.int ns.sum) A
  | _ => False
theorem sim_sum {K : Fg} : SimC K (rSum K) aSum := by
  intro H A vs ds q Q R hv h k
  unfold aSum at h
  split at h
  · obtain ⟨v, rfl, h1⟩ := hv.one
    obtain ⟨xs, ha, ns, rfl, h⟩ := h
    obtain ⟨ws, e1, r1⟩ := R.lst ha
    have := intsV r1
    subst this
    cases h1
    exact ⟨_, ns, rfl, SqL.of e1, k _ _ _ A .rfl R (.int _) h⟩
  · exact h.elim
section
variable {X : Cx} {W : WX}
theorem ba_sum (hc : X.calm = true) : BltA X (.builtin "sum") (rSum X.K) aSum := ⟨cr_sum hc, sim_sum⟩
theorem ml_count : MthL X "count" "list.count" (cntR X.K) aCount := ⟨PySem.F.slot_list_count, PySem.F.type_list_count, mt_cntB, sim_count⟩
end
/-! ### list(range(i, j)) -/
theorem rgD {K : Fg} {H : Hp} (i j : Int) : Vls K H (rgV i j) ((List.range (j - i).toNat).map fun k => D.int (i + (k : Nat))) := by
  unfold rgV
  generalize List.range (j - i).toNat = l
  induction l with
  | nil => exact .nil
  | cons k r ih => exact .cons (.int _) ih
def aLRng2 (a b : AE) : AE := fun Γ A q x => a Γ A (fun d A1 => b Γ A1 (fun e A2 => match d, e with
  | .int i, .int j => (0 ≤ i ∧ i ≤ 16777216 ∧ 0 ≤ j ∧ j ≤ 16777216) ∧ newL A2 ((List.range (j - i).toNat).map fun k => D.int (i + (k : Nat))) q
  | _, _ => False) x) x
section
variable {X : Cx} {W : WX} {a b : Expr} {ta tb : TE} {aa ab : AE} {p p2 pos pos2 : Pos}
theorem ga_lrng2 (hc : X.calm = true) (ha : PEA X W a ta aa) (hb : PEA X W b tb ab) (hm : X.mg "range" = none) (hm2 : X.mg "list" = none) (hg : Gl X "range" := by rfl) (hg2 : Gl X "list" := by rfl)
    (na : starEach [a, b] X.env = (false, eval a X.env) :: starEach [b] X.env := by rfl) (nb : starEach [b] X.env = (false, eval b X.env) :: starEach [] X.env := by rfl) (hpl : (backTo pos (starEach [b] X.env)).any (·.1) = false := by rfl)
    (ne : starEach [(.Call (.Name "range" p) [a, b] [] pos : Expr)] X.env = (false, eval (.Call (.Name "range" p) [a, b] [] pos) X.env) :: starEach [] X.env := by rfl) :
    PEA X W (.Call (.Name "list" p2) [.Call (.Name "range" p) [a, b] [] pos] [] pos2) (tLstRg (tRg2 ta tb)) (aLRng2 aa ab) where
  pe := pe_listRg hc hg2 hm2 (prg_2 hg hm ha.pe hb.pe na nb hpl) ne
  sim := fun σ H Γ A q x Q R S h k kx => ha.sim σ H Γ A _ x _ R S h (fun H1 v d A1 n1 R1 v1 h1 => hb.sim σ H1 Γ A1 _ x _ R1 (S.mono n1) h1 (fun H2 w e A2 n2 R2 v2 h2 => by
    split at h2
    · rename_i i j
      cases v1
      cases v2
      obtain ⟨⟨b1, b2, b3, b4⟩, h2⟩ := h2
      exact ⟨_, _, rfl, rfl, RgOk.of_le b1 b4 b2 b3, fun r hr => k _ _ _ _ ((n1.trans n2).trans (.new hr)) (R2.new hr (.lst (rgD i j))) (.ref r) (h2 r (R2.none hr))⟩
    · exact h2.elim) fun H2 e A2 n2 R2 h2 => kx H2 e A2 (n1.trans n2) R2 h2) kx
end
/-! ### {"k": v, ..} -/
def dispK (ks : List (List Nat)) (ds : List D) : List (Key × D) := (ks.zip ds).foldl (fun acc kv => putD acc (kS kv.1) kv.2) []
def aDisp (ks : List (List Nat)) (as : AA) : AE := fun Γ A q x => ∀ p, A p = none → as Γ (updA A p (.dic [])) (fun ds A2 => A2 p = some (.dic []) ∧ q (.ref p) (updA A2 p (.dic (dispK ks ds)))) x
structure PDA (X : Cx) (W : WX) (pos : Pos) (keys : List (Option Expr)) (values : List Expr) (trs : List (TE × TE)) (ks : List (List Nat)) (aa : AA) : Prop where
  pps : PPs X pos keys values trs
  sim : ∀ (σ : L2.St) (H : Hp) (Γ : Gt) (A : Ah) (q : List D → Ah → Prop) (x : AX) (Q : List (V × V) → Hp → Prop), RelA X.K H A → Slots X.K H σ Γ → aa Γ A q x →
    (∀ H' (us : List Str) vs ds A', Nxt X.K H H' → RelA X.K H' A' → us.map tl = ks → us.length = vs.length → Vls X.K H' vs ds → q ds A' → Q ((us.zip vs).map fun kv => (V.str kv.1, kv.2)) H') → (∀ H' e A', Nxt X.K H H' → RelA X.K H' A' → x e A' → W (exC X.K e) (some e.d) σ H') → tPairs trs σ H Q
section
variable {X : Cx} {W : WX} {pos : Pos} {keys : List (Option Expr)} {values : List Expr} {trs : List (TE × TE)} {ks : List (List Nat)} {aa : AA} {v : Expr} {tv : TE} {av : AE}
theorem gd_nil : PDA X W pos [] [] [] [] aNil := ⟨pps_nil, fun σ H Γ A q x Q R S h k _ => k H [] [] [] A .rfl R rfl rfl .nil h⟩
theorem gd_cons {key : Str} {j : Nat} {kp : Pos} (hv : PEA X W v tv av) (h : PDA X W pos keys values trs ks aa) : PDA X W pos (some (.Constant (.str key) j kp) :: keys) (v :: values) ((tC (.str key), tv) :: trs) (tl key :: ks) (aCons av aa) where
  pps := pps_cons pe_str hv.pe h.pps
  sim := fun σ H Γ A q x Q R S hh k kx => hv.sim σ H Γ A _ x _ R S hh (fun H1 w d A1 n1 R1 v1 h1 => h.sim σ H1 Γ A1 _ x _ R1 (S.mono n1) h1 (fun H2 us vs ds A2 n2 R2 eu el v2 h2 => k H2 (key :: us) (w :: vs) (d :: ds) A2 (n1.trans n2) R2 (by rw [List.map_cons, eu]) (by rw [List.length_cons, List.length_cons, el]) (.cons (v1.mono n2) v2) h2) fun H2 e A2 n2 R2 h2 => kx H2 e A2 (n1.trans n2) R2 h2) kx
theorem kS_tl (u : Str) : kS (tl u) = (Sum.inr u : Key) := by
  show (Sum.inr (⟨(tl u).toArray⟩ : Str) : Key) = _
  rw [mk_tl]
theorem disp_rel {K : Fg} {H : Hp} : ∀ (us : List Str) {vs : List V} {ds : List D} {ws : List (Key × V)} {kvs : List (Key × D)}, Vls K H vs ds → us.length = vs.length → RelKV K H ws kvs →
    RelKV K H (((us.zip vs).map fun kv => ((Sum.inr kv.1 : Key), kv.2)).foldl (fun acc kv => putK acc kv.1 kv.2) ws) (((us.map tl).zip ds).foldl (fun acc kv => putD acc (kS kv.1) kv.2) kvs)
  | [], _, _, _, _, _, _, h => h
  | u :: us, _, _, _, _, .nil, e, _ => by cases e
  | u :: us, _, _, _, _, .cons h1 h2, e, h => by
    rw [List.map_cons, List.zip_cons_cons, List.zip_cons_cons, List.map_cons, List.foldl_cons, List.foldl_cons, kS_tl]
    exact disp_rel us h2 (by simpa using e) (relkv_put h h1)
theorem ga_disp (h : PDA X W pos keys values trs ks aa) (hall : keys.all (·.isSome) = true := by rfl) (hl : keys.length = values.length := by rfl) (h0 : keys ≠ [] := by nofun) (h15 : keys.length ≤ 15 := by decide) (hk : ks.length = keys.length := by rfl) :
    PEA X W (.Dict keys values pos) (tDisp trs) (aDisp ks aa) where
  pe := pe_disp h.pps hall hl h0 h15
  sim := fun σ H Γ A q x Q R S hh k kx p hp => by
    have n0 : Nxt X.K H (upd H p (.dK [])) := .new hp
    refine h.sim σ _ Γ _ _ x _ (R.new hp (.dic .nil)) (S.mono n0) (hh p (R.none hp)) (fun H2 us vs ds A2 n2 R2 eu el v2 h2 => ?_) fun H2 e A2 n2 R2 h2 => kx H2 e A2 (n0.trans n2) R2 h2
    obtain ⟨e2, h2⟩ := h2
    obtain ⟨ws, e3, r3⟩ := R2.dic e2
    cases r3
    have ul : us.length = ks.length := by rw [← eu, List.length_map]
    refine ⟨e3, (us.zip vs).map fun kv => ((Sum.inr kv.1 : Key), kv.2), ?_, ?_, ?_⟩
    · rw [List.map_map]; rfl
    · rw [List.length_map, List.length_zip]; omega
    · have n4 : Nxt X.K H2 (upd H2 p (.dK (mergeK [] ((us.zip vs).map fun kv => ((Sum.inr kv.1 : Key), kv.2))))) := .set e3 noTup_dK
      refine k _ _ _ _ ((n0.trans n2).trans n4) (R2.set e3 noTup_dK (.dic ?_)) (.ref p) h2
      have := disp_rel us v2 el (ws := []) (kvs := []) .nil
      rw [eu] at this
      exact this
end
/-! ### x *= e; a, b, c = x, y, z -/
def aAugM (i : Nat) (a : AE) : AS := fun D Γ A => match Γ[i]? with
  | some (some (.int m)) => a Γ A (fun d A1 => match d with
    | .int n => (-18446744073709551616 < n ∧ n < 18446744073709551616) ∧ D.nx (Γ.set i (some (.int (m * n)))) A1
    | _ => False) fun e A' => D.ex e Γ A'
  | _ => False
theorem ip_mulI {X : Cx} : PIp X .Mult (rI CMul fun i j => .int (i * j)) := fun pins s σ H x y v u Q I r1 r2 h => iop_mul pins s σ H x y v u Q I r1 r2 h
section
variable {X : Cx} {W : WX} {e : Expr} {te : TE} {ae : AE} {pos pos' : Pos}
theorem gs_augM {i : Nat} {x : Str} (hN : X.N.Nodup) (h : PEA X W e te ae) (hi : X.N[i]? = some x := by rfl) (hl : L2.Loc X.env.scope x := by first | exact Or.inl rfl | exact Or.inr rfl)
    (hf : X.fn x = true ∨ List.lookup x X.env.scope.names = some NameKind.local := by first | exact Or.inl rfl | exact Or.inr rfl) : PSA X W (.AugAssign (.Name x pos') .Mult e pos) (tAug i te (rI CMul fun i j => .int (i * j))) (aAugM i ae) :=
  ⟨ps_aug hN hi hl h.pe ip_mulI hf, fun D AD σ H Γ A R S hh k => by
    unfold aAugM at hh
    split at hh
    · rename_i m e1
      obtain ⟨v, e2, hv⟩ := S.get i _ e1
      cases hv
      refine ⟨_, e2, h.sim σ H Γ A _ _ _ R S hh (fun H1 w d A1 n1 R1 v1 h1 => ?_) fun H' e A' n R' h' => k.ex e σ H' Γ A' n R' (S.mono n) h'⟩
      cases d with
      | int n =>
        cases v1
        obtain ⟨⟨b1, b2⟩, h1⟩ := h1
        exact ⟨m, n, rfl, rfl, .inr ⟨by omega, by omega⟩, k.nx _ H1 _ A1 n1 R1 ((S.mono n1).set (.int _)) h1⟩
      | _ => exact h1.elim
    · exact hh.elim⟩
def aPar3 (i j l : Nat) (aa : AA) : AS := fun D Γ A => aa Γ A (fun ds A1 => match ds with
  | [d, e, f] => D.nx (((Γ.set i (some d)).set j (some e)).set l (some f)) A1
  | _ => False) fun e A' => D.ex e Γ A'
def aPar2 (i j : Nat) (aa : AA) : AS := fun D Γ A => aa Γ A (fun ds A1 => match ds with
  | [d, e] => D.nx ((Γ.set i (some d)).set j (some e)) A1
  | _ => False) fun e A' => D.ex e Γ A'
theorem gs_par2 {i j : Nat} {x y : Str} {a b : Expr} {ta : TA} {aa : AA} {px py pt pos : Pos} {kt k2 pt2} (hc : X.calm = true) (hN : X.N.Nodup) (ha : PAA X W [a, b] ta aa) (hi : X.N[i]? = some x := by rfl) (hj : X.N[j]? = some y := by rfl) (hij : i ≠ j := by decide)
    (hx : X.env.scope.names.lookup x = some .local := by rfl) (hy : X.env.scope.names.lookup y = some .local := by rfl)
    (hw : swappedStores [.Tuple [.Name x px, .Name y py] kt pt] (.Tuple [a, b] k2 pt2) X.env = pure (some [x, y]) := by rfl)
    (hs : swapsWithSole [.Tuple [.Name x px, .Name y py] kt pt] (.Tuple [a, b] k2 pt2) pos.line X.env = pure false := by rfl) :
    PSA X W (.Assign [.Tuple [.Name x px, .Name y py] kt pt] (.Tuple [a, b] k2 pt2) pos) (tPar i j ta) (aPar2 i j aa) :=
  ⟨ps_par hc hN hi hj hij hx hy ha.pe hw hs, fun D AD σ H Γ A R S hh k => ha.sim σ H Γ A _ _ _ R S hh (fun H1 vs ds A1 n1 R1 v1 h1 => by
    split at h1
    · rename_i d e
      obtain ⟨v, w, rfl, r1, r2⟩ := v1.two
      exact ⟨v, w, rfl, k.nx _ H1 _ A1 n1 R1 (((S.mono n1).set r1).set r2) h1⟩
    · exact h1.elim) fun H' e A' n R' h' => k.ex e σ H' Γ A' n R' (S.mono n) h'⟩
theorem gs_par3 {i j l : Nat} {x y z : Str} {a b c : Expr} {ta : TA} {aa : AA} {px py pz pt pos : Pos} {kt k2 pt2} (hc : X.calm = true) (hN : X.N.Nodup) (ha : PAA X W [a, b, c] ta aa) (hi : X.N[i]? = some x := by rfl) (hj : X.N[j]? = some y := by rfl) (hl : X.N[l]? = some z := by rfl) (hij : i ≠ j := by decide) (hil : i ≠ l := by decide) (hjl : j ≠ l := by decide)
    (hx : X.env.scope.names.lookup x = some .local := by rfl) (hy : X.env.scope.names.lookup y = some .local := by rfl) (hz : X.env.scope.names.lookup z = some .local := by rfl)
    (hw : swappedStores [.Tuple [.Name x px, .Name y py, .Name z pz] kt pt] (.Tuple [a, b, c] k2 pt2) X.env = pure (some [x, y, z]) := by rfl)
    (hs : swapsWithSole [.Tuple [.Name x px, .Name y py, .Name z pz] kt pt] (.Tuple [a, b, c] k2 pt2) pos.line X.env = pure false := by rfl) :
    PSA X W (.Assign [.Tuple [.Name x px, .Name y py, .Name z pz] kt pt] (.Tuple [a, b, c] k2 pt2) pos) (tPar3 i j l ta) (aPar3 i j l aa) :=
  ⟨ps_par3 hc hN hi hj hl hij hil hjl hx hy hz ha.pe hw hs, fun D AD σ H Γ A R S hh k => ha.sim σ H Γ A _ _ _ R S hh (fun H1 vs ds A1 n1 R1 v1 h1 => by
    split at h1
    · rename_i d e f
      cases v1 with
      | cons r1 v2 =>
        obtain ⟨v, w, rfl, r2, r3⟩ := v2.two
        exact ⟨_, v, w, rfl, k.nx _ H1 _ A1 n1 R1 ((((S.mono n1).set r1).set r2).set r3) h1⟩
    · exact h1.elim) fun H' e A' n R' h' => k.ex e σ H' Γ A' n R' (S.mono n) h'⟩
end
end GA

namespace LW
open PySem PySem.Spec PyProof.Rows L2 GV TL GA
/-! generated by gen.py -/
def top (i : Nat) : Stmt := PySem.Challenge.pw_grantedbyturns_k21_counts_of_frames.main.body.getD i (.Pass ⟨0, 0, 0, 0⟩)
abbrev st_factorial_of : Stmt := top 27
abbrev st_frame_tables : Stmt := top 29
abbrev st__law_mix : Stmt := top 34
abbrev st__law_equal : Stmt := top 38
abbrev st__law_error : Stmt := top 39
abbrev st__law_sequences : Stmt := top 40
abbrev st_frames_over : Stmt := top 30
abbrev st__law_store : Stmt := top 35
abbrev st__law_take : Stmt := top 36
abbrev st__law_frames : Stmt := top 41
abbrev st_check_number : Stmt := top 28
abbrev st__law_shuffle : Stmt := top 37
abbrev st__law_outside : Stmt := top 44
abbrev st_frame_count : Stmt := top 31
abbrev st_short_count : Stmt := top 32
abbrev st__law_tried : Stmt := top 42
abbrev st__law_countsright : Stmt := top 43
abbrev st_law : Stmt := top 45
theorem sc_factorial_of : FnScope ["number", "total", "factor"] ["number"] (defScope st_factorial_of) := ⟨rfl, rfl, rfl, by decide +kernel, rfl, by decide +kernel, by decide +kernel⟩
theorem sc_frame_tables : FnScope ["size", "alls", "plains", "chains", "firsts", "backs", "rounds", "many", "first", "back", "turn", "part", "count", "zeros", "some", "kinds"] ["size"] (defScope st_frame_tables) := ⟨rfl, rfl, rfl, by decide +kernel, rfl, by decide +kernel, by decide +kernel⟩
theorem sc__law_mix : FnScope ["number", "large", "value"] ["number"] (defScope st__law_mix) := ⟨rfl, rfl, rfl, by decide +kernel, rfl, by decide +kernel, by decide +kernel⟩
theorem sc__law_equal : FnScope ["got", "due", "stack", "k", "one", "two", "x", "i"] ["got", "due"] (defScope st__law_equal) := ⟨rfl, rfl, rfl, by decide +kernel, rfl, by decide +kernel, by decide +kernel⟩
theorem sc__law_error : FnScope ["e", "flags"] ["e"] (defScope st__law_error) := ⟨rfl, rfl, rfl, by decide +kernel, rfl, by decide +kernel, by decide +kernel⟩
theorem sc__law_sequences : FnScope ["ones", "most", "any_many", "n", "i"] ["ones", "most"] (defScope st__law_sequences) := ⟨rfl, rfl, rfl, by decide +kernel, rfl, by decide +kernel, by decide +kernel⟩
theorem sc_frames_over : FnScope ["number", "alls", "kinds"] ["number"] (defScope st_frames_over) := ⟨rfl, rfl, rfl, by decide +kernel, rfl, by decide +kernel, by decide +kernel⟩
theorem sc__law_store : FnScope ["script", "wide", "store", "cell", "amount", "sign"] ["script"] (defScope st__law_store) := ⟨rfl, rfl, rfl, by decide +kernel, rfl, by decide +kernel, by decide +kernel⟩
theorem sc__law_take : FnScope ["store", "many", "found"] ["store", "many"] (defScope st__law_take) := ⟨rfl, rfl, rfl, by decide +kernel, rfl, by decide +kernel, by decide +kernel⟩
theorem sc__law_frames : FnScope ["every", "lower", "n", "first", "back", "turns", "i"] [] (defScope st__law_frames) := ⟨rfl, rfl, rfl, by decide +kernel, rfl, by decide +kernel, by decide +kernel⟩
theorem sc_check_number : FnScope ["number", "low", "high"] ["number", "low", "high"] (defScope st_check_number) := ⟨rfl, rfl, rfl, by decide +kernel, rfl, by decide +kernel, by decide +kernel⟩
theorem sc__law_shuffle : FnScope ["store", "items", "rest", "found", "k"] ["store", "items"] (defScope st__law_shuffle) := ⟨rfl, rfl, rfl, by decide +kernel, rfl, by decide +kernel, by decide +kernel⟩
theorem sc__law_outside : FnScope ["store", "way", "far"] ["store"] (defScope st__law_outside) := ⟨rfl, rfl, rfl, by decide +kernel, rfl, by decide +kernel, by decide +kernel⟩
theorem sc_frame_count : FnScope ["number"] ["number"] (defScope st_frame_count) := ⟨rfl, rfl, rfl, by decide +kernel, rfl, by decide +kernel, by decide +kernel⟩
theorem sc_short_count : FnScope ["number"] ["number"] (defScope st_short_count) := ⟨rfl, rfl, rfl, by decide +kernel, rfl, by decide +kernel, by decide +kernel⟩
theorem sc__law_tried : FnScope ["which", "number", "e"] ["which", "number"] (defScope st__law_tried) := ⟨rfl, rfl, rfl, by decide +kernel, rfl, by decide +kernel, by decide +kernel⟩
theorem sc__law_countsright : FnScope ["number", "frames", "which", "orders", "k", "due"] ["number", "frames", "which"] (defScope st__law_countsright) := ⟨rfl, rfl, rfl, by decide +kernel, rfl, by decide +kernel, by decide +kernel⟩
theorem sc_law : FnScope ["script", "store", "frames", "number", "far", "which"] ["script"] (defScope st_law) := ⟨rfl, rfl, rfl, by decide +kernel, rfl, by decide +kernel, by decide +kernel⟩
/-- the classes that are raised; the classes that are asked of -/
def excs : List Str := ["BadNumber"]
def kits : List Str := ["GrantError", "BadName", "BadKind", "BadTree", "NoSubtree", "Twice", "TooMany", "BadText", "BadLot", "NoSuchLine", "BadLog", "BadNumber", "Mismatch", "BadMove", "BadTable", "NoTree", "BadMatrix", "NoGrant", "BadMachine", "BadWish", "NoCover", "Barred", "LastLine", "NoEdit"]
/-- what the walk asks of the text -/
structure Tx (K : Fg) (mg : Str → Option Value) (P : Program) (w : World) (base : Heap) : Prop where
  f_ValueError : mg "ValueError" = none
  f_abs : mg "abs" = none
  f_bool : mg "bool" = none
  f_dict : mg "dict" = none
  f_int : mg "int" = none
  f_isinstance : mg "isinstance" = none
  f_len : mg "len" = none
  f_list : mg "list" = none
  f_range : mg "range" = none
  f_str : mg "str" = none
  f_sum : mg "sum" = none
  f_tuple : mg "tuple" = none
  c_MOST : ∃ t, mg "MOST" = some (.int 12 t)
  n_GrantError : mg "GrantError" = some (.ref (He.ga K "GrantError"))
  n_BadName : mg "BadName" = some (.ref (He.ga K "BadName"))
  n_BadKind : mg "BadKind" = some (.ref (He.ga K "BadKind"))
  n_BadTree : mg "BadTree" = some (.ref (He.ga K "BadTree"))
  n_NoSubtree : mg "NoSubtree" = some (.ref (He.ga K "NoSubtree"))
  n_Twice : mg "Twice" = some (.ref (He.ga K "Twice"))
  n_TooMany : mg "TooMany" = some (.ref (He.ga K "TooMany"))
  n_BadText : mg "BadText" = some (.ref (He.ga K "BadText"))
  n_BadLot : mg "BadLot" = some (.ref (He.ga K "BadLot"))
  n_NoSuchLine : mg "NoSuchLine" = some (.ref (He.ga K "NoSuchLine"))
  n_BadLog : mg "BadLog" = some (.ref (He.ga K "BadLog"))
  n_BadNumber : mg "BadNumber" = some (.ref (He.ga K "BadNumber"))
  n_Mismatch : mg "Mismatch" = some (.ref (He.ga K "Mismatch"))
  n_BadMove : mg "BadMove" = some (.ref (He.ga K "BadMove"))
  n_BadTable : mg "BadTable" = some (.ref (He.ga K "BadTable"))
  n_NoTree : mg "NoTree" = some (.ref (He.ga K "NoTree"))
  n_BadMatrix : mg "BadMatrix" = some (.ref (He.ga K "BadMatrix"))
  n_NoGrant : mg "NoGrant" = some (.ref (He.ga K "NoGrant"))
  n_BadMachine : mg "BadMachine" = some (.ref (He.ga K "BadMachine"))
  n_BadWish : mg "BadWish" = some (.ref (He.ga K "BadWish"))
  n_NoCover : mg "NoCover" = some (.ref (He.ga K "NoCover"))
  n_Barred : mg "Barred" = some (.ref (He.ga K "Barred"))
  n_LastLine : mg "LastLine" = some (.ref (He.ga K "LastLine"))
  n_NoEdit : mg "NoEdit" = some (.ref (He.ga K "NoEdit"))
  x_BadNumber : ExcT0 P w K mg base "BadNumber" ["number"]
  exm : ∀ m ∈ excs, PySem.W.exmOne K (.ref (He.ga K m)) (.ref (He.ga K "GrantError")) = some true
  ec : ∀ c ∈ excs, EC K (He.ga K c)
  na_number : ∀ c ∈ excs, PySem.W.findIn K (.ref (He.ga K c)) "number" = some none
  kit : ∀ c ∈ excs, ∀ n ∈ kits, PySem.W.kitOne K (.ref (He.ga K c)) (.ref (He.ga K n)) = some (decide (c = n) || decide (n = "GrantError"))
  kitV : ∀ c ∈ excs, PySem.W.kitOne K (.ref (He.ga K c)) (.type "ValueError") = some true
def isS (p : List Nat → Bool) : D → Bool
  | .str cs => p cs
  | _ => false
theorem isS_of {p : List Nat → Bool} {L : List D} (h : L.all (isS p) = true) {y : D} (m : y ∈ L) : ∃ cs, y = .str cs ∧ p cs = true := by
  have := List.all_eq_true.mp h y m
  cases y with
  | str cs => exact ⟨cs, rfl, this⟩
  | _ => cases this
def asc (cs : List Nat) : Bool := cs.all (· < 128)
theorem asc_app {a b : List Nat} (h : asc a = true) (g : asc b = true) : asc (a ++ b) = true := by unfold asc at *; rw [List.all_append, h, g]; rfl
theorem asc_one {c : Nat} {cs : List Nat} (h : asc cs = true) (m : c ∈ cs) : asc [c] = true := by
  have := List.all_eq_true.mp h c m
  unfold asc; rw [List.all_cons, this]; rfl
theorem asc_sub {a b : List Nat} (h : asc a = true) (g : ∀ c ∈ b, c ∈ a) : asc b = true := List.all_eq_true.mpr fun c m => List.all_eq_true.mp h c (g c m)
theorem decN_ok : ∀ k : Nat, k < 120 → (decN k).length ≤ 3 ∧ asc (decN k) = true := by decide +kernel
theorem decN_int {i : Int} (h : 0 ≤ i) (g : i < 120) : (decN i).length ≤ 3 ∧ asc (decN i) = true := by
  obtain ⟨k, rfl⟩ := Int.eq_ofNat_of_zero_le h
  exact decN_ok k (by omega)
theorem atI_last {α : Type} {cs : List α} (h : cs ≠ []) : ∃ c, L2.atI cs (-1) = some c ∧ c ∈ cs := by
  have hl : 0 < cs.length := List.length_pos_iff.mpr h
  refine ⟨cs[cs.length - 1]'(by omega), ?_, List.getElem_mem _⟩
  unfold L2.atI L2.ixN
  rw [if_neg (by omega), if_pos (by omega)]
  have : (-1 + (cs.length : Int)).toNat = cs.length - 1 := by omega
  rw [this]
  exact List.getElem?_eq_getElem _
theorem atI_nat {α : Type} {cs : List α} {k : Int} (h0 : 0 ≤ k) (h : k.toNat < cs.length) : ∃ c, L2.atI cs k = some c ∧ c ∈ cs := by
  refine ⟨cs[k.toNat]'h, ?_, List.getElem_mem _⟩
  unfold L2.atI L2.ixN
  rw [if_pos h0, if_pos (by omega)]
  exact List.getElem?_eq_getElem _
theorem str_of {y : D} {cs : List Nat} (h : y ∈ cs.map fun c => D.str [c]) : ∃ c, c ∈ cs ∧ y = .str [c] := by
  obtain ⟨c, m, e⟩ := List.mem_map.mp h
  exact ⟨c, m, e.symm⟩
theorem map_ne {cs : List Nat} (h : cs ≠ []) : (cs.map fun c => D.str [c]) ≠ [] := by simpa using h
theorem map_big {cs : List Nat} (h : cs.length ≤ big) : (cs.map fun c => D.str [c]).length ≤ big := by rwa [List.length_map]
theorem big_eq : big = 16777216 := rfl
theorem atI_zero {α : Type} {c : α} {r : List α} : L2.atI (c :: r) 0 = some c := by
  unfold L2.atI L2.ixN
  rw [if_pos (by omega), if_pos (by rw [List.length_cons]; omega)]
  rfl
theorem decT {p : Prop} [Decidable p] (h : decide p = true) : p := of_decide_eq_true h
theorem cutD_le {α : Type} {xs : List α} {lo hi : Option Int} : (GA.cutD xs lo hi).length ≤ xs.length := by
  unfold GA.cutD
  rw [List.length_take, List.length_drop]
  omega
theorem cutD_mem {α : Type} {xs : List α} {lo hi : Option Int} {c : α} (h : c ∈ GA.cutD xs lo hi) : c ∈ xs := List.mem_of_mem_drop (List.mem_of_mem_take h)
theorem asc_cut {cs : List Nat} {lo hi : Option Int} (h : asc cs = true) : asc (GA.cutD cs lo hi) = true := asc_sub h fun _ m => cutD_mem m
/-! the plain law of names -/
def lettersD : List Nat := tl "abcdefghijklmnopqrstuvwxyz"
def signsD : List Nat := tl "abcdefghijklmnopqrstuvwxyz0123456789."
def alnumD : List Nat := tl "abcdefghijklmnopqrstuvwxyz0123456789"
def keptD : List D := [.str (tl "first"), .str (tl "back"), .str (tl "round"), .str (tl "let"), .str (tl "tree")]
def hdL : List Nat → Bool
  | [] => false
  | c :: _ => decide (c ∈ lettersD)
def lstN (cs : List Nat) : Bool := match cs.getLast? with
  | some c => c != 46
  | none => false
def isNm (cs : List Nat) : Bool := decide (1 ≤ cs.length) && decide (cs.length ≤ 12) && !inD (.str cs) keptD && hdL cs && lstN cs && cs.all (fun c => decide (c ∈ signsD)) && !inL (tl "..") cs
def hasDD : List Nat → Bool
  | a :: b :: r => (a == 46 && b == 46) || hasDD (b :: r)
  | _ => false
theorem inL_dd : ∀ cs : List Nat, inL [46, 46] cs = hasDD cs := by
  have key : ∀ cs : List Nat, ((List.range (cs.length + 1)).any fun i => pre [46, 46] (cs.drop i)) = hasDD cs := by
    intro cs
    induction cs with
    | nil => rfl
    | cons a r ih =>
      rw [List.length_cons, List.range_succ_eq_map, List.any_cons, List.any_map]
      have : ((fun i => pre [46, 46] ((a :: r).drop i)) ∘ Nat.succ) = fun i => pre [46, 46] (r.drop i) := rfl
      rw [this, ih]
      cases r with
      | nil => simp [hasDD, pre]
      | cons b r => simp [hasDD, pre]
  intro cs
  exact key cs
def okP (p : List Nat) : Bool := !(p == []) && p.all (fun c => decide (c ∈ alnumD))
def spG : Bool → List Nat → Bool
  | e, [] => e
  | e, c :: r => if c = 46 then e && spG false r else decide (c ∈ alnumD) && spG true r
theorem spl_dot (x : List Nat) (c : Nat) (r : List Nat) : TL.spl [46] 0 x (c :: r) = if c = 46 then x :: TL.spl [46] 0 [] r else TL.spl [46] 0 (x ++ [c]) r := by
  rw [TL.spl.eq_2]
  have : (TL.pre [46] (c :: r) = true) = (c = 46) := by simp [TL.pre]
  simp only [this]
  rfl
theorem spl_ok : ∀ (cs x : List Nat), (TL.spl [46] 0 x cs).all okP = (x.all (fun c => decide (c ∈ alnumD)) && spG (!(x == [])) cs)
  | [], x => by
    rw [TL.spl.eq_1, List.all_cons, List.all_nil, Bool.and_true]
    unfold okP
    rw [Bool.and_comm]
    rfl
  | c :: r, x => by
    rw [spl_dot]
    by_cases h : c = 46
    · rw [if_pos h, List.all_cons, spl_ok r []]
      simp only [spG, if_pos h]
      unfold okP
      cases x.all (fun c => decide (c ∈ alnumD)) <;> cases (!(x == [])) <;> simp
    · rw [if_neg h, spl_ok r (x ++ [c])]
      simp only [spG, if_neg h]
      rw [List.all_append, List.all_cons, List.all_nil]
      have : (!((x ++ [c]) == [])) = true := by simp
      rw [this]
      cases x.all (fun c => decide (c ∈ alnumD)) <;> cases decide (c ∈ alnumD) <;> simp
theorem mem_signs {c : Nat} : decide (c ∈ signsD) = (decide (c ∈ alnumD) || c == 46) := by
  have h : signsD = alnumD ++ [46] := by decide
  rw [h, Bool.eq_iff_iff]
  simp
theorem dot_alnum : decide (46 ∈ alnumD) = false := by decide
theorem spG_eq : ∀ (cs : List Nat) (e : Bool), cs ≠ [] → spG e cs = (cs.all (fun c => decide (c ∈ signsD)) && !hasDD cs && lstN cs && (e || !(cs.head? == some 46)))
  | [], _, h => (h rfl).elim
  | [c], e, _ => by
    simp only [spG, List.all_cons, List.all_nil, mem_signs, hasDD, lstN, List.getLast?_singleton]
    by_cases h : c = 46
    · subst h; rw [dot_alnum]; cases e <;> rfl
    · rw [if_neg h]
      have : (c == 46) = false := by simpa using h
      simp [this, h, bne]
  | c :: d :: r, e, _ => by
    have ih := fun e => spG_eq (d :: r) e (by simp)
    have hl : lstN (c :: d :: r) = lstN (d :: r) := by unfold lstN; rw [List.getLast?_cons_cons]
    rw [spG, hl, List.all_cons, mem_signs, hasDD]
    by_cases h : c = 46
    · rw [if_pos h, ih]
      subst h
      rw [dot_alnum]
      by_cases hd : d = 46
      · subst hd; cases e <;> simp
      · have : (d == 46) = false := by simpa using hd
        simp [this, hd]
        cases e <;> simp
    · rw [if_neg h, ih]
      have : (c == 46) = false := by simpa using h
      simp [this, h]
      cases decide (c ∈ alnumD) <;> simp
theorem hdL_dot {cs : List Nat} (h : hdL cs = true) : cs ≠ [] ∧ (cs.head? == some 46) = false := by
  cases cs with
  | nil => cases h
  | cons c r =>
    refine ⟨by simp, ?_⟩
    have h : c ∈ lettersD := of_decide_eq_true h
    have h2 : c ≠ 46 := by
      intro z; subst z
      exact absurd h (by decide)
    simpa using h2
/-- the second way of saying it -/
theorem isNm_eq (cs : List Nat) (hl : cs.length ≤ 12) (hk : inD (.str cs) keptD = false) : isNm cs = ((splitD (tl ".") cs).all okP && hdL cs) := by
  have hs : (splitD (tl ".") cs).all okP = spG false cs := by
    have := spl_ok cs []
    show (TL.spl [46] 0 [] cs).all okP = _
    simpa using this
  rw [hs]
  unfold isNm
  rw [hk]
  have hd : inL (tl "..") cs = hasDD cs := inL_dd cs
  rw [hd]
  cases h : hdL cs with
  | false => simp
  | true =>
    obtain ⟨hn, h46⟩ := hdL_dot h
    rw [spG_eq cs false hn, h46]
    have : 1 ≤ cs.length := List.length_pos_iff.mpr hn
    simp only [this, hl, decide_true, Bool.true_and, Bool.and_true, Bool.not_false, Bool.false_or]
    cases lstN cs <;> cases hasDD cs <;> cases cs.all (fun c => decide (c ∈ signsD)) <;> rfl
theorem isNm_kept (cs : List Nat) (hk : inD (.str cs) keptD = true) : isNm cs = false := by unfold isNm; rw [hk]; simp
theorem isNm_long (cs : List Nat) (hl : 12 < cs.length) : isNm cs = false := by
  unfold isNm
  have : decide (cs.length ≤ 12) = false := by simp; omega
  rw [this]; simp
/-! the same data, twice -/
mutual
inductive Sm (A : Ah) : Nat → D → D → Prop
  | non : Sm A 1 .non .non
  | bl (b : Bool) : Sm A 1 (.bl b) (.bl b)
  | int (i : Int) : Sm A 1 (.int i) (.int i)
  | str (cs : List Nat) : Sm A 1 (.str cs) (.str cs)
  | tup {n : Nat} {ds es : List D} : Sms A n ds es → Sm A (n + 1) (.tup ds) (.tup es)
  | lst {n : Nat} {a b : Addr} {ds es : List D} : A a = some (.lst ds) → A b = some (.lst es) → Sms A n ds es → Sm A (n + 1) (.ref a) (.ref b)
inductive Sms (A : Ah) : Nat → List D → List D → Prop
  | nil : Sms A 0 [] []
  | cons {n m : Nat} {d e : D} {ds es : List D} : Sm A n d e → Sms A m ds es → Sms A (n + m) (d :: ds) (e :: es)
end
theorem Sm.pos {A : Ah} {n : Nat} {d e : D} (h : Sm A n d e) : 1 ≤ n := by cases h <;> omega
theorem Sms.len {A : Ah} : ∀ {ds es : List D} {n : Nat}, Sms A n ds es → ds.length = es.length ∧ ds.length ≤ n
  | [], _, _, .nil => ⟨rfl, Nat.le_refl _⟩
  | _ :: _, _, _, .cons h t => by
    obtain ⟨h1, h2⟩ := t.len
    have := h.pos
    rw [List.length_cons, List.length_cons, h1]
    exact ⟨rfl, by omega⟩
theorem Sms.at {A : Ah} : ∀ {ds es : List D} {n i : Nat} (_ : Sms A n ds es), i < ds.length → ∃ (n1 : Nat) (d e : D), ds[i]? = some d ∧ es[i]? = some e ∧ Sm A n1 d e ∧ n1 ≤ n
  | [], _, _, _, .nil, h => nomatch h
  | d :: ds, e :: es, _, 0, .cons h t, _ => ⟨_, d, e, rfl, rfl, h, Nat.le_add_right ..⟩
  | d :: ds, e :: es, _, i + 1, .cons h t, hi => by
    obtain ⟨n1, d', e', h1, h2, h3, h4⟩ := t.at (i := i) (by simpa using hi)
    exact ⟨n1, d', e', h1, h2, h3, by omega⟩
/-- the weight of what begins at i -/
inductive SmsAt (A : Ah) (ds es : List D) : Nat → Nat → Prop
  | mk {i m : Nat} : Sms A m (ds.drop i) (es.drop i) → SmsAt A ds es i m
theorem SmsAt.step {A : Ah} {ds es : List D} {i m : Nat} (h : SmsAt A ds es i m) (hi : i < ds.length) : ∃ (n1 m1 : Nat) (d e : D), ds[i]? = some d ∧ es[i]? = some e ∧ Sm A n1 d e ∧ m = n1 + m1 ∧ SmsAt A ds es (i + 1) m1 := by
  obtain ⟨h⟩ := h
  cases h1 : ds.drop i with
  | nil =>
    have := List.drop_eq_nil_iff.mp h1
    omega
  | cons d r =>
    rw [h1] at h
    cases h2 : es.drop i with
    | nil => rw [h2] at h; cases h
    | cons e r' =>
      rw [h2] at h
      cases h with
      | @cons n1 m1 _ _ _ _ a b =>
        have g1 : ds[i]? = some d := by rw [← List.head?_drop, h1]; rfl
        have g2 : es[i]? = some e := by rw [← List.head?_drop, h2]; rfl
        have g3 : ds.drop (i + 1) = r := by rw [← List.tail_drop, h1]; rfl
        have g4 : es.drop (i + 1) = r' := by rw [← List.tail_drop, h2]; rfl
        exact ⟨n1, m1, d, e, g1, g2, a, rfl, ⟨by rw [g3, g4]; exact b⟩⟩
/-- pairs that wait -/
inductive Stk (A : Ah) : Nat → List D → Prop
  | nil : Stk A 0 []
  | snoc {m n : Nat} {S : List D} {d e : D} : Stk A m S → Sm A n d e → Stk A (m + n) (S ++ [.tup [d, e]])
theorem Stk.len {A : Ah} {T : Nat} {S : List D} (h : Stk A T S) : S.length ≤ T := by
  induction h with
  | nil => exact Nat.le_refl _
  | snoc _ h ih => have := h.pos; rw [List.length_append, List.length_singleton]; omega
theorem atI_of {α : Type} {xs : List α} {i : Nat} {y : α} (h : xs[i]? = some y) : L2.atI xs (i : Int) = some y := by
  have hi : i < xs.length := (List.getElem?_eq_some_iff.mp h).1
  unfold L2.atI L2.ixN
  rw [if_pos (by omega), if_pos (by omega)]
  exact h
theorem decF {p : Prop} [Decidable p] (h : decide p = false) : ¬p := of_decide_eq_false h
/-! plain data with no reference in it, its weight -/
mutual
inductive Pl : Nat → D → Prop
  | non : Pl 1 .non
  | bl (b : Bool) : Pl 1 (.bl b)
  | int (i : Int) : Pl 1 (.int i)
  | str (cs : List Nat) : Pl 1 (.str cs)
  | tup {n : Nat} {ds : List D} : Pls n ds → Pl (n + 1) (.tup ds)
inductive Pls : Nat → List D → Prop
  | nil : Pls 0 []
  | cons {n m : Nat} {d : D} {ds : List D} : Pl n d → Pls m ds → Pls (n + m) (d :: ds)
end
theorem Pl.pos {n : Nat} {d : D} (h : Pl n d) : 1 ≤ n := by cases h <;> omega
theorem Pls.len : ∀ {ds : List D} {n : Nat}, Pls n ds → ds.length ≤ n
  | [], _, .nil => Nat.le_refl _
  | _ :: _, _, .cons h t => by
    have := t.len
    have := h.pos
    rw [List.length_cons]
    omega
inductive PlsAt (ds : List D) : Nat → Nat → Prop
  | mk {i m : Nat} : Pls m (ds.drop i) → PlsAt ds i m
theorem PlsAt.step {ds : List D} {i m : Nat} (h : PlsAt ds i m) (hi : i < ds.length) : ∃ (n1 m1 : Nat) (d : D), ds[i]? = some d ∧ Pl n1 d ∧ m = n1 + m1 ∧ PlsAt ds (i + 1) m1 := by
  obtain ⟨h⟩ := h
  cases h1 : ds.drop i with
  | nil =>
    have := List.drop_eq_nil_iff.mp h1
    omega
  | cons d r =>
    rw [h1] at h
    cases h with
    | @cons n1 m1 _ _ a b =>
      have g1 : ds[i]? = some d := by rw [← List.head?_drop, h1]; rfl
      have g3 : ds.drop (i + 1) = r := by rw [← List.tail_drop, h1]; rfl
      exact ⟨n1, m1, d, g1, a, rfl, ⟨by rw [g3]; exact b⟩⟩
inductive PSt : Nat → List D → Prop
  | nil : PSt 0 []
  | snoc {m n : Nat} {S : List D} {d : D} : PSt m S → Pl n d → PSt (m + n) (S ++ [.tup [d, d]])
theorem PSt.len {T : Nat} {S : List D} (h : PSt T S) : S.length ≤ T := by
  induction h with
  | nil => exact Nat.le_refl _
  | snoc _ h ih => have := h.pos; rw [List.length_append, List.length_singleton]; omega
theorem Pls.app {n m : Nat} {ds es : List D} (h : Pls n ds) (g : Pls m es) : Pls (n + m) (ds ++ es) := by
  induction ds generalizing n with
  | nil => cases h; rw [Nat.zero_add]; exact g
  | cons d r ih => cases h with
    | cons a b => rw [Nat.add_assoc]; exact .cons a (ih b)
/-! the first fault of a lot: a name that is none, or a place out of order -/
def lotG : Option (List Nat) → Nat → List (List Nat) → Option (Sum (List Nat) Nat)
  | _, _, [] => none
  | p, i, c :: r => if isNm c = false then some (.inl c) else if (match p with | some p => !lexL p c | none => false) = true then some (.inr i) else lotG (some c) (i + 1) r
def lotF (L : List (List Nat)) : Option (Sum (List Nat) Nat) := if L = [] then some (.inr 0) else lotG none 0 L
/-! names that are names, texts that are none -/
theorem nm_hd {cs : List Nat} (h : hdL cs = false) : isNm cs = false := by unfold isNm; rw [h]; simp
theorem nm_lst {cs : List Nat} (h : lstN cs = false) : isNm cs = false := by unfold isNm; rw [h]; simp
theorem nm_dd {cs : List Nat} (h : hasDD cs = true) : isNm cs = false := by
  have hd : inL (tl "..") cs = hasDD cs := inL_dd cs
  unfold isNm; rw [hd, h]; simp
theorem nm_sign {cs : List Nat} {e : Nat} (m : e ∈ cs) (h : e ∉ signsD) : isNm cs = false := by
  have : cs.all (fun c => decide (c ∈ signsD)) = false := by
    rw [Bool.eq_false_iff]
    intro z
    exact h (of_decide_eq_true (List.all_eq_true.mp z e m))
  unfold isNm; rw [this]; simp
theorem nm_mk {cs : List Nat} (h1 : 1 ≤ cs.length) (h2 : cs.length ≤ 12) (hk : inD (.str cs) keptD = false) (hh : hdL cs = true) (hl : lstN cs = true) (hs : ∀ c ∈ cs, c ∈ signsD) (hd : hasDD cs = false) : isNm cs = true := by
  have e : inL (tl "..") cs = hasDD cs := inL_dd cs
  have : cs.all (fun c => decide (c ∈ signsD)) = true := List.all_eq_true.mpr fun c m => decide_eq_true (hs c m)
  unfold isNm; rw [e, hd, this, hk, hh, hl]; simp [h1, h2]
theorem nm_len {cs : List Nat} (h : isNm cs = true) : 1 ≤ cs.length ∧ cs.length ≤ 12 := by
  unfold isNm at h
  simp only [Bool.and_eq_true, decide_eq_true_eq] at h
  exact ⟨h.1.1.1.1.1.1, h.1.1.1.1.1.2⟩
theorem nm_sg {cs : List Nat} (h : isNm cs = true) : ∀ c ∈ cs, c ∈ signsD := by
  unfold isNm at h
  simp only [Bool.and_eq_true, List.all_eq_true, decide_eq_true_eq] at h
  exact h.1.2
theorem signs_asc : ∀ c ∈ signsD, c < 128 := by decide
theorem nm_asc {cs : List Nat} (h : isNm cs = true) : asc cs = true := List.all_eq_true.mpr fun c m => decide_eq_true (signs_asc c (nm_sg h c m))
theorem dd_snoc : ∀ {cs : List Nat} {s : Nat}, cs ≠ [] → hasDD cs = false → (lstN cs = true ∨ s ≠ 46) → hasDD (cs ++ [s]) = false
  | [], _, h, _, _ => (h rfl).elim
  | [a], s, _, _, h => by
    show ((a == 46 && s == 46) || hasDD [s]) = false
    rcases h with h | h
    · have : (a == 46) = false := by
        unfold lstN at h
        simpa using h
      rw [this]; rfl
    · have : (s == 46) = false := by simpa using h
      rw [this, Bool.and_false]; rfl
  | a :: b :: r, s, _, hd, h => by
    have hd : ((a == 46 && b == 46) || hasDD (b :: r)) = false := hd
    obtain ⟨h1, h2⟩ := Bool.or_eq_false_iff.mp hd
    have hl : lstN (a :: b :: r) = lstN (b :: r) := by unfold lstN; rw [List.getLast?_cons_cons]
    rw [hl] at h
    show ((a == 46 && b == 46) || hasDD ((b :: r) ++ [s])) = false
    rw [h1, dd_snoc (by simp) h2 h]; rfl
theorem lst_snoc {cs : List Nat} {s : Nat} : lstN (cs ++ [s]) = (s != 46) := by unfold lstN; rw [List.getLast?_concat]
theorem hd_app {cs r : List Nat} (h : hdL cs = true) : hdL (cs ++ r) = true := by
  cases cs with
  | nil => cases h
  | cons c s => exact h
theorem lets_sg : ∀ c ∈ lettersD, c ∈ signsD := by decide
theorem lets_46 : ∀ c ∈ lettersD, (c != 46) = true := by decide
theorem nm_one : ∀ c ∈ lettersD, isNm [c] = true := by decide +kernel
theorem nm_num : ∀ c ∈ lettersD, ∀ k : Nat, k < 120 → isNm ([c] ++ decN k) = true := by decide +kernel
theorem nm_numI {c : Nat} (hc : c ∈ lettersD) {j : Int} (h : 0 ≤ j) (g : j < 120) : isNm ([c] ++ decN j) = true := by
  obtain ⟨k, rfl⟩ := Int.eq_ofNat_of_zero_le h
  exact nm_num c hc k (by omega)
theorem kept_of {cs : List Nat} (h : inD (.str cs) keptD = true) : isNm (cs ++ tl "0") = true := by
  have : tl "first" = cs ∨ tl "back" = cs ∨ tl "round" = cs ∨ tl "let" = cs ∨ tl "tree" = cs := by
    simpa [inD, keptD, D.eqv] using h
  rcases this with h | h | h | h | h <;> (subst h; decide +kernel)
theorem atI_lst {cs : List Nat} (h : cs ≠ []) : ∃ c, L2.atI cs (-1) = some c ∧ lstN cs = (c != 46) := by
  have hl : 0 < cs.length := List.length_pos_iff.mpr h
  refine ⟨cs[cs.length - 1]'(by omega), ?_, ?_⟩
  · unfold L2.atI L2.ixN
    rw [if_neg (by omega), if_pos (by omega)]
    have : (-1 + (cs.length : Int)).toNat = cs.length - 1 := by omega
    rw [this]
    exact List.getElem?_eq_getElem _
  · unfold lstN
    rw [List.getLast?_eq_getElem?, List.getElem?_eq_getElem (by omega)]
structure NmI (e : Prop) (cs : List Nat) : Prop where
  hd : hdL cs = true
  sg : ∀ c ∈ cs, c ∈ signsD
  dd : hasDD cs = false
  ls : e → lstN cs = true
theorem NmI.snoc {e e' : Prop} {cs : List Nat} {c : Nat} (h : NmI e cs) (hn : cs ≠ []) (hc : c ∈ signsD) (h2 : c ≠ 46 ∨ lstN cs = true ∧ ¬e') : NmI e' (cs ++ [c]) where
  hd := hd_app h.hd
  sg := fun d m => by
    rcases List.mem_append.mp m with m | m
    · exact h.sg d m
    · rw [List.mem_singleton.mp m]; exact hc
  dd := dd_snoc hn h.dd (h2.elim .inr fun z => .inl z.1)
  ls := fun z => by
    rw [lst_snoc]
    rcases h2 with h2 | h2
    · simpa using h2
    · exact (h2.2 z).elim
theorem fig_hd : ∀ k : Nat, k < 10 → hdL (decN k) = false ∧ decN k ≠ [] := by decide +kernel
theorem hdL_app {cs r : List Nat} (h : cs ≠ []) : hdL (cs ++ r) = hdL cs := by
  cases cs with
  | nil => exact (h rfl).elim
  | cons c s => rfl
theorem fig_no {j : Int} (h : 0 ≤ j) (g : j < 10) {r : List Nat} : isNm (decN j ++ r) = false := by
  obtain ⟨k, rfl⟩ := Int.eq_ofNat_of_zero_le h
  obtain ⟨h1, h2⟩ := fig_hd k (by omega)
  exact nm_hd (by rw [hdL_app h2]; exact h1)
theorem tl_blank : tl " " = [32] := rfl
theorem tl_feed : tl "\n" = [10] := rfl
/-- a row of requests as data; its first fault -/
def rowD (R : List (List (List Nat))) : List D := R.map fun L => .tup (L.map D.str)
def rowF : List (List (List Nat)) → Option (Sum (List Nat) Nat)
  | [] => none
  | L :: R => match lotF L with
    | some f => some f
    | none => rowF R
/-- the first text that is no name -/
def wordF (L : List (List Nat)) : Option (List Nat) := L.find? fun c => !isNm c
/-- a log of beats as data; its first bad beat -/
def beatD (b : List (List Nat) × List Nat) : D := .tup [.tup (b.1.map D.str), .str b.2]
def beatOk (b : List (List Nat) × List Nat) : Bool := (lotF b.1).isNone && inD (.str b.2) (b.1.map D.str)
def logF : Nat → List (List (List Nat) × List Nat) → Option Nat
  | _, [] => none
  | i, b :: r => if beatOk b = true then logF (i + 1) r else some i
/-- what a log's checking owes: the errors, and what follows of a good one -/
def LogX (P : List (List (List Nat) × List Nat)) (A : Ah) (x : AX) (G : Prop) : Prop := P.length ≤ 100000 ∧ (∀ b ∈ P, b.1.length ≤ 1000 ∧ ∀ c ∈ b.1, c.length ≤ big) ∧
  (300 < P.length → ∀ d A', Ext A A' → A' d = some (.xd [("limit", .int 300), ("what", .str (tl "beats"))]) → x ⟨"TooMany", d⟩ A') ∧ (P.length ≤ 300 → logF 0 P = none → G) ∧
  (P.length ≤ 300 → ∀ i, logF 0 P = some i → ∀ d A', Ext A A' → A' d = some (.xd [("at", .int (i : Nat))]) → x ⟨"BadLog", d⟩ A')
theorem LogX.w {P : List (List (List Nat) × List Nat)} {A : Ah} {x : AX} {G : Prop} (h : LogX P A x G) : ∀ b ∈ P, b.1.length ≤ 100000 ∧ ∀ c ∈ b.1, c.length ≤ big := fun b m => ⟨by have := (h.2.1 b m).1; omega, (h.2.1 b m).2⟩
theorem logF_all : ∀ {P : List (List (List Nat) × List Nat)} {i : Nat}, logF i P = none ↔ ∀ b ∈ P, beatOk b = true
  | [], _ => ⟨fun _ => nofun, fun _ => rfl⟩
  | b :: r, i => by
    rw [logF]
    by_cases h : beatOk b = true
    · rw [if_pos h, logF_all]
      exact ⟨fun g c m => (List.mem_cons.mp m).elim (fun e => e ▸ h) (g c), fun g c m => g c (List.mem_cons_of_mem _ m)⟩
    · rw [if_neg h]
      exact ⟨nofun, fun g => (h (g b List.mem_cons_self)).elim⟩
theorem inD_str {w : List Nat} {L : List (List Nat)} : inD (.str w) (L.map D.str) = true ↔ w ∈ L := by
  unfold inD
  rw [List.any_map, List.any_eq_true]
  constructor
  · rintro ⟨c, h, e⟩
    have : c = w := by simpa [D.eqv] using e
    exact this ▸ h
  · intro h
    exact ⟨w, h, by simp [D.eqv]⟩
theorem inD_strF {w : List Nat} {L : List (List Nat)} : inD (.str w) (L.map D.str) = false ↔ w ∉ L := by
  rw [← Bool.not_eq_true, inD_str]
theorem beatOk_iff {b : List (List Nat) × List Nat} : beatOk b = true ↔ lotF b.1 = none ∧ b.2 ∈ b.1 := by
  unfold beatOk
  rw [Bool.and_eq_true, Option.isNone_iff_eq_none, inD_str]
theorem sc_strs (L : List (List Nat)) : (L.map D.str).all D.sc = true := by
  rw [List.all_eq_true]
  intro d hd
  obtain ⟨c, _, rfl⟩ := List.mem_map.mp hd
  rfl
/-- the mark of a beat: - a g -/
def mkB (c : List Nat) (b : List (List Nat) × List Nat) : Nat := if c = b.2 then 103 else if c ∈ b.1 then 97 else 45
/-- the longest spell of marks, of which this one has lasted n beats -/
def spM : Nat → List Nat → Nat
  | n, [] => n
  | n, c :: r => if c = 45 then max n (spM 0 r) else if c = 103 then max (n + 1) (spM 0 r) else spM (n + 1) r
theorem spM_ge : ∀ (r : List Nat) (n : Nat), n ≤ spM n r
  | [], n => Nat.le_refl _
  | c :: r, n => by
    rw [spM]
    split
    · omega
    · split
      · omega
      · have := spM_ge r (n + 1); omega
theorem spM_le : ∀ (r : List Nat) (n : Nat), spM n r ≤ n + r.length
  | [], n => Nat.le_refl _
  | c :: r, n => by
    rw [spM, List.length_cons]
    have h0 := spM_le r 0
    have h1 := spM_le r (n + 1)
    split
    · omega
    · split <;> omega
/-! lots: ascending, of names -/
theorem lexL_trans {a b c : List Nat} (h : lexL a b = true) (g : lexL b c = true) : lexL a c = true := by
  rw [lexL_eq, decide_eq_true_iff] at h g ⊢
  exact List.lt_trans h g
theorem lexL_irrefl (a : List Nat) : lexL a a = false := by
  rw [lexL_eq]
  exact decide_eq_false (List.lt_irrefl a)
theorem lexL_asymm {a b : List Nat} (h : lexL a b = true) : lexL b a = false := by
  cases e : lexL b a with
  | false => rfl
  | true => have := lexL_trans h e; rw [lexL_irrefl] at this; cases this
theorem lexL_total {a b : List Nat} (h : lexL a b = false) (n : a ≠ b) : lexL b a = true := by
  rw [lexL_eq] at h ⊢
  have h := of_decide_eq_false h
  apply decide_eq_true
  rcases Decidable.em (b < a) with g | g
  · exact g
  · exact (n (List.le_antisymm g h)).elim
/-- strictly ascending -/
abbrev Asc (L : List (List Nat)) : Prop := L.Pairwise fun a b => lexL a b = true
theorem lotG_cons2 (p : Option (List Nat)) (i : Nat) (c : List Nat) (r : List (List Nat)) : lotG p i (c :: r) = if isNm c = false then some (.inl c) else if (match p with | some p => !lexL p c | none => false) = true then some (.inr i) else lotG (some c) (i + 1) r := by cases p <;> rfl
theorem lotG_none : ∀ {r : List (List Nat)} {c : List Nat} {i : Nat}, lotG (some c) i r = none ↔ (∀ d ∈ r, isNm d = true) ∧ Asc (c :: r)
  | [], _, _ => ⟨fun _ => ⟨nofun, List.pairwise_singleton _ _⟩, fun _ => rfl⟩
  | d :: r, c, i => by
    rw [lotG_cons2]
    by_cases h : isNm d = false
    · rw [if_pos h]
      exact ⟨nofun, fun g => by rw [g.1 d List.mem_cons_self] at h; cases h⟩
    · rw [if_neg h]
      have hd : isNm d = true := by simpa using h
      cases hl : lexL c d with
      | false =>
        show (if (!lexL c d) = true then _ else _) = none ↔ _
        rw [hl, if_pos (by decide)]
        exact ⟨nofun, fun g => by have := (List.pairwise_cons.mp g.2).1 d List.mem_cons_self; rw [hl] at this; cases this⟩
      | true =>
        show (if (!lexL c d) = true then _ else _) = none ↔ _
        rw [hl, if_neg (by decide), lotG_none]
        constructor
        · rintro ⟨g1, g2⟩
          refine ⟨fun e m => (List.mem_cons.mp m).elim (fun z => z ▸ hd) (g1 e), List.pairwise_cons.mpr ⟨fun e m => ?_, g2⟩⟩
          rcases List.mem_cons.mp m with rfl | m
          · exact hl
          · exact lexL_trans hl ((List.pairwise_cons.mp g2).1 e m)
        · rintro ⟨g1, g2⟩
          exact ⟨fun e m => g1 e (List.mem_cons_of_mem _ m), (List.pairwise_cons.mp g2).2⟩
theorem lot_iff {L : List (List Nat)} : lotF L = none ↔ L ≠ [] ∧ (∀ c ∈ L, isNm c = true) ∧ Asc L := by
  unfold lotF
  cases L with
  | nil => exact ⟨nofun, fun h => (h.1 rfl).elim⟩
  | cons c r =>
    rw [if_neg (by simp), lotG_cons2]
    by_cases h : isNm c = false
    · rw [if_pos h]
      exact ⟨nofun, fun g => by rw [g.2.1 c List.mem_cons_self] at h; cases h⟩
    · have hc : isNm c = true := by simpa using h
      rw [if_neg h]
      show (if false = true then _ else lotG (some c) 1 r) = none ↔ _
      rw [if_neg (by decide), lotG_none]
      exact ⟨fun g => ⟨by simp, fun d m => (List.mem_cons.mp m).elim (fun z => z ▸ hc) (g.1 d), g.2⟩, fun g => ⟨fun d m => g.2.1 d (List.mem_cons_of_mem _ m), g.2.2⟩⟩
theorem lot_sub {L S : List (List Nat)} (h : lotF L = none) (s : S.Sublist L) (n : S ≠ []) : lotF S = none := by
  obtain ⟨_, h1, h2⟩ := lot_iff.mp h
  exact lot_iff.mpr ⟨n, fun c m => h1 c (s.subset m), h2.sublist s⟩
theorem asc_nodup {L : List (List Nat)} (h : Asc L) : L.Nodup := h.imp fun {a b} g e => by rw [e, lexL_irrefl] at g; cases g
/-- sorted and without doubles -/
theorem srt_asc : ∀ {L : List (List Nat)}, srtL L = true → L.Nodup → Asc L
  | [], _, _ => .nil
  | [_], _, _ => List.pairwise_singleton _ _
  | x :: y :: r, h, n => by
    obtain ⟨h1, h2⟩ := Bool.and_eq_true_iff.mp (show (!lexL y x && srtL (y :: r)) = true from h)
    obtain ⟨n1, n2⟩ := List.nodup_cons.mp n
    have ih := srt_asc h2 n2
    have hxy : lexL x y = true := lexL_total (by simpa using h1) (fun z => n1 (z ▸ List.mem_cons_self))
    refine List.pairwise_cons.mpr ⟨fun e m => ?_, ih⟩
    rcases List.mem_cons.mp m with rfl | m
    · exact hxy
    · exact lexL_trans hxy ((List.pairwise_cons.mp ih).1 e m)
theorem lotG_app : ∀ (X : List (List Nat)) (p : Option (List Nat)) (i : Nat) (Y : List (List Nat)), (∀ c ∈ X, isNm c = true) → Asc (p.toList ++ X) → lotG p i (X ++ Y) = lotG (X.getLast?.or p) (i + X.length) Y
  | [], p, i, Y, _, _ => by simp
  | c :: r, p, i, Y, h, g => by
    rw [List.cons_append, lotG_cons2, if_neg (by rw [h c List.mem_cons_self]; decide)]
    have e : ∀ p', p = some p' → lexL p' c = true := by
      rintro p' rfl
      exact (List.pairwise_cons.mp (show Asc (p' :: c :: r) from g)).1 c List.mem_cons_self
    rw [if_neg (by cases p with
      | none => exact Bool.noConfusion
      | some p => show ¬ (!lexL p c) = true; rw [e p rfl]; decide)]
    have g2 : Asc (c :: r) := by
      cases p with
      | none => exact g
      | some p => exact (List.pairwise_cons.mp (show Asc (p :: c :: r) from g)).2
    have ih := lotG_app r (some c) (i + 1) Y (fun d m => h d (List.mem_cons_of_mem _ m)) g2
    rw [ih, List.length_cons, show i + 1 + r.length = i + (r.length + 1) by omega]
    congr 1
    cases r with
    | nil => rfl
    | cons d s => rw [List.getLast?_cons_cons]; cases h3 : (d :: s).getLast? with
      | none => simp at h3
      | some z => rfl
theorem lotF_app {X Y : List (List Nat)} (h : ∀ c ∈ X, isNm c = true) (g : Asc X) (n : X ++ Y ≠ []) : lotF (X ++ Y) = lotG X.getLast? X.length Y := by
  unfold lotF
  rw [if_neg n, lotG_app X none 0 Y h g, Nat.zero_add, Option.or_none]
theorem lotF_nm {X r : List (List Nat)} {c : List Nat} (h : ∀ c ∈ X, isNm c = true) (g : Asc X) (n : isNm c = false) : lotF (X ++ c :: r) = some (.inl c) := by
  rw [lotF_app h g (by simp), lotG_cons2, if_pos n]
theorem lotF_or {X r : List (List Nat)} {p c : List Nat} (h : ∀ c ∈ X, isNm c = true) (g : Asc X) (l : X.getLast? = some p) (n : isNm c = true) (o : lexL p c = false) : lotF (X ++ c :: r) = some (.inr X.length) := by
  rw [lotF_app h g (by simp), l, lotG_cons2, if_neg (by rw [n]; decide)]
  show (if (!lexL p c) = true then _ else _) = _
  rw [o, if_pos (by decide)]
theorem plsStrs : ∀ L : List (List Nat), Pls L.length (L.map D.str)
  | [] => .nil
  | c :: r => by rw [List.length_cons, Nat.add_comm]; exact .cons (.str c) (plsStrs r)
theorem pls_map {α : Type} (f : α → D) (k : Nat) : ∀ L : List α, (∀ a ∈ L, ∃ n, n ≤ k ∧ Pl n (f a)) → ∃ n, n ≤ k * L.length ∧ Pls n (L.map f)
  | [], _ => ⟨0, Nat.zero_le _, .nil⟩
  | a :: r, h => by
    obtain ⟨n, h1, h2⟩ := h a List.mem_cons_self
    obtain ⟨m, g1, g2⟩ := pls_map f k r fun b m => h b (List.mem_cons_of_mem _ m)
    exact ⟨n + m, by rw [List.length_cons, Nat.mul_succ]; omega, .cons h2 g2⟩
/-- lines of a law -/
structure LotL (L : List (List Nat)) : Prop where
  ok : lotF L = none
  le : L.length ≤ 24
theorem LotL.ne {L : List (List Nat)} (h : LotL L) : L ≠ [] := (lot_iff.mp h.ok).1
theorem LotL.nm {L : List (List Nat)} (h : LotL L) : ∀ c ∈ L, isNm c = true := (lot_iff.mp h.ok).2.1
theorem LotL.asc {L : List (List Nat)} (h : LotL L) : Asc L := (lot_iff.mp h.ok).2.2
/-- a good log over lines -/
structure GoodP (P : List (List (List Nat) × List Nat)) (L : List (List Nat)) : Prop where
  le : P.length ≤ 300
  ok : ∀ b ∈ P, beatOk b = true ∧ b.1.Sublist L
theorem GoodP.logF {P : List (List (List Nat) × List Nat)} {L : List (List Nat)} (h : GoodP P L) {i : Nat} : LW.logF i P = none := logF_all.mpr fun b m => (h.ok b m).1
theorem nm_big {c : List Nat} (h : isNm c = true) : c.length ≤ big := by have := (nm_len h).2; rw [big_eq]; omega
theorem beat_nm {b : List (List Nat) × List Nat} (h : beatOk b = true) : (∀ c ∈ b.1, isNm c = true) ∧ b.2 ∈ b.1 := by
  obtain ⟨h1, h2⟩ := beatOk_iff.mp h
  exact ⟨(lot_iff.mp h1).2.1, h2⟩
theorem GoodP.bd {P : List (List (List Nat) × List Nat)} {L : List (List Nat)} (h : GoodP P L) (hL : LotL L) : ∀ b ∈ P, b.1.length ≤ 1000 ∧ ∀ c ∈ b.1, c.length ≤ big := fun b m => by
  obtain ⟨h1, h2⟩ := h.ok b m
  exact ⟨by have := h2.length_le; have := hL.le; omega, fun c hc => nm_big ((beat_nm h1).1 c hc)⟩
theorem GoodP.pl {P : List (List (List Nat) × List Nat)} {L : List (List Nat)} (h : GoodP P L) (hL : LotL L) : ∃ n, n ≤ 30 * P.length + 1 ∧ Pl n (.tup (P.map beatD)) := by
  have hb : ∀ b ∈ P, ∃ n, n ≤ 30 ∧ Pl n (beatD b) := fun b m => by
    have := (h.ok b m).2.length_le
    have := hL.le
    exact ⟨_, by omega, .tup (.cons (.tup (plsStrs b.1)) (.cons (.str b.2) .nil))⟩
  obtain ⟨n, h1, h2⟩ := pls_map beatD 30 P hb
  exact ⟨n + 1, by omega, .tup h2⟩
theorem GoodP.logX {P : List (List (List Nat) × List Nat)} {L : List (List Nat)} (h : GoodP P L) (hL : LotL L) {A : Ah} {x : AX} {G : Prop} (g : G) : LogX P A x G :=
  ⟨by have := h.le; omega, h.bd hL, fun z => by have := h.le; omega, fun _ _ => g, fun _ i z => by rw [h.logF] at z; cases z⟩
/-- the first beat whose line is not in its request -/
def zipF : Nat → List (List (List Nat)) → List (List Nat) → Option Nat
  | i, L :: R, w :: W => if w ∈ L then zipF (i + 1) R W else some i
  | _, _, _ => none
/-! good rows, words, logs -/
theorem rowF_none : ∀ {R : List (List (List Nat))}, rowF R = none ↔ ∀ L ∈ R, lotF L = none
  | [] => ⟨fun _ => nofun, fun _ => rfl⟩
  | L :: R => by
    rw [rowF]
    cases h : lotF L with
    | some f => exact ⟨nofun, fun g => by have := g L List.mem_cons_self; rw [h] at this; cases this⟩
    | none => exact ⟨fun g M m => (List.mem_cons.mp m).elim (fun e => e ▸ h) (rowF_none.mp g M), fun g => rowF_none.mpr fun M m => g M (List.mem_cons_of_mem _ m)⟩
theorem wordF_none {W : List (List Nat)} : wordF W = none ↔ ∀ c ∈ W, isNm c = true := by
  unfold wordF
  rw [List.find?_eq_none]
  exact ⟨fun h c m => by simpa using h c m, fun h c m => by simp [h c m]⟩
theorem zipF_good : ∀ {P : List (List (List Nat) × List Nat)} {i : Nat}, (∀ b ∈ P, beatOk b = true) → zipF i (P.map (·.1)) (P.map (·.2)) = none
  | [], _, _ => rfl
  | b :: r, i, h => by
    show (if b.2 ∈ b.1 then zipF (i + 1) (r.map (·.1)) (r.map (·.2)) else some i) = none
    rw [if_pos (beatOk_iff.mp (h b List.mem_cons_self)).2]
    exact zipF_good fun c m => h c (List.mem_cons_of_mem _ m)
theorem zip_back : ∀ P : List (List (List Nat) × List Nat), (P.map (·.1)).zip (P.map (·.2)) = P
  | [] => rfl
  | b :: r => by
    show (b.1, b.2) :: (r.map (·.1)).zip (r.map (·.2)) = _
    rw [zip_back r]
theorem good_row {P : List (List (List Nat) × List Nat)} {L : List (List Nat)} (h : GoodP P L) : rowF (P.map (·.1)) = none := rowF_none.mpr fun M m => by
  obtain ⟨b, hb, rfl⟩ := List.mem_map.mp m
  exact (beatOk_iff.mp (h.ok b hb).1).1
theorem good_word {P : List (List (List Nat) × List Nat)} {L : List (List Nat)} (h : GoodP P L) : wordF (P.map (·.2)) = none := wordF_none.mpr fun c m => by
  obtain ⟨b, hb, rfl⟩ := List.mem_map.mp m
  obtain ⟨h1, h2⟩ := beat_nm (h.ok b hb).1
  exact h1 _ h2
theorem good_rowpl {P : List (List (List Nat) × List Nat)} {L : List (List Nat)} (h : GoodP P L) (hL : LotL L) : ∃ n, n < 400000 ∧ Pl n (.tup (rowD (P.map (·.1)))) := by
  have hb : ∀ b ∈ P.map (·.1), ∃ n, n ≤ 30 ∧ Pl n (D.tup (b.map D.str)) := fun b m => by
    obtain ⟨b, hb, rfl⟩ := List.mem_map.mp m
    have := (h.ok b hb).2.length_le
    have := hL.le
    exact ⟨_, by omega, .tup (plsStrs b.1)⟩
  obtain ⟨n, h1, h2⟩ := pls_map (fun L => D.tup (L.map D.str)) 30 (P.map (·.1)) hb
  have := h.le
  rw [List.length_map] at h1
  exact ⟨n + 1, by omega, .tup h2⟩
theorem lc_row {P : List (List (List Nat) × List Nat)} {L : List (List Nat)} (hP : GoodP P L) {A : Ah} {v : Nat} {Γ : Gt} {q : D → Ah → Prop} (hv : v < Γ.length) (h : ∀ p A', Ext A A' → A' p = some (.lst (rowD (P.map (·.1)))) → q (.ref p) A') :
    lcR ⟨none, (P.map beatD).length, fun i => (P.map beatD).getD i .non⟩ A (agName v) aYes (aOp aIx (aVar v) (aC (.int 0))) [v] Γ q := by
  refine lc_of (it := ⟨none, (P.map beatD).length, fun i => (P.map beatD).getD i .non⟩) (fun i => match (P.map beatD).getD i .non with | .tup [a, _] => a | _ => .non) rfl (by show (P.map beatD).length ≤ big; rw [List.length_map, big_eq]; have := hP.le; omega) (fun i A' k sk hi e hk => ?_) (fun p hp => ?_)
  · have hi : i < P.length := by rw [show _ = (P.map beatD).length from rfl, List.length_map] at hi; exact hi
    have hk : k (match (P.map beatD).getD i .non with | .tup [a, _] => a | _ => .non) A' := hk
    show agName v ((P.map beatD).getD i .non) _ _ _
    rw [map_getD _ hi] at hk ⊢
    generalize P[i] = b at hk ⊢
    obtain ⟨b1, b2⟩ := b
    have hset : ((wipeG Γ [v]).set v (some (beatD (b1, b2))))[v]? = some (some (beatD (b1, b2))) := by
      rw [List.getElem?_set_self]
      show v < ((wipeG Γ []).set v none).length
      rw [List.length_set]; exact hv
    show bsel true _ _
    refine ⟨fun _ => ?_, fun z => Bool.noConfusion z⟩
    show aVar v ((wipeG Γ [v]).set v (some (beatD (b1, b2)))) A' _ _
    unfold aVar
    rw [hset]
    exact ⟨_, atI_zero', hk⟩
  · have : (List.range (P.map beatD).length).map (fun i => match (P.map beatD).getD i .non with | .tup [a, _] => a | _ => .non) = rowD (P.map (·.1)) := by
      rw [map_range_getD beatD (fun d => match d with | .tup [a, _] => a | _ => .non)]
      unfold rowD
      rw [List.map_map]
      rfl
    exact h p _ (.new hp) (by rw [updA_same]; exact congrArg (fun z => some (Cell.lst z)) this)
theorem lc_word {P : List (List (List Nat) × List Nat)} {L : List (List Nat)} (hP : GoodP P L) {A : Ah} {v : Nat} {Γ : Gt} {q : D → Ah → Prop} (hv : v < Γ.length) (h : ∀ p A', Ext A A' → A' p = some (.lst ((P.map (·.2)).map D.str)) → q (.ref p) A') :
    lcR ⟨none, (P.map beatD).length, fun i => (P.map beatD).getD i .non⟩ A (agName v) aYes (aOp aIx (aVar v) (aC (.int 1))) [v] Γ q := by
  refine lc_of (it := ⟨none, (P.map beatD).length, fun i => (P.map beatD).getD i .non⟩) (fun i => match (P.map beatD).getD i .non with | .tup [_, a] => a | _ => .non) rfl (by show (P.map beatD).length ≤ big; rw [List.length_map, big_eq]; have := hP.le; omega) (fun i A' k sk hi e hk => ?_) (fun p hp => ?_)
  · have hi : i < P.length := by rw [show _ = (P.map beatD).length from rfl, List.length_map] at hi; exact hi
    have hk : k (match (P.map beatD).getD i .non with | .tup [_, a] => a | _ => .non) A' := hk
    show agName v ((P.map beatD).getD i .non) _ _ _
    rw [map_getD _ hi] at hk ⊢
    generalize P[i] = b at hk ⊢
    obtain ⟨b1, b2⟩ := b
    have hset : ((wipeG Γ [v]).set v (some (beatD (b1, b2))))[v]? = some (some (beatD (b1, b2))) := by
      rw [List.getElem?_set_self]
      show v < ((wipeG Γ []).set v none).length
      rw [List.length_set]; exact hv
    show bsel true _ _
    refine ⟨fun _ => ?_, fun z => Bool.noConfusion z⟩
    show aVar v ((wipeG Γ [v]).set v (some (beatD (b1, b2)))) A' _ _
    unfold aVar
    rw [hset]
    exact ⟨_, atI_one', hk⟩
  · have : (List.range (P.map beatD).length).map (fun i => match (P.map beatD).getD i .non with | .tup [_, a] => a | _ => .non) = (P.map (·.2)).map D.str := by
      rw [map_range_getD beatD (fun d => match d with | .tup [_, a] => a | _ => .non)]
      rw [List.map_map]
      rfl
    exact h p _ (.new hp) (by rw [updA_same]; exact congrArg (fun z => some (Cell.lst z)) this)
theorem due1 (s : String) (d : D) (h : Pl 1 d) : Pl 4 (.tup [.str (tl s), .tup [d]]) := .tup (.cons (n := 1) (.str _) (.cons (n := 2) (m := 0) (.tup (.cons (n := 1) (m := 0) h .nil)) .nil))
theorem due2 (s : String) (d e : D) (h : Pl 1 d) (g : Pl 1 e) : Pl 5 (.tup [.str (tl s), .tup [d, e]]) := .tup (.cons (n := 1) (.str _) (.cons (n := 3) (m := 0) (.tup (.cons (n := 1) h (.cons (n := 1) (m := 0) g .nil))) .nil))
/-! tables of numbers -/
def accS (xs ys : List Int) (m : Nat) : Nat → Int
  | 0 => 0
  | p + 1 => accS xs ys m p + xs.getD (p + 1) 0 * ys.getD (m - (p + 1)) 0
def fcN : Nat → Nat
  | 0 => 1
  | n + 1 => fcN n * (n + 1)
def Sm1 (v : Int) : Prop := -1000000000000000000000000000000 ≤ v ∧ v ≤ 1000000000000000000000000000000
instance (v : Int) : Decidable (Sm1 v) := by unfold Sm1; infer_instance
theorem Sm1.ok {v : Int} (h : Sm1 v) : SmallI v := small128 (by have := h.1; omega) (by have := h.2; omega)
theorem getD_int {L : List Int} {i : Nat} (h : i < L.length) : L2.atI (L.map D.int) (i : Int) = some (.int (L.getD i 0)) := by
  rw [atI_map D.int h, List.getD_eq_getElem?_getD, List.getElem?_eq_getElem h]; rfl
theorem getD_mem' {L : List Int} {i : Nat} (h : i < L.length) : L.getD i 0 ∈ L := by
  rw [List.getD_eq_getElem?_getD, List.getElem?_eq_getElem h]
  exact List.getElem_mem h
theorem sum_acc (xs ys : List Int) (m : Nat) : ∀ n : Nat, ((List.range n).map fun k => xs.getD (1 + k) 0 * ys.getD (m - (1 + k)) 0).sum = accS xs ys m n
  | 0 => rfl
  | n + 1 => by
    rw [List.range_succ, List.map_append, List.sum_append, sum_acc xs ys m n, accS]
    simp [Nat.add_comm]
def sp_factorial_of : ASp := fun ds A q x => ∃ n : Nat, ds = [.int n] ∧ n ≤ 30 ∧ q (.int (fcN n : Nat)) A
structure FTb where
  al : List Int
  pl : List Int
  ch : List Int
  fi : List Int
  ba : List Int
  ro : List Int
def ftStep (s : FTb) (m : Nat) : FTb :=
  let f := accS s.pl s.al m (m - 1)
  let b := accS s.al s.ch m (m - 1)
  let t := accS s.al s.ba m (m - 1)
  let c := if 1 < m then f + b + t else 1
  ⟨s.al ++ [c], s.pl ++ [c - f], s.ch ++ [c + b], s.fi ++ [f], s.ba ++ [b], s.ro ++ [t]⟩
def ftN : Nat → FTb
  | 0 => ⟨[0], [0], [1], [0], [0], [0]⟩
  | n + 1 => ftStep (ftN n) (n + 1)
def frN (n : Nat) : Int := (ftN n).al.getD n 0
def ftOk (s : FTb) (n : Nat) : Prop := s.al.length = n + 1 ∧ s.pl.length = n + 1 ∧ s.ch.length = n + 1 ∧ s.fi.length = n + 1 ∧ s.ba.length = n + 1 ∧ s.ro.length = n + 1 ∧ (∀ v ∈ s.al, Sm1 v) ∧ (∀ v ∈ s.pl, Sm1 v) ∧ (∀ v ∈ s.ch, Sm1 v) ∧ (∀ v ∈ s.ba, Sm1 v)
instance (s : FTb) (n : Nat) : Decidable (ftOk s n) := by unfold ftOk; infer_instance
def sp_frame_tables : ASp := fun ds A q x => ∃ n : Nat, ds = [.int n] ∧ 1 ≤ n ∧ n ≤ 12 ∧ ∀ (p : Addr) (d : D) A', Ext A A' → A' p = some (.lst ((ftN n).al.map D.int)) → q (.tup [.ref p, d]) A'
def sp__law_mix : ASp := fun ds A q x => ∃ i, ds = [.int i] ∧ ∀ j, 0 ≤ j → j < 18446744073709551557 → q (.int j) A
def sp__law_equal : ASp := fun ds A q x => ∃ d n, ds = [d, d] ∧ Pl n d ∧ n < 400000 ∧ ∀ A', Ext A A' → q (.bl true) A'
def hsp__law_error : HSp := fun a ε ds A q x => ds = [.ref a] ∧ ((∃ v0 : D, ε.cls = "BadNumber" ∧ A ε.d = some (.xd [("number", v0)]) ∧ ∀ A', Ext A A' → q (.tup [.str (tl "BadNumber"), .tup [v0]]) A'))
def amL (o : List Int) : Nat → List Int
  | 0 => [1]
  | n + 1 => amL o n ++ [accS o (amL o n) (n + 1) (n + 1)]
def sqL (o : List Int) (n : Nat) : List Int := [0] ++ (List.range n).map fun k => (amL o n).getD (1 + k) 0 - o.getD (1 + k) 0
theorem amL_len (o : List Int) : ∀ n, (amL o n).length = n + 1
  | 0 => rfl
  | n + 1 => by rw [amL, List.length_append, amL_len o n]; rfl
theorem sqL_len (o : List Int) (n : Nat) : (sqL o n).length = n + 1 := by unfold sqL; simp
def sp__law_sequences : ASp := fun ds A q x => ∃ (p : Addr) (o : List Int) (n : Nat), ds = [.ref p, .int n] ∧ A p = some (.lst (o.map D.int)) ∧ n ≤ 12 ∧ n < o.length ∧ (∀ v ∈ o, Sm1 v) ∧ (∀ v ∈ amL o n, Sm1 v) ∧
  ∀ r A', Ext A A' → A' r = some (.lst ((sqL o n).map D.int)) → q (.ref r) A'
def sp_frames_over : ASp := fun ds A q x => ∃ n : Nat, ds = [.int n] ∧ 1 ≤ n ∧ n ≤ 12 ∧ ∀ A', Ext A A' → q (.int (frN n)) A'
def sp__law_store : ASp := fun ds A q x => ∃ is : List Int, ds = [.lof (is.map D.int)] ∧ ∀ l A', St A' l 0 → q (.ref l) A'
def sp__law_take : ASp := fun ds A q x => ∃ l n many, ds = [.ref l, .int many] ∧ St A l n ∧ n ≤ 1000000000000000000 ∧ many ≤ 1000000000000000000000000000000 ∧ ∀ j A', 0 ≤ j → (j < many ∨ j = 0) → Kp l A A' → St A' l (n + 1) → q (.int j) A'
def lfN : Nat → List Int × List Int
  | 0 => ([0, 1], [0, 1])
  | k + 1 =>
    let e := (lfN k).1 ++ [0]
    let l := (lfN k).2 ++ [0]
    let n := k + 2
    let f := (sqL l n).getD n 0
    let b := sqL e n
    let t := b.getD n 0 + accS e b n (n - 1)
    (e.set n (f + t), l.set n t)
def lfOk (k : Nat) : Prop := (lfN k).1.length = k + 2 ∧ (lfN k).2.length = k + 2 ∧ (∀ v ∈ (lfN k).1 ++ [0], Sm1 v) ∧ (∀ v ∈ (lfN k).2 ++ [0], Sm1 v) ∧ (∀ v ∈ amL ((lfN k).1 ++ [0]) (k + 2), Sm1 v) ∧ (∀ v ∈ amL ((lfN k).2 ++ [0]) (k + 2), Sm1 v) ∧ (∀ v ∈ sqL ((lfN k).1 ++ [0]) (k + 2), Sm1 v)
instance (k : Nat) : Decidable (lfOk k) := by unfold lfOk; infer_instance
def sp__law_frames : ASp := fun ds A q x => ds = [] ∧ ∀ (p : Addr) A', A p = none → Ext A A' → A' p = some (.lst ((lfN 11).1.map D.int)) → q (.ref p) A'
def sp_check_number : ASp := fun ds A q x => ∃ j lo hi : Int, ds = [.int j, .int lo, .int hi] ∧ (lo ≤ j → j ≤ hi → q .non A) ∧ (¬ (lo ≤ j ∧ j ≤ hi) → ∀ d A', Ext A A' → A' d = some (.xd [("number", .int j)]) → x ⟨"BadNumber", d⟩ A')
def sp__law_shuffle : ASp := fun ds A q x => ∃ (l : Addr) (n : Nat) (d : D) (xs : List D), ds = [.ref l, d] ∧ St A l n ∧ n ≤ 100000000000000 ∧ ((∃ p, d = .ref p ∧ A p = some (.lst xs)) ∨ d = .tup xs) ∧ d ≠ .ref l ∧ xs.length ≤ 100000 ∧
  ∀ (p : Addr) (ys : List D) A', ys.Perm xs → p ≠ l → A' p = some (.lst ys) → Kp l A A' → St A' l (n + xs.length) → q (.ref p) A'
def sp__law_outside : ASp := fun ds A q x => ∃ (l : Addr) (n : Nat), ds = [.ref l] ∧ St A l n ∧ n ≤ 100000000000000 ∧ ∀ (j : Int) A', ¬ (1 ≤ j ∧ j ≤ 12) → Kp l A A' → St A' l (n + 10) → q (.int j) A'
def sp_frame_count : ASp := fun ds A q x => ∃ j : Int, ds = [.int j] ∧ (1 ≤ j → j ≤ 12 → ∀ A', Ext A A' → q (.int (frN j.toNat)) A') ∧ (¬ (1 ≤ j ∧ j ≤ 12) → ∀ d A', Ext A A' → A' d = some (.xd [("number", .int j)]) → x ⟨"BadNumber", d⟩ A')
def sp_short_count : ASp := fun ds A q x => ∃ j : Int, ds = [.int j] ∧ (1 ≤ j → j ≤ 12 → ∀ A', Ext A A' → q (.int ((fcN j.toNat : Nat) * frN j.toNat)) A') ∧ (¬ (1 ≤ j ∧ j ≤ 12) → ∀ d A', Ext A A' → A' d = some (.xd [("number", .int j)]) → x ⟨"BadNumber", d⟩ A')
/-- what the law tells of a count: a right number's, or the refusal -/
def trD (w : Int) (j : Int) : D := if 1 ≤ j ∧ j ≤ 12 then .tup [.str (tl ""), .int (if w = 0 then frN j.toNat else (fcN j.toNat : Nat) * frN j.toNat)] else .tup [.str (tl "BadNumber"), .tup [.int j]]
def sp__law_tried : ASp := fun ds A q x => ∃ w j : Int, ds = [.int w, .int j] ∧ ∀ A', Ext A A' → q (trD w j) A'
def sp__law_countsright : ASp := fun ds A q x => ∃ (n : Nat) (p : Addr) (w : Int), ds = [.int n, .ref p, .int w] ∧ 1 ≤ n ∧ n ≤ 12 ∧ (w = 0 ∨ w = 1) ∧ A p = some (.lst ((lfN 11).1.map D.int)) ∧ ∀ A', Ext A A' → q (.bl true) A'
def sp_law : ASp := fun ds A q x => ∃ is : List Int, ds = [.lof (is.map D.int)] ∧ ∀ A', q (.bl true) A'
def as_factorial_of_2 : AS := (aSeq (aFor (aRng2 (aCons (aC (.int 2)) (aCons (aOp aAdd (aVar 0) (aC (.int 1))) aNil))) (agName 2) (aAugM 1 (aVar 2))) (aRet (aVar 1)))
def as_factorial_of : AS := (aSeq (aAsg (aC (.int 1)) (agName 1)) as_factorial_of_2)

theorem pure_factorial_of (ds : List D) (A : Ah) (q : D → Ah → Prop) (x : AX) : sp_factorial_of ds A q x → as_factorial_of (endsA q x) (startA ["number", "total", "factor"] ds) A := by
  rintro ⟨n, rfl, hn, h⟩
  (conv => whnf)
  refine ⟨by omega, fun i Γ A' => ∃ z, Γ = [some (.int n), some (.int (fcN (i + 1) : Nat)), z] ∧ A' = A, ⟨_, rfl, rfl⟩, fun _ _ _ _ _ => trivial, ?_, ?_⟩
  · rintro i Γ A' (hi : i < ((n : Int) + 1 - 2).toNat) ⟨z, rfl, rfl⟩
    (conv => whnf)
    refine ⟨by omega, ?_⟩
    refine ⟨some (.int (2 + (i : Int))), ?_, rfl⟩
    have : ((fcN (i + 1 + 1) : Nat) : Int) = ((fcN (i + 1) : Nat) : Int) * (2 + (i : Int)) := by
      rw [fcN]; push_cast; congr 1; omega
    rw [this]; rfl
  · rintro Γ A' ⟨z, rfl, rfl⟩
    have e : fcN (((n : Int) + 1 - 2).toNat + 1) = fcN n := by
      cases n with
      | zero => rfl
      | succ n => congr 1; omega
    show q (.int (fcN (((n : Int) + 1 - 2).toNat + 1) : Nat)) _
    rw [e]
    exact h
theorem len_factorial_of (ds : List D) (A : Ah) (q : D → Ah → Prop) (x : AX) : sp_factorial_of ds A q x → ds.length = 1 := by
  rintro ⟨n, rfl, _⟩; rfl
def as_frame_tables_8 : AS := (aAug 10 (aOp aMul (aOp aIx (aVar 1) (aVar 11)) (aOp aIx (aVar 5) (aOp aSub (aVar 7) (aVar 11)))) (fun i j => i + j))
def as_frame_tables_7 : AS := (aSeq (aAug 9 (aOp aMul (aOp aIx (aVar 1) (aVar 11)) (aOp aIx (aVar 3) (aOp aSub (aVar 7) (aVar 11)))) (fun i j => i + j)) as_frame_tables_8)
def as_frame_tables_6 : AS := (aSeq (aAug 8 (aOp aMul (aOp aIx (aVar 2) (aVar 11)) (aOp aIx (aVar 1) (aOp aSub (aVar 7) (aVar 11)))) (fun i j => i + j)) as_frame_tables_7)
def as_frame_tables_15 : AS := (aDrop (aMethL aAppend (aVar 6) (aCons (aVar 10) aNil)))
def as_frame_tables_14 : AS := (aSeq (aDrop (aMethL aAppend (aVar 5) (aCons (aVar 9) aNil))) as_frame_tables_15)
def as_frame_tables_13 : AS := (aSeq (aDrop (aMethL aAppend (aVar 4) (aCons (aVar 8) aNil))) as_frame_tables_14)
def as_frame_tables_12 : AS := (aSeq (aDrop (aMethL aAppend (aVar 3) (aCons (aOp aAdd (aVar 12) (aVar 9)) aNil))) as_frame_tables_13)
def as_frame_tables_11 : AS := (aSeq (aDrop (aMethL aAppend (aVar 2) (aCons (aOp aSub (aVar 12) (aVar 8)) aNil))) as_frame_tables_12)
def as_frame_tables_10 : AS := (aSeq (aDrop (aMethL aAppend (aVar 1) (aCons (aVar 12) aNil))) as_frame_tables_11)
def as_frame_tables_9 : AS := (aSeq (aAsg (aIfE (aTest (aOp aGt (aVar 7) (aC (.int 1)))) (aOp aAdd (aOp aAdd (aVar 8) (aVar 9)) (aVar 10)) (aC (.int 1))) (agName 12)) as_frame_tables_10)
def as_frame_tables_5 : AS := (aSeq (aFor (aRng2 (aCons (aC (.int 1)) (aCons (aVar 7) aNil))) (agName 11) as_frame_tables_6) as_frame_tables_9)
def as_frame_tables_4 : AS := (aSeq (aAsg (aTup (aCons (aC (.int 0)) (aCons (aC (.int 0)) (aCons (aC (.int 0)) aNil)))) (agTup 3 (agCons (agName 8) (agCons (agName 9) (agCons (agName 10) agNil))))) as_frame_tables_5)
def as_frame_tables_19 : AS := (aRet (aTup (aCons (aVar 1) (aCons (aVar 15) aNil))))
def as_frame_tables_18 : AS := (aSeq (aAsg (aDisp [tl "first", tl "back", tl "round"] (aCons (aTup (aCons (aVar 2) (aCons (aVar 4) (aCons (aLst (aCons (aOp aAdd (aLst (aCons (aC (.int 1)) aNil)) (aSl (aVar 1) (aPart (aC (.int 1))) aNoP)) (aCons (aVar 1) (aCons (aVar 4) aNil)))) aNil)))) (aCons (aTup (aCons (aVar 1) (aCons (aVar 13) (aCons (aLst (aCons (aVar 3) (aCons (aVar 14) (aCons (aVar 5) aNil)))) aNil)))) (aCons (aTup (aCons (aVar 1) (aCons (aVar 13) (aCons (aLst (aCons (aVar 3) (aCons (aVar 14) (aCons (aVar 5) (aCons (aVar 6) aNil))))) aNil)))) aNil)))) (agName 15)) as_frame_tables_19)
def as_frame_tables_17 : AS := (aSeq (aAsg (aOp aAdd (aLst (aCons (aC (.int 0)) aNil)) (aSl (aVar 3) (aPart (aC (.int 1))) aNoP)) (agName 14)) as_frame_tables_18)
def as_frame_tables_16 : AS := (aSeq (aAsg (aOp aMul (aLst (aCons (aC (.int 0)) aNil)) (aOp aAdd (aVar 0) (aC (.int 1)))) (agName 13)) as_frame_tables_17)
def as_frame_tables_3 : AS := (aSeq (aFor (aRng2 (aCons (aC (.int 1)) (aCons (aOp aAdd (aVar 0) (aC (.int 1))) aNil))) (agName 7) as_frame_tables_4) as_frame_tables_16)
def as_frame_tables_2 : AS := (aSeq (aPar3 4 5 6 (aCons (aLst (aCons (aC (.int 0)) aNil)) (aCons (aLst (aCons (aC (.int 0)) aNil)) (aCons (aLst (aCons (aC (.int 0)) aNil)) aNil)))) as_frame_tables_3)
def as_frame_tables : AS := (aSeq (aPar3 1 2 3 (aCons (aLst (aCons (aC (.int 0)) aNil)) (aCons (aLst (aCons (aC (.int 0)) aNil)) (aCons (aLst (aCons (aC (.int 1)) aNil)) aNil)))) as_frame_tables_2)

theorem ftN_ok : ∀ n, n ≤ 12 → ftOk (ftN n) n := by decide +kernel
/-- six lists stand -/
def Six (A : Ah) (p1 p2 p3 p4 p5 p6 : Addr) (s : FTb) : Prop := A p1 = some (.lst (s.al.map D.int)) ∧ A p2 = some (.lst (s.pl.map D.int)) ∧ A p3 = some (.lst (s.ch.map D.int)) ∧ A p4 = some (.lst (s.fi.map D.int)) ∧ A p5 = some (.lst (s.ba.map D.int)) ∧ A p6 = some (.lst (s.ro.map D.int))
theorem Six.ext {A B : Ah} {p1 p2 p3 p4 p5 p6 : Addr} {s : FTb} (h : Six A p1 p2 p3 p4 p5 p6 s) (g : Ext A B) : Six B p1 p2 p3 p4 p5 p6 s := ⟨g _ _ h.1, g _ _ h.2.1, g _ _ h.2.2.1, g _ _ h.2.2.2.1, g _ _ h.2.2.2.2.1, g _ _ h.2.2.2.2.2⟩
theorem pure_frame_tables (ds : List D) (A : Ah) (q : D → Ah → Prop) (x : AX) : sp_frame_tables ds A q x → as_frame_tables (endsA q x) (startA ["size", "alls", "plains", "chains", "firsts", "backs", "rounds", "many", "first", "back", "turn", "part", "count", "zeros", "some", "kinds"] ds) A := by
  rintro ⟨n, rfl, n1, n12, h⟩
  (conv => whnf)
  refine ⟨Nat.le_of_ble_eq_true rfl, fun p1 h1 => ?_⟩
  (conv => whnf)
  refine ⟨Nat.le_of_ble_eq_true rfl, fun p2 h2 => ?_⟩
  (conv => whnf)
  refine ⟨Nat.le_of_ble_eq_true rfl, fun p3 h3 => ?_⟩
  (conv => whnf)
  refine ⟨Nat.le_of_ble_eq_true rfl, fun p4 h4 => ?_⟩
  (conv => whnf)
  refine ⟨Nat.le_of_ble_eq_true rfl, fun p5 h5 => ?_⟩
  (conv => whnf)
  refine ⟨Nat.le_of_ble_eq_true rfl, fun p6 h6 => ?_⟩
  have e1 : updA A p1 (.lst [.int 0]) p1 = some (.lst [.int 0]) := updA_same
  have G1 : Ext A (updA A p1 (.lst [.int 0])) := .new h1
  generalize updA A p1 (.lst [.int 0]) = A1 at e1 G1 h2 h3 h4 h5 h6 ⊢
  have n12' : p1 ≠ p2 := neA e1 h2
  have g2A := G1.none h2
  have e2 : updA A1 p2 (.lst [.int 0]) p2 = some (.lst [.int 0]) := updA_same
  have e1 := Ext.new (c := .lst [.int 0]) h2 _ _ e1
  have G2 := G1.newer (c := .lst [.int 0]) h2
  generalize updA A1 p2 (.lst [.int 0]) = A2 at e1 e2 G2 h3 h4 h5 h6 ⊢
  have n13 : p1 ≠ p3 := neA e1 h3
  have n23 : p2 ≠ p3 := neA e2 h3
  have g3A := G2.none h3
  have e3 : updA A2 p3 (.lst [.int 1]) p3 = some (.lst [.int 1]) := updA_same
  have e1 := Ext.new (c := .lst [.int 1]) h3 _ _ e1
  have e2 := Ext.new (c := .lst [.int 1]) h3 _ _ e2
  have G3 := G2.newer (c := .lst [.int 1]) h3
  generalize updA A2 p3 (.lst [.int 1]) = A3 at e1 e2 e3 G3 h4 h5 h6 ⊢
  have n14 : p1 ≠ p4 := neA e1 h4
  have n24 : p2 ≠ p4 := neA e2 h4
  have n34 : p3 ≠ p4 := neA e3 h4
  have g4A := G3.none h4
  have e4 : updA A3 p4 (.lst [.int 0]) p4 = some (.lst [.int 0]) := updA_same
  have e1 := Ext.new (c := .lst [.int 0]) h4 _ _ e1
  have e2 := Ext.new (c := .lst [.int 0]) h4 _ _ e2
  have e3 := Ext.new (c := .lst [.int 0]) h4 _ _ e3
  have G4 := G3.newer (c := .lst [.int 0]) h4
  generalize updA A3 p4 (.lst [.int 0]) = A4 at e1 e2 e3 e4 G4 h5 h6 ⊢
  have n15 : p1 ≠ p5 := neA e1 h5
  have n25 : p2 ≠ p5 := neA e2 h5
  have n35 : p3 ≠ p5 := neA e3 h5
  have n45 : p4 ≠ p5 := neA e4 h5
  have g5A := G4.none h5
  have e5 : updA A4 p5 (.lst [.int 0]) p5 = some (.lst [.int 0]) := updA_same
  have e1 := Ext.new (c := .lst [.int 0]) h5 _ _ e1
  have e2 := Ext.new (c := .lst [.int 0]) h5 _ _ e2
  have e3 := Ext.new (c := .lst [.int 0]) h5 _ _ e3
  have e4 := Ext.new (c := .lst [.int 0]) h5 _ _ e4
  have G5 := G4.newer (c := .lst [.int 0]) h5
  generalize updA A4 p5 (.lst [.int 0]) = A5 at e1 e2 e3 e4 e5 G5 h6 ⊢
  have n16 : p1 ≠ p6 := neA e1 h6
  have n26 : p2 ≠ p6 := neA e2 h6
  have n36 : p3 ≠ p6 := neA e3 h6
  have n46 : p4 ≠ p6 := neA e4 h6
  have n56 : p5 ≠ p6 := neA e5 h6
  have g6A := G5.none h6
  have e6 : updA A5 p6 (.lst [.int 0]) p6 = some (.lst [.int 0]) := updA_same
  have e1 := Ext.new (c := .lst [.int 0]) h6 _ _ e1
  have e2 := Ext.new (c := .lst [.int 0]) h6 _ _ e2
  have e3 := Ext.new (c := .lst [.int 0]) h6 _ _ e3
  have e4 := Ext.new (c := .lst [.int 0]) h6 _ _ e4
  have e5 := Ext.new (c := .lst [.int 0]) h6 _ _ e5
  have G6 := G5.newer (c := .lst [.int 0]) h6
  generalize updA A5 p6 (.lst [.int 0]) = A6 at e1 e2 e3 e4 e5 e6 G6 ⊢
  have six0 : Six A6 p1 p2 p3 p4 p5 p6 (ftN 0) := ⟨e1, e2, e3, e4, e5, e6⟩
  clear e1 e2 e3 e4 e5 e6 G1 G2 G3 G4 G5
  (conv => whnf)
  refine ⟨by omega, fun i Γ A' => ∃ a b c d e f, Γ = [some (.int n), some (.ref p1), some (.ref p2), some (.ref p3), some (.ref p4), some (.ref p5), some (.ref p6), a, b, c, d, e, f, none, none, none] ∧ Ext A A' ∧ Six A' p1 p2 p3 p4 p5 p6 (ftN i), ⟨_, _, _, _, _, _, rfl, G6, six0⟩, fun _ _ _ _ _ => trivial, ?_, ?_⟩
  · rintro i Γ A7 (hi : i < ((n : Int) + 1 - 1).toNat) ⟨a, b, c, d, e, f, rfl, G7, S7⟩
    have hi : i < n := by omega
    obtain ⟨o1, o2, o3, o4, o5, o6, b1, b2, b3, b5⟩ := ftN_ok i (by omega)
    obtain ⟨e1, e2, e3, e4, e5, e6⟩ := S7
    (conv => whnf)
    refine ⟨Nat.le_of_ble_eq_true rfl, rfl, rfl, ?_⟩
    (conv => whnf)
    refine ⟨by omega, fun j Γ A' => ∃ w, Γ = [some (.int n), some (.ref p1), some (.ref p2), some (.ref p3), some (.ref p4), some (.ref p5), some (.ref p6), some (.int (1 + (i : Int))), some (.int (accS (ftN i).pl (ftN i).al (i + 1) j)), some (.int (accS (ftN i).al (ftN i).ch (i + 1) j)), some (.int (accS (ftN i).al (ftN i).ba (i + 1) j)), w, f, none, none, none] ∧ A' = A7, ⟨_, rfl, rfl⟩, fun _ _ _ _ _ => trivial, ?_, ?_⟩
    · rintro j Γ A8 (hj : j < (1 + (i : Int) - 1).toNat) ⟨w, rfl, rfl⟩
      have hj : j < i := by omega
      have c1 : (1 + (j : Int)) = ((j + 1 : Nat) : Int) := by omega
      have c2 : (1 + (i : Int) - (1 + (j : Int))) = ((i + 1 - (j + 1) : Nat) : Int) := by omega
      (conv => whnf)
      refine ⟨_, e2, _, (by rw [c1]; exact getD_int (by omega)), ?_⟩
      (conv => whnf)
      refine ⟨_, e1, _, (by rw [c2]; exact getD_int (by omega)), ?_⟩
      (conv => whnf)
      refine ⟨(b2 _ (getD_mem' (by omega))).ok, (b1 _ (getD_mem' (by omega))).ok, ?_⟩
      (conv => whnf)
      refine ⟨_, e1, _, (by rw [c1]; exact getD_int (by omega)), ?_⟩
      (conv => whnf)
      refine ⟨_, e3, _, (by rw [c2]; exact getD_int (by omega)), ?_⟩
      (conv => whnf)
      refine ⟨(b1 _ (getD_mem' (by omega))).ok, (b3 _ (getD_mem' (by omega))).ok, ?_⟩
      (conv => whnf)
      refine ⟨_, e1, _, (by rw [c1]; exact getD_int (by omega)), ?_⟩
      (conv => whnf)
      refine ⟨_, e5, _, (by rw [c2]; exact getD_int (by omega)), ?_⟩
      (conv => whnf)
      refine ⟨(b1 _ (getD_mem' (by omega))).ok, (b5 _ (getD_mem' (by omega))).ok, ?_⟩
      exact ⟨_, rfl, rfl⟩
    · rintro Γ A8 ⟨w, rfl, rfl⟩
      have cj : (1 + (i : Int) - 1).toNat = i := by omega
      show as_frame_tables_9 _ [some (.int n), some (.ref p1), some (.ref p2), some (.ref p3), some (.ref p4), some (.ref p5), some (.ref p6), some (.int (1 + (i : Int))), some (.int (accS (ftN i).pl (ftN i).al (i + 1) (1 + (i : Int) - 1).toNat)), some (.int (accS (ftN i).al (ftN i).ch (i + 1) (1 + (i : Int) - 1).toNat)), some (.int (accS (ftN i).al (ftN i).ba (i + 1) (1 + (i : Int) - 1).toNat)), w, f, none, none, none] _
      rw [cj]
      have rest : ∀ vc : Int, vc = (if 1 < i + 1 then (accS (ftN i).pl (ftN i).al (i + 1) i) + (accS (ftN i).al (ftN i).ch (i + 1) i) + (accS (ftN i).al (ftN i).ba (i + 1) i) else 1) → as_frame_tables_10 { nx := fun Γ A' => ∃ a b c d e f, Γ = [some (.int n), some (.ref p1), some (.ref p2), some (.ref p3), some (.ref p4), some (.ref p5), some (.ref p6), a, b, c, d, e, f, none, none, none] ∧ Ext A A' ∧ Six A' p1 p2 p3 p4 p5 p6 ⟨(ftN i).al ++ [if 1 < i + 1 then (accS (ftN i).pl (ftN i).al (i + 1) i) + (accS (ftN i).al (ftN i).ch (i + 1) i) + (accS (ftN i).al (ftN i).ba (i + 1) i) else 1], (ftN i).pl ++ [(if 1 < i + 1 then (accS (ftN i).pl (ftN i).al (i + 1) i) + (accS (ftN i).al (ftN i).ch (i + 1) i) + (accS (ftN i).al (ftN i).ba (i + 1) i) else 1) - (accS (ftN i).pl (ftN i).al (i + 1) i)], (ftN i).ch ++ [(if 1 < i + 1 then (accS (ftN i).pl (ftN i).al (i + 1) i) + (accS (ftN i).al (ftN i).ch (i + 1) i) + (accS (ftN i).al (ftN i).ba (i + 1) i) else 1) + (accS (ftN i).al (ftN i).ch (i + 1) i)], (ftN i).fi ++ [(accS (ftN i).pl (ftN i).al (i + 1) i)], (ftN i).ba ++ [(accS (ftN i).al (ftN i).ch (i + 1) i)], (ftN i).ro ++ [(accS (ftN i).al (ftN i).ba (i + 1) i)]⟩, rt := q, bk := fun _ _ => False, ct := fun _ _ => False, ex := fun e _ A' => x e A' } [some (.int n), some (.ref p1), some (.ref p2), some (.ref p3), some (.ref p4), some (.ref p5), some (.ref p6), some (.int (1 + (i : Int))), some (.int (accS (ftN i).pl (ftN i).al (i + 1) i)), some (.int (accS (ftN i).al (ftN i).ch (i + 1) i)), some (.int (accS (ftN i).al (ftN i).ba (i + 1) i)), w, some (.int vc), none, none, none] A8 := by
        intro vc hvc
        rw [← hvc]
        (conv => whnf)
        refine ⟨⟨_, e1⟩, ?_⟩
        (conv => whnf)
        refine ⟨_, e1, by rw [List.length_map, big_eq]; omega, ?_⟩
        have f2 : ∀ c, updA A8 p1 c p2 = some (.lst ((ftN i).pl.map D.int)) := fun c => by rw [updA_ne (Ne.symm n12')]; exact e2
        have f3 : ∀ c, updA A8 p1 c p3 = some (.lst ((ftN i).ch.map D.int)) := fun c => by rw [updA_ne (Ne.symm n13)]; exact e3
        have f4 : ∀ c, updA A8 p1 c p4 = some (.lst ((ftN i).fi.map D.int)) := fun c => by rw [updA_ne (Ne.symm n14)]; exact e4
        have f5 : ∀ c, updA A8 p1 c p5 = some (.lst ((ftN i).ba.map D.int)) := fun c => by rw [updA_ne (Ne.symm n15)]; exact e5
        have f6 : ∀ c, updA A8 p1 c p6 = some (.lst ((ftN i).ro.map D.int)) := fun c => by rw [updA_ne (Ne.symm n16)]; exact e6
        have f1 : updA A8 p1 (.lst ((ftN i).al.map D.int ++ [.int vc])) p1 = some (.lst (((ftN i).al ++ [vc]).map D.int)) := by rw [updA_same, List.map_append]; rfl
        have G8 := G7.upd (c := .lst ((ftN i).al.map D.int ++ [.int vc])) h1
        have f2 := f2 (.lst ((ftN i).al.map D.int ++ [.int vc]))
        have f3 := f3 (.lst ((ftN i).al.map D.int ++ [.int vc]))
        have f4 := f4 (.lst ((ftN i).al.map D.int ++ [.int vc]))
        have f5 := f5 (.lst ((ftN i).al.map D.int ++ [.int vc]))
        have f6 := f6 (.lst ((ftN i).al.map D.int ++ [.int vc]))
        generalize updA A8 p1 (.lst ((ftN i).al.map D.int ++ [.int vc])) = B1 at f1 f2 f3 f4 f5 f6 G8 ⊢
        (conv => whnf)
        refine ⟨⟨_, f2⟩, ?_⟩
        (conv => whnf)
        refine ⟨_, f2, by rw [List.length_map, big_eq]; omega, ?_⟩
        (conv => whnf)
        refine ⟨⟨_, by rw [updA_ne (Ne.symm n23)]; exact f3⟩, ?_⟩
        (conv => whnf)
        refine ⟨_, by rw [updA_ne (Ne.symm n23)]; exact f3, by rw [List.length_map, big_eq]; omega, ?_⟩
        (conv => whnf)
        refine ⟨⟨_, by rw [updA_ne (Ne.symm n34), updA_ne (Ne.symm n24)]; exact f4⟩, ?_⟩
        (conv => whnf)
        refine ⟨_, by rw [updA_ne (Ne.symm n34), updA_ne (Ne.symm n24)]; exact f4, by rw [List.length_map, big_eq]; omega, ?_⟩
        (conv => whnf)
        refine ⟨⟨_, by rw [updA_ne (Ne.symm n45), updA_ne (Ne.symm n35), updA_ne (Ne.symm n25)]; exact f5⟩, ?_⟩
        (conv => whnf)
        refine ⟨_, by rw [updA_ne (Ne.symm n45), updA_ne (Ne.symm n35), updA_ne (Ne.symm n25)]; exact f5, by rw [List.length_map, big_eq]; omega, ?_⟩
        (conv => whnf)
        refine ⟨⟨_, by rw [updA_ne (Ne.symm n56), updA_ne (Ne.symm n46), updA_ne (Ne.symm n36), updA_ne (Ne.symm n26)]; exact f6⟩, ?_⟩
        (conv => whnf)
        refine ⟨_, by rw [updA_ne (Ne.symm n56), updA_ne (Ne.symm n46), updA_ne (Ne.symm n36), updA_ne (Ne.symm n26)]; exact f6, by rw [List.length_map, big_eq]; omega, ?_⟩
        refine ⟨_, _, _, _, _, _, rfl, ((((G8.upd g2A).upd g3A).upd g4A).upd g5A).upd g6A, ?_, ?_, ?_, ?_, ?_, ?_⟩
        · rw [updA_ne n16, updA_ne n15, updA_ne n14, updA_ne n13, updA_ne n12']; exact f1
        · rw [updA_ne n26, updA_ne n25, updA_ne n24, updA_ne n23, updA_same, List.map_append]; rfl
        · rw [updA_ne n36, updA_ne n35, updA_ne n34, updA_same, List.map_append]; rfl
        · rw [updA_ne n46, updA_ne n45, updA_same, List.map_append]; rfl
        · rw [updA_ne n56, updA_same, List.map_append]; rfl
        · rw [updA_same, List.map_append]; rfl
      (conv => whnf)
      refine ⟨fun hm => ?_, fun hm => ?_⟩
      · have hm := of_decide_eq_true hm
        exact rest _ (by rw [if_pos (by omega)])
      · have hm := of_decide_eq_false hm
        exact rest 1 (by rw [if_neg (by omega)])
  · rintro Γ A7 ⟨a, b, c, d, e, f, rfl, G7, S7⟩
    have S7 : Six A7 p1 p2 p3 p4 p5 p6 (ftN ((n : Int) + 1 - 1).toNat) := S7
    rw [show ((n : Int) + 1 - 1).toNat = n by omega] at S7
    obtain ⟨o1, o2, o3, o4, o5, o6, _⟩ := ftN_ok n n12
    (conv => whnf)
    refine ⟨Nat.le_of_ble_eq_true rfl, fun r hr => ?_⟩
    have er : updA A7 r (.lst [.int 0]) r = some (.lst [.int 0]) := updA_same
    have S8 := S7.ext (Ext.new (c := .lst [.int 0]) hr)
    have G8 := G7.newer (c := .lst [.int 0]) hr
    generalize updA A7 r (.lst [.int 0]) = A8 at er S8 G8 ⊢
    (conv => whnf)
    refine ⟨_, er, by omega, by omega, by rw [List.length_singleton, big_eq]; omega, fun z hz => ?_⟩
    have S9 := S8.ext (Ext.new (c := .lst (List.replicate ((n : Int) + 1).toNat [D.int 0]).flatten) hz)
    have G9 := G8.newer (c := .lst (List.replicate ((n : Int) + 1).toNat [D.int 0]).flatten) hz
    generalize updA A8 z (.lst (List.replicate ((n : Int) + 1).toNat [D.int 0]).flatten) = A9 at S9 G9 ⊢
    (conv => whnf)
    refine ⟨Nat.le_of_ble_eq_true rfl, fun y hy => ?_⟩
    have ey : updA A9 y (.lst [.int 0]) y = some (.lst [.int 0]) := updA_same
    have S10 := S9.ext (Ext.new (c := .lst [.int 0]) hy)
    have G10 := G9.newer (c := .lst [.int 0]) hy
    generalize updA A9 y (.lst [.int 0]) = A10 at ey S10 G10 ⊢
    (conv => whnf)
    refine ⟨_, S10.2.2.1, fun u hu => ?_⟩
    have hcl : (GA.cutD ((ftN n).ch.map D.int) (some 1) none).length ≤ 13 := by
      have := cutD_le (xs := (ftN n).ch.map D.int) (lo := some 1) (hi := none)
      rw [List.length_map] at this
      omega
    generalize GA.cutD ((ftN n).ch.map D.int) (some 1) none = cu at hcl ⊢
    have eu : updA A10 u (.lst cu) u = some (.lst cu) := updA_same
    have ey := Ext.new (c := .lst cu) hu _ _ ey
    have S11 := S10.ext (Ext.new (c := .lst cu) hu)
    have G11 := G10.newer (c := .lst cu) hu
    generalize updA A10 u (.lst cu) = A11 at eu ey S11 G11 ⊢
    (conv => whnf)
    refine ⟨_, ey, _, eu, by rw [List.length_singleton, big_eq]; omega, fun v hv => ?_⟩
    have S12 := S11.ext (Ext.new (c := .lst ([.int 0] ++ cu)) hv)
    have G12 := G11.newer (c := .lst ([.int 0] ++ cu)) hv
    generalize updA A11 v (.lst ([.int 0] ++ cu)) = A12 at S12 G12 ⊢
    (conv => whnf)
    intro k hk
    have ek : updA A12 k (.dic []) k = some (.dic []) := updA_same
    have S13 := S12.ext (Ext.new (c := .dic []) hk)
    have G13 := G12.newer (c := .dic []) hk
    have hkA := G12.none hk
    generalize updA A12 k (.dic []) = A13 at ek S13 G13 ⊢
    (conv => whnf)
    refine ⟨Nat.le_of_ble_eq_true rfl, fun t1 ht1 => ?_⟩
    have et1 : updA A13 t1 (.lst [.int 1]) t1 = some (.lst [.int 1]) := updA_same
    have ek := Ext.new (c := .lst [.int 1]) ht1 _ _ ek
    have S14 := S13.ext (Ext.new (c := .lst [.int 1]) ht1)
    have G14 := G13.newer (c := .lst [.int 1]) ht1
    generalize updA A13 t1 (.lst [.int 1]) = A14 at et1 ek S14 G14 ⊢
    (conv => whnf)
    refine ⟨_, S14.1, fun t2 ht2 => ?_⟩
    have hcl : (GA.cutD ((ftN n).al.map D.int) (some 1) none).length ≤ 13 := by
      have := cutD_le (xs := (ftN n).al.map D.int) (lo := some 1) (hi := none)
      rw [List.length_map] at this
      omega
    generalize GA.cutD ((ftN n).al.map D.int) (some 1) none = cu2 at hcl ⊢
    have et2 : updA A14 t2 (.lst cu2) t2 = some (.lst cu2) := updA_same
    have ek := Ext.new (c := .lst cu2) ht2 _ _ ek
    have et1 := Ext.new (c := .lst cu2) ht2 _ _ et1
    have S15 := S14.ext (Ext.new (c := .lst cu2) ht2)
    have G15 := G14.newer (c := .lst cu2) ht2
    generalize updA A14 t2 (.lst cu2) = A15 at et1 et2 ek S15 G15 ⊢
    (conv => whnf)
    refine ⟨_, et1, _, et2, by rw [List.length_singleton, big_eq]; omega, fun t3 ht3 => ?_⟩
    have ek := Ext.new (c := .lst ([.int 1] ++ cu2)) ht3 _ _ ek
    have S16 := S15.ext (Ext.new (c := .lst ([.int 1] ++ cu2)) ht3)
    have G16 := G15.newer (c := .lst ([.int 1] ++ cu2)) ht3
    generalize updA A15 t3 (.lst ([.int 1] ++ cu2)) = A16 at ek S16 G16 ⊢
    (conv => whnf)
    refine ⟨Nat.le_of_ble_eq_true rfl, fun t4 ht4 => ?_⟩
    have ek := Ext.new (c := .lst [.ref t3, .ref p1, .ref p4]) ht4 _ _ ek
    have S17 := S16.ext (Ext.new (c := .lst [.ref t3, .ref p1, .ref p4]) ht4)
    have G17 := G16.newer (c := .lst [.ref t3, .ref p1, .ref p4]) ht4
    generalize updA A16 t4 (.lst [.ref t3, .ref p1, .ref p4]) = A17 at ek S17 G17 ⊢
    (conv => whnf)
    refine ⟨Nat.le_of_ble_eq_true rfl, ?_⟩
    (conv => whnf)
    refine ⟨Nat.le_of_ble_eq_true rfl, fun t5 ht5 => ?_⟩
    have ek := Ext.new (c := .lst [.ref p3, .ref v, .ref p5]) ht5 _ _ ek
    have S18 := S17.ext (Ext.new (c := .lst [.ref p3, .ref v, .ref p5]) ht5)
    have G18 := G17.newer (c := .lst [.ref p3, .ref v, .ref p5]) ht5
    generalize updA A17 t5 (.lst [.ref p3, .ref v, .ref p5]) = A18 at ek S18 G18 ⊢
    (conv => whnf)
    refine ⟨Nat.le_of_ble_eq_true rfl, ?_⟩
    (conv => whnf)
    refine ⟨Nat.le_of_ble_eq_true rfl, fun t6 ht6 => ?_⟩
    have ek := Ext.new (c := .lst [.ref p3, .ref v, .ref p5, .ref p6]) ht6 _ _ ek
    have S19 := S18.ext (Ext.new (c := .lst [.ref p3, .ref v, .ref p5, .ref p6]) ht6)
    have G19 := G18.newer (c := .lst [.ref p3, .ref v, .ref p5, .ref p6]) ht6
    generalize updA A18 t6 (.lst [.ref p3, .ref v, .ref p5, .ref p6]) = A19 at ek S19 G19 ⊢
    (conv => whnf)
    refine ⟨Nat.le_of_ble_eq_true rfl, ?_⟩
    (conv => whnf)
    refine ⟨ek, ?_⟩
    (conv => whnf)
    refine ⟨Nat.le_of_ble_eq_true rfl, h p1 _ _ (G19.upd hkA) ?_⟩
    rw [updA_ne (fun z => by rw [← z, S12.1] at hk; cases hk)]
    exact S19.1
theorem len_frame_tables (ds : List D) (A : Ah) (q : D → Ah → Prop) (x : AX) : sp_frame_tables ds A q x → ds.length = 1 := by
  rintro ⟨n, rfl, _⟩; rfl
def as__law_mix_5 : AS := (aRet (aOp aMod (aBlt aInt (aCons (aOp aAdd (aOp aAdd (aOp aMul (aOp aDiv (aVar 2) (aC (.int 65536))) (aC (.int 40503))) (aOp aMul (aVar 2) (aC (.int 2654435761)))) (aC (.int 668265263))) aNil)) (aVar 1)))
def as__law_mix_4 : AS := (aSeq (aAsg (aOp aMod (aBlt aInt (aCons (aOp aAdd (aOp aAdd (aOp aMul (aVar 2) (aVar 2)) (aOp aMul (aOp aDiv (aVar 2) (aC (.int 4294967296))) (aC (.int 2246822519)))) (aC (.int 3266489917))) aNil)) (aVar 1)) (agName 2)) as__law_mix_5)
def as__law_mix_3 : AS := (aSeq (aAsg (aOp aMod (aBlt aInt (aCons (aOp aAdd (aOp aMul (aVar 2) (aC (.int 6364136223846793005))) (aC (.int 1442695040888963407))) aNil)) (aVar 1)) (agName 2)) as__law_mix_4)
def as__law_mix_2 : AS := (aSeq (aAsg (aOp aMod (aBlt aInt (aCons (aVar 0) aNil)) (aVar 1)) (agName 2)) as__law_mix_3)
def as__law_mix : AS := (aSeq (aAsg (aC (.int 18446744073709551557)) (agName 1)) as__law_mix_2)

theorem pure__law_mix (ds : List D) (A : Ah) (q : D → Ah → Prop) (x : AX) : sp__law_mix ds A q x → as__law_mix (endsA q x) (startA ["number", "large", "value"] ds) A := by
  rintro ⟨i, rfl, h⟩
  repeat (
    (conv => whnf)
    refine ⟨?_, ?_⟩
    · first | exact small_mod | exact small_mdiv | exact small_mdiv2 | exact small128 (by decide) (by decide) | decide)
  exact h _ mod_lo mod_hi
theorem len__law_mix (ds : List D) (A : Ah) (q : D → Ah → Prop) (x : AX) : sp__law_mix ds A q x → ds.length = 1 := by
  rintro ⟨i, rfl, h⟩; rfl
def as__law_equal_15 : AS := (aDrop (aMethL aExtend (aVar 2) (aCons (aLc (aRng1 (aCons (aBlt aLen (aCons (aVar 5) aNil)) aNil)) (agName 7) aYes (aTup (aCons (aOp aIx (aVar 4) (aVar 7)) (aCons (aOp aIx (aVar 5) (aVar 7)) aNil))) [7]) aNil)))
def as__law_equal_8 : AS := (aIf (aTest (aBlt aIsi (aCons (aVar 5) (aCons (aC (.ty "dict")) aNil)))) (aSeq aNever aNever) (aIf (aTest (aBlt aIsi (aCons (aVar 5) (aCons (aC (.ty "tuple")) aNil)))) (aSeq (aIf (aOrT (aNotT (aTest (aBlt aIsi (aCons (aVar 4) (aCons (aC (.ty "tuple")) aNil))))) (aTest (aOp aNe (aBlt aLen (aCons (aVar 4) aNil)) (aBlt aLen (aCons (aVar 5) aNil))))) (aRet (aC (.bl false))) aNext) as__law_equal_15) (aIf (aTest (aOp aIs (aVar 5) (aC .non))) (aIf (aTest (aOp aIsNot (aVar 4) (aC .non))) (aRet (aC (.bl false))) aNext) (aIf (aOrT (aTest (aOp aNe (aBlt aIsi (aCons (aVar 4) (aCons (aC (.ty "str")) aNil))) (aBlt aIsi (aCons (aVar 5) (aCons (aC (.ty "str")) aNil))))) (aTest (aOp aNe (aBlt aIsi (aCons (aVar 4) (aCons (aC (.ty "bool")) aNil))) (aBlt aIsi (aCons (aVar 5) (aCons (aC (.ty "bool")) aNil)))))) (aRet (aC (.bl false))) (aIf (aOrT (aTest (aOp aNe (aBlt aIsi (aCons (aVar 4) (aCons (aC (.ty "int")) aNil))) (aBlt aIsi (aCons (aVar 5) (aCons (aC (.ty "int")) aNil))))) (aTest (aOp aNe (aVar 4) (aVar 5)))) (aRet (aC (.bl false))) aNext)))))
def as__law_equal_7 : AS := (aSeq (aDrop (aMethL aPop (aVar 2) aNil)) as__law_equal_8)
def as__law_equal_6 : AS := (aSeq (aAsg (aOp aIx (aOp aIx (aVar 2) (aNeg (aC (.int 1)))) (aC (.int 1))) (agName 5)) as__law_equal_7)
def as__law_equal_5 : AS := (aSeq (aAsg (aOp aIx (aOp aIx (aVar 2) (aNeg (aC (.int 1)))) (aC (.int 0))) (agName 4)) as__law_equal_6)
def as__law_equal_3 : AS := (aSeq (aIf (aTest (aOp aEq (aBlt aLen (aCons (aVar 2) aNil)) (aC (.int 0)))) (aRet (aC (.bl true))) aNext) as__law_equal_5)
def as__law_equal_2 : AS := (aSeq (aFor (aRng1 (aCons (aC (.int 400000)) aNil)) (agName 3) as__law_equal_3) (aRet (aC (.bl false))))
def as__law_equal : AS := (aSeq (aAsg (aLst (aCons (aTup (aCons (aVar 0) (aCons (aVar 1) aNil))) aNil)) (agName 2)) as__law_equal_2)

theorem pst_app {m n : Nat} {S ds : List D} (h : PSt m S) (g : Pls n ds) : PSt (m + n) (S ++ ds.map fun d => .tup [d, d]) := by
  induction ds generalizing m n S with
  | nil => cases g; rw [List.map_nil, List.append_nil]; exact h
  | cons d r ih =>
    cases g with
    | @cons a b _ _ g1 g2 =>
      rw [List.map_cons, ← Nat.add_assoc, show S ++ D.tup [d, d] :: r.map (fun d => D.tup [d, d]) = (S ++ [D.tup [d, d]]) ++ r.map fun d => .tup [d, d] by simp]
      exact ih (.snoc h g1) g2
theorem pure__law_equal (ds : List D) (A : Ah) (q : D → Ah → Prop) (x : AX) : sp__law_equal ds A q x → as__law_equal (endsA q x) (startA ["got", "due", "stack", "k", "one", "two", "x", "i"] ds) A := by
  rintro ⟨g, n, rfl, hsm, hn, h⟩
  (conv => whnf)
  refine ⟨Nat.le_of_ble_eq_true rfl, ?_⟩
  (conv => whnf)
  refine ⟨Nat.le_of_ble_eq_true rfl, fun p hp => ?_⟩
  (conv => whnf)
  refine ⟨by decide, fun i Γ A' => ∃ k o t y z, Γ = [some g, some g, some (.ref p), k, o, t, y, z] ∧ Ext A A' ∧ ∃ T S, A' p = some (.lst S) ∧ PSt T S ∧ T + i < 400000, ?_, fun _ _ _ _ _ => trivial, ?_, ?_⟩
  · exact ⟨none, none, none, none, none, rfl, .new hp, n, _, updA_same, by simpa using PSt.snoc .nil hsm, hn⟩
  · rintro i Γ A' (hi : i < 400000) ⟨k, o, t, y, z, rfl, hA, T, S, hS, hst, hT⟩
    (conv => whnf)
    refine ⟨S, hS, ?_⟩
    (conv => whnf)
    refine ⟨fun _ => h A' hA, fun hne => ?_⟩
    cases hst with
    | nil => cases hne
    | @snoc m n S d hst hpl =>
    have hn1 := hpl.pos
    have hlast : L2.atI (S ++ [D.tup [d, d]]) (-1) = some (.tup [d, d]) := by
      unfold L2.atI L2.ixN
      rw [if_neg (by omega), if_pos (by simp; omega)]
      simp
      rw [show (-1 + ((S.length : Int) + 1)).toNat = S.length by omega]
      simp
    (conv => whnf)
    refine ⟨_, hS, _, hlast, ?_⟩
    (conv => whnf)
    refine ⟨_, atI_zero', ?_⟩
    (conv => whnf)
    refine ⟨_, hS, _, hlast, ?_⟩
    (conv => whnf)
    refine ⟨_, atI_one', ?_⟩
    (conv => whnf)
    refine ⟨⟨_, hS⟩, ?_⟩
    (conv => whnf)
    refine ⟨_, hS, .tup [d, d], by simp, ?_⟩
    have hA2 : Ext A (updA A' p (.lst (S ++ [D.tup [d, d]]).dropLast)) := hA.upd hp
    have hS2 : updA A' p (.lst (S ++ [D.tup [d, d]]).dropLast) p = some (.lst S) := by rw [updA_same, List.dropLast_concat]
    generalize updA A' p (.lst (S ++ [D.tup [d, d]]).dropLast) = A2 at hA2 hS2 ⊢
    clear hS hA hne
    have fin : ∀ T' S' A3, Ext A A3 → A3 p = some (.lst S') → PSt T' S' → T' + (i + 1) < 400000 → ∃ k' o' t' y' z', [some g, some g, some (.ref p), some (.int (0 + (i : Int))), some d, some d, y, z] = [some g, some g, some (.ref p), k', o', t', y', z'] ∧ Ext A A3 ∧ ∃ T S, A3 p = some (.lst S) ∧ PSt T S ∧ T + (i + 1) < 400000 :=
      fun T' S' A3 h1 h2 h3 h4 => ⟨_, _, _, _, _, rfl, h1, T', S', h2, h3, h4⟩
    have fin0 := fin m S A2 hA2 hS2 hst (by omega)
    cases hpl with
    | non => ((repeat ((conv => whnf); first | (refine ⟨?_, fun _ => ?_⟩; · (intro z; cases z)) | (refine ⟨fun _ => ?_, ?_⟩; rotate_left; · (intro z; cases z)) | (refine ⟨?_, fun _ => ?_⟩; · (intro z; exact absurd z (by decide))) | (refine ⟨fun _ => ?_, ?_⟩; rotate_left; · (intro z; exact absurd z (by decide))) | refine ⟨Nat.le_of_ble_eq_true rfl, ?_⟩ | refine ⟨_, atI_zero', ?_⟩ | refine ⟨_, atI_one', ?_⟩ | (refine ⟨_, rfl, ?_, ?_⟩; · decide) | (refine ⟨fun _ => ?_, ?_⟩; rotate_left; · (intro z; rename_i h; first | cases h.symm.trans z | cases z.symm.trans h)) | (apply Exists.intro; apply And.intro; (· assumption); apply And.intro; (· decide)) | (apply And.intro; · (apply Exists.intro; assumption)) | (apply Exists.intro; apply And.intro; (· assumption); refine ⟨_, atI_zero', ?_⟩) | (apply Exists.intro; apply And.intro; · assumption))); (try (conv => whnf))); exact fin0
    | bl b => ((repeat ((conv => whnf); first | (refine ⟨?_, fun _ => ?_⟩; · (intro z; cases z)) | (refine ⟨fun _ => ?_, ?_⟩; rotate_left; · (intro z; cases z)) | (refine ⟨?_, fun _ => ?_⟩; · (intro z; exact absurd z (by decide))) | (refine ⟨fun _ => ?_, ?_⟩; rotate_left; · (intro z; exact absurd z (by decide))) | refine ⟨Nat.le_of_ble_eq_true rfl, ?_⟩ | refine ⟨_, atI_zero', ?_⟩ | refine ⟨_, atI_one', ?_⟩ | (refine ⟨_, rfl, ?_, ?_⟩; · decide) | (refine ⟨fun _ => ?_, ?_⟩; rotate_left; · (intro z; rename_i h; first | cases h.symm.trans z | cases z.symm.trans h)) | (apply Exists.intro; apply And.intro; (· assumption); apply And.intro; (· decide)) | (apply And.intro; · (apply Exists.intro; assumption)) | (apply Exists.intro; apply And.intro; (· assumption); refine ⟨_, atI_zero', ?_⟩) | (apply Exists.intro; apply And.intro; · assumption))); (try (conv => whnf))); exact ⟨fun z => absurd z (by simp), fun _ => fin0⟩
    | int j => ((repeat ((conv => whnf); first | (refine ⟨?_, fun _ => ?_⟩; · (intro z; cases z)) | (refine ⟨fun _ => ?_, ?_⟩; rotate_left; · (intro z; cases z)) | (refine ⟨?_, fun _ => ?_⟩; · (intro z; exact absurd z (by decide))) | (refine ⟨fun _ => ?_, ?_⟩; rotate_left; · (intro z; exact absurd z (by decide))) | refine ⟨Nat.le_of_ble_eq_true rfl, ?_⟩ | refine ⟨_, atI_zero', ?_⟩ | refine ⟨_, atI_one', ?_⟩ | (refine ⟨_, rfl, ?_, ?_⟩; · decide) | (refine ⟨fun _ => ?_, ?_⟩; rotate_left; · (intro z; rename_i h; first | cases h.symm.trans z | cases z.symm.trans h)) | (apply Exists.intro; apply And.intro; (· assumption); apply And.intro; (· decide)) | (apply And.intro; · (apply Exists.intro; assumption)) | (apply Exists.intro; apply And.intro; (· assumption); refine ⟨_, atI_zero', ?_⟩) | (apply Exists.intro; apply And.intro; · assumption))); (try (conv => whnf))); exact ⟨fun z => absurd z (by simp), fun _ => fin0⟩
    | str cs => ((repeat ((conv => whnf); first | (refine ⟨?_, fun _ => ?_⟩; · (intro z; cases z)) | (refine ⟨fun _ => ?_, ?_⟩; rotate_left; · (intro z; cases z)) | (refine ⟨?_, fun _ => ?_⟩; · (intro z; exact absurd z (by decide))) | (refine ⟨fun _ => ?_, ?_⟩; rotate_left; · (intro z; exact absurd z (by decide))) | refine ⟨Nat.le_of_ble_eq_true rfl, ?_⟩ | refine ⟨_, atI_zero', ?_⟩ | refine ⟨_, atI_one', ?_⟩ | (refine ⟨_, rfl, ?_, ?_⟩; · decide) | (refine ⟨fun _ => ?_, ?_⟩; rotate_left; · (intro z; rename_i h; first | cases h.symm.trans z | cases z.symm.trans h)) | (apply Exists.intro; apply And.intro; (· assumption); apply And.intro; (· decide)) | (apply And.intro; · (apply Exists.intro; assumption)) | (apply Exists.intro; apply And.intro; (· assumption); refine ⟨_, atI_zero', ?_⟩) | (apply Exists.intro; apply And.intro; · assumption))); (try (conv => whnf))); exact ⟨fun z => absurd z (by simp), fun _ => fin0⟩
    | @tup n ds hss =>
      ((repeat ((conv => whnf); first | (refine ⟨?_, fun _ => ?_⟩; · (intro z; cases z)) | (refine ⟨fun _ => ?_, ?_⟩; rotate_left; · (intro z; cases z)) | (refine ⟨?_, fun _ => ?_⟩; · (intro z; exact absurd z (by decide))) | (refine ⟨fun _ => ?_, ?_⟩; rotate_left; · (intro z; exact absurd z (by decide))) | refine ⟨Nat.le_of_ble_eq_true rfl, ?_⟩ | refine ⟨_, atI_zero', ?_⟩ | refine ⟨_, atI_one', ?_⟩ | (refine ⟨_, rfl, ?_, ?_⟩; · decide) | (refine ⟨fun _ => ?_, ?_⟩; rotate_left; · (intro z; rename_i h; first | cases h.symm.trans z | cases z.symm.trans h)) | (apply Exists.intro; apply And.intro; (· assumption); apply And.intro; (· decide)) | (apply And.intro; · (apply Exists.intro; assumption)) | (apply Exists.intro; apply And.intro; (· assumption); refine ⟨_, atI_zero', ?_⟩) | (apply Exists.intro; apply And.intro; · assumption))); (try (conv => whnf)))
      refine ⟨fun z => absurd z (by simp), fun _ => ?_⟩
      have hl2 := hss.len
      (conv => whnf)
      refine ⟨⟨_, hS2⟩, ?_⟩
      (conv => whnf)
      refine ⟨by omega, ?_⟩
      refine lc_of (it := ⟨none, (ds.length : Int).toNat, fun k => .int (0 + (k : Nat))⟩) (fun k => .tup [ds.getD k .non, ds.getD k .non]) rfl (by show (ds.length : Int).toNat ≤ big; rw [big_eq]; omega) (fun k A' kk sk hk e hkk => ?_) (fun v hv => ?_)
      · have hk : k < ds.length := by have : k < (ds.length : Int).toNat := hk; omega
        have hx : L2.atI ds (0 + (k : Int)) = some (ds.getD k .non) := by
          rw [Int.zero_add]
          exact atI_of (by rw [List.getD_eq_getElem?_getD, List.getElem?_eq_getElem hk]; rfl)
        (conv => whnf)
        refine ⟨fun _ => ?_, fun z => Bool.noConfusion z⟩
        (conv => whnf)
        refine ⟨_, hx, ?_⟩
        (conv => whnf)
        refine ⟨_, hx, ?_⟩
        (conv => whnf)
        exact ⟨Nat.le_of_ble_eq_true rfl, hkk⟩
      · have hs : (List.range (ds.length : Int).toNat).map (fun k => D.tup [ds.getD k .non, ds.getD k .non]) = ds.map fun d => .tup [d, d] := by
          rw [Int.toNat_natCast]
          have := map_range_getD (L := ds) (d := .non) (fun d => d) (fun d => D.tup [d, d])
          simpa using this
        rw [show ({ src := none, n := (ds.length : Int).toNat, item := fun k => D.int (0 + (k : Nat)) } : ItA).n = (ds.length : Int).toNat from rfl, hs]
        have hpv : p ≠ v := neA hS2 hv
        (conv => whnf)
        refine ⟨_, Ext.new hv _ _ hS2, _, updA_same, by rw [List.length_map, big_eq]; have := hst.len; omega, ?_⟩
        exact fin _ _ _ ((hA2.newer hv).upd hp) updA_same (pst_app hst hss) (by omega)
  · rintro Γ A' ⟨k, o, t, y, z, rfl, hA, T, S, hS, hst, hT⟩
    have hT : T + 400000 < 400000 := hT
    omega
theorem len__law_equal (ds : List D) (A : Ah) (q : D → Ah → Prop) (x : AX) : sp__law_equal ds A q x → ds.length = 2 := by
  rintro ⟨g, n, rfl, _⟩; rfl
def has__law_error_12 (K : Fg) (a : Addr) (ε : Exn) : AS := (aRet (aTup (aCons (aC (.str (tl "none"))) (aCons (aTup aNil) aNil))))
def has__law_error_10 (K : Fg) (a : Addr) (ε : Exn) : AS := (aSeq (aIf (aTest (aBlt (aIsE K a ε) (aCons (aVar 0) (aCons (aC (.ref (He.ga K "BadNumber"))) aNil)))) (aRet (aTup (aCons (aC (.str (tl "BadNumber"))) (aCons (aTup (aCons (aXf a ε "number" (aVar 0)) aNil)) aNil)))) aNext) (has__law_error_12 K a ε))
def has__law_error_8 (K : Fg) (a : Addr) (ε : Exn) : AS := (aSeq (aIf (aOrT (aTest (aOp aNe (aMethL aCount (aVar 1) (aCons (aC (.bl true)) aNil)) (aC (.int 1)))) (aOrT (aNotT (aTest (aBlt (aIsE K a ε) (aCons (aVar 0) (aCons (aC (.ref (He.ga K "GrantError"))) aNil))))) (aNotT (aTest (aBlt (aIsE K a ε) (aCons (aVar 0) (aCons (aC (.ty "ValueError")) aNil))))))) (aRet (aTup (aCons (aC (.str (tl "none"))) (aCons (aTup aNil) aNil)))) aNext) (has__law_error_10 K a ε))
def has__law_error_7 (K : Fg) (a : Addr) (ε : Exn) : AS := (aSeq (aDrop (aMethL aExtend (aVar 1) (aCons (aLst (aCons (aBlt (aIsE K a ε) (aCons (aVar 0) (aCons (aC (.ref (He.ga K "NoEdit"))) aNil))) aNil)) aNil))) (has__law_error_8 K a ε))
def has__law_error_6 (K : Fg) (a : Addr) (ε : Exn) : AS := (aSeq (aDrop (aMethL aExtend (aVar 1) (aCons (aLst (aCons (aBlt (aIsE K a ε) (aCons (aVar 0) (aCons (aC (.ref (He.ga K "BadWish"))) aNil))) (aCons (aBlt (aIsE K a ε) (aCons (aVar 0) (aCons (aC (.ref (He.ga K "NoCover"))) aNil))) (aCons (aBlt (aIsE K a ε) (aCons (aVar 0) (aCons (aC (.ref (He.ga K "Barred"))) aNil))) (aCons (aBlt (aIsE K a ε) (aCons (aVar 0) (aCons (aC (.ref (He.ga K "LastLine"))) aNil))) aNil))))) aNil))) (has__law_error_7 K a ε))
def has__law_error_5 (K : Fg) (a : Addr) (ε : Exn) : AS := (aSeq (aDrop (aMethL aExtend (aVar 1) (aCons (aLst (aCons (aBlt (aIsE K a ε) (aCons (aVar 0) (aCons (aC (.ref (He.ga K "BadMatrix"))) aNil))) (aCons (aBlt (aIsE K a ε) (aCons (aVar 0) (aCons (aC (.ref (He.ga K "NoGrant"))) aNil))) (aCons (aBlt (aIsE K a ε) (aCons (aVar 0) (aCons (aC (.ref (He.ga K "BadMachine"))) aNil))) aNil)))) aNil))) (has__law_error_6 K a ε))
def has__law_error_4 (K : Fg) (a : Addr) (ε : Exn) : AS := (aSeq (aDrop (aMethL aExtend (aVar 1) (aCons (aLst (aCons (aBlt (aIsE K a ε) (aCons (aVar 0) (aCons (aC (.ref (He.ga K "Mismatch"))) aNil))) (aCons (aBlt (aIsE K a ε) (aCons (aVar 0) (aCons (aC (.ref (He.ga K "BadMove"))) aNil))) (aCons (aBlt (aIsE K a ε) (aCons (aVar 0) (aCons (aC (.ref (He.ga K "BadTable"))) aNil))) (aCons (aBlt (aIsE K a ε) (aCons (aVar 0) (aCons (aC (.ref (He.ga K "NoTree"))) aNil))) aNil))))) aNil))) (has__law_error_5 K a ε))
def has__law_error_3 (K : Fg) (a : Addr) (ε : Exn) : AS := (aSeq (aDrop (aMethL aExtend (aVar 1) (aCons (aLst (aCons (aBlt (aIsE K a ε) (aCons (aVar 0) (aCons (aC (.ref (He.ga K "NoSuchLine"))) aNil))) (aCons (aBlt (aIsE K a ε) (aCons (aVar 0) (aCons (aC (.ref (He.ga K "BadLog"))) aNil))) (aCons (aBlt (aIsE K a ε) (aCons (aVar 0) (aCons (aC (.ref (He.ga K "BadNumber"))) aNil))) aNil)))) aNil))) (has__law_error_4 K a ε))
def has__law_error_2 (K : Fg) (a : Addr) (ε : Exn) : AS := (aSeq (aDrop (aMethL aExtend (aVar 1) (aCons (aLst (aCons (aBlt (aIsE K a ε) (aCons (aVar 0) (aCons (aC (.ref (He.ga K "Twice"))) aNil))) (aCons (aBlt (aIsE K a ε) (aCons (aVar 0) (aCons (aC (.ref (He.ga K "TooMany"))) aNil))) (aCons (aBlt (aIsE K a ε) (aCons (aVar 0) (aCons (aC (.ref (He.ga K "BadText"))) aNil))) (aCons (aBlt (aIsE K a ε) (aCons (aVar 0) (aCons (aC (.ref (He.ga K "BadLot"))) aNil))) aNil))))) aNil))) (has__law_error_3 K a ε))
def has__law_error (K : Fg) (a : Addr) (ε : Exn) : AS := (aSeq (aAsg (aLst (aCons (aBlt (aIsE K a ε) (aCons (aVar 0) (aCons (aC (.ref (He.ga K "BadName"))) aNil))) (aCons (aBlt (aIsE K a ε) (aCons (aVar 0) (aCons (aC (.ref (He.ga K "BadKind"))) aNil))) (aCons (aBlt (aIsE K a ε) (aCons (aVar 0) (aCons (aC (.ref (He.ga K "BadTree"))) aNil))) (aCons (aBlt (aIsE K a ε) (aCons (aVar 0) (aCons (aC (.ref (He.ga K "NoSubtree"))) aNil))) aNil))))) (agName 1)) (has__law_error_2 K a ε))

theorem pureh__law_error (K : Fg) (kit : ∀ c ∈ excs, ∀ n ∈ kits, PySem.W.kitOne K (.ref (He.ga K c)) (.ref (He.ga K n)) = some (decide (c = n) || decide (n = "GrantError"))) (kitV : ∀ c ∈ excs, PySem.W.kitOne K (.ref (He.ga K c)) (.type "ValueError") = some true)
    (a : Addr) (ε : Exn) (ds : List D) (A : Ah) (q : D → Ah → Prop) (x : AX) : hsp__law_error a ε ds A q x → has__law_error K a ε (endsA q x) (startA ["e", "flags"] ds) A := by
  obtain ⟨cl, d⟩ := ε
  rintro ⟨rfl, hh⟩
  obtain ⟨v0, hc, hA, h⟩ := hh
  · dsimp only at hc hA
    subst hc
    have hm : ("BadNumber" : Str) ∈ excs := by decide
    have k1 : ∀ n ∈ kits, PySem.W.kitOne K (exC K ⟨"BadNumber", d⟩) (.ref (He.ga K n)) = some (decide ("BadNumber" = n) || decide (n = "GrantError")) := kit _ hm
    (conv => whnf)
    refine ⟨⟨_, hA⟩, rfl, false, k1 "BadName" (by decide), ?_⟩
    (conv => whnf)
    refine ⟨⟨_, hA⟩, rfl, false, k1 "BadKind" (by decide), ?_⟩
    (conv => whnf)
    refine ⟨⟨_, hA⟩, rfl, false, k1 "BadTree" (by decide), ?_⟩
    (conv => whnf)
    refine ⟨⟨_, hA⟩, rfl, false, k1 "NoSubtree" (by decide), ?_⟩
    (conv => whnf)
    refine ⟨Nat.le_of_ble_eq_true rfl, fun p hp => ?_⟩
    have hp1 : updA A p (.lst [.bl false, .bl false, .bl false, .bl false]) p = some (.lst [.bl false, .bl false, .bl false, .bl false]) := updA_same
    have hA1 : updA A p (.lst [.bl false, .bl false, .bl false, .bl false]) d = some (.xd [("number", v0)]) := Ext.new hp _ _ hA
    have G1 : Ext A (updA A p (.lst [.bl false, .bl false, .bl false, .bl false])) := .new hp
    have hpd : d ≠ p := neA hA hp
    generalize updA A p (.lst [.bl false, .bl false, .bl false, .bl false]) = A1 at hp1 hA1 G1 ⊢
    (conv => whnf)
    refine ⟨⟨_, hp1⟩, ?_⟩
    (conv => whnf)
    refine ⟨⟨_, hA1⟩, rfl, false, k1 "Twice" (by decide), ?_⟩
    (conv => whnf)
    refine ⟨⟨_, hA1⟩, rfl, false, k1 "TooMany" (by decide), ?_⟩
    (conv => whnf)
    refine ⟨⟨_, hA1⟩, rfl, false, k1 "BadText" (by decide), ?_⟩
    (conv => whnf)
    refine ⟨⟨_, hA1⟩, rfl, false, k1 "BadLot" (by decide), ?_⟩
    (conv => whnf)
    refine ⟨Nat.le_of_ble_eq_true rfl, fun r1 hr1 => ?_⟩
    have hp2 := Ext.new (c := .lst [.bl false, .bl false, .bl false, .bl false]) hr1 _ _ hp1
    have hA2 := Ext.new (c := .lst [.bl false, .bl false, .bl false, .bl false]) hr1 _ _ hA1
    have G2 := G1.newer (c := .lst [.bl false, .bl false, .bl false, .bl false]) hr1
    have hr1 : updA A1 r1 (.lst [.bl false, .bl false, .bl false, .bl false]) r1 = some (.lst [.bl false, .bl false, .bl false, .bl false]) := updA_same
    generalize updA A1 r1 (.lst [.bl false, .bl false, .bl false, .bl false]) = A2 at hp2 hA2 G2 hr1 ⊢
    (conv => whnf)
    refine ⟨_, hp2, _, hr1, Nat.le_of_ble_eq_true rfl, ?_⟩
    have hp3 : updA A2 p (.lst ([.bl false, .bl false, .bl false, .bl false] ++ [.bl false, .bl false, .bl false, .bl false])) p = some (.lst [.bl false, .bl false, .bl false, .bl false, .bl false, .bl false, .bl false, .bl false]) := updA_same
    have hA3 : updA A2 p (.lst ([.bl false, .bl false, .bl false, .bl false] ++ [.bl false, .bl false, .bl false, .bl false])) d = some (.xd [("number", v0)]) := by rw [updA_ne hpd]; exact hA2
    have G3 : Ext A (updA A2 p (.lst ([.bl false, .bl false, .bl false, .bl false] ++ [.bl false, .bl false, .bl false, .bl false]))) := G2.upd hp
    generalize updA A2 p (.lst ([.bl false, .bl false, .bl false, .bl false] ++ [.bl false, .bl false, .bl false, .bl false])) = A3 at hp3 hA3 G3 ⊢
    (conv => whnf)
    refine ⟨⟨_, hp3⟩, ?_⟩
    (conv => whnf)
    refine ⟨⟨_, hA3⟩, rfl, false, k1 "NoSuchLine" (by decide), ?_⟩
    (conv => whnf)
    refine ⟨⟨_, hA3⟩, rfl, false, k1 "BadLog" (by decide), ?_⟩
    (conv => whnf)
    refine ⟨⟨_, hA3⟩, rfl, true, k1 "BadNumber" (by decide), ?_⟩
    (conv => whnf)
    refine ⟨Nat.le_of_ble_eq_true rfl, fun r2 hr2 => ?_⟩
    have hp4 := Ext.new (c := .lst [.bl false, .bl false, .bl true]) hr2 _ _ hp3
    have hA4 := Ext.new (c := .lst [.bl false, .bl false, .bl true]) hr2 _ _ hA3
    have G4 := G3.newer (c := .lst [.bl false, .bl false, .bl true]) hr2
    have hr2 : updA A3 r2 (.lst [.bl false, .bl false, .bl true]) r2 = some (.lst [.bl false, .bl false, .bl true]) := updA_same
    generalize updA A3 r2 (.lst [.bl false, .bl false, .bl true]) = A4 at hp4 hA4 G4 hr2 ⊢
    (conv => whnf)
    refine ⟨_, hp4, _, hr2, Nat.le_of_ble_eq_true rfl, ?_⟩
    have hp5 : updA A4 p (.lst ([.bl false, .bl false, .bl false, .bl false, .bl false, .bl false, .bl false, .bl false] ++ [.bl false, .bl false, .bl true])) p = some (.lst [.bl false, .bl false, .bl false, .bl false, .bl false, .bl false, .bl false, .bl false, .bl false, .bl false, .bl true]) := updA_same
    have hA5 : updA A4 p (.lst ([.bl false, .bl false, .bl false, .bl false, .bl false, .bl false, .bl false, .bl false] ++ [.bl false, .bl false, .bl true])) d = some (.xd [("number", v0)]) := by rw [updA_ne hpd]; exact hA4
    have G5 : Ext A (updA A4 p (.lst ([.bl false, .bl false, .bl false, .bl false, .bl false, .bl false, .bl false, .bl false] ++ [.bl false, .bl false, .bl true]))) := G4.upd hp
    generalize updA A4 p (.lst ([.bl false, .bl false, .bl false, .bl false, .bl false, .bl false, .bl false, .bl false] ++ [.bl false, .bl false, .bl true])) = A5 at hp5 hA5 G5 ⊢
    (conv => whnf)
    refine ⟨⟨_, hp5⟩, ?_⟩
    (conv => whnf)
    refine ⟨⟨_, hA5⟩, rfl, false, k1 "Mismatch" (by decide), ?_⟩
    (conv => whnf)
    refine ⟨⟨_, hA5⟩, rfl, false, k1 "BadMove" (by decide), ?_⟩
    (conv => whnf)
    refine ⟨⟨_, hA5⟩, rfl, false, k1 "BadTable" (by decide), ?_⟩
    (conv => whnf)
    refine ⟨⟨_, hA5⟩, rfl, false, k1 "NoTree" (by decide), ?_⟩
    (conv => whnf)
    refine ⟨Nat.le_of_ble_eq_true rfl, fun r3 hr3 => ?_⟩
    have hp6 := Ext.new (c := .lst [.bl false, .bl false, .bl false, .bl false]) hr3 _ _ hp5
    have hA6 := Ext.new (c := .lst [.bl false, .bl false, .bl false, .bl false]) hr3 _ _ hA5
    have G6 := G5.newer (c := .lst [.bl false, .bl false, .bl false, .bl false]) hr3
    have hr3 : updA A5 r3 (.lst [.bl false, .bl false, .bl false, .bl false]) r3 = some (.lst [.bl false, .bl false, .bl false, .bl false]) := updA_same
    generalize updA A5 r3 (.lst [.bl false, .bl false, .bl false, .bl false]) = A6 at hp6 hA6 G6 hr3 ⊢
    (conv => whnf)
    refine ⟨_, hp6, _, hr3, Nat.le_of_ble_eq_true rfl, ?_⟩
    have hp7 : updA A6 p (.lst ([.bl false, .bl false, .bl false, .bl false, .bl false, .bl false, .bl false, .bl false, .bl false, .bl false, .bl true] ++ [.bl false, .bl false, .bl false, .bl false])) p = some (.lst [.bl false, .bl false, .bl false, .bl false, .bl false, .bl false, .bl false, .bl false, .bl false, .bl false, .bl true, .bl false, .bl false, .bl false, .bl false]) := updA_same
    have hA7 : updA A6 p (.lst ([.bl false, .bl false, .bl false, .bl false, .bl false, .bl false, .bl false, .bl false, .bl false, .bl false, .bl true] ++ [.bl false, .bl false, .bl false, .bl false])) d = some (.xd [("number", v0)]) := by rw [updA_ne hpd]; exact hA6
    have G7 : Ext A (updA A6 p (.lst ([.bl false, .bl false, .bl false, .bl false, .bl false, .bl false, .bl false, .bl false, .bl false, .bl false, .bl true] ++ [.bl false, .bl false, .bl false, .bl false]))) := G6.upd hp
    generalize updA A6 p (.lst ([.bl false, .bl false, .bl false, .bl false, .bl false, .bl false, .bl false, .bl false, .bl false, .bl false, .bl true] ++ [.bl false, .bl false, .bl false, .bl false])) = A7 at hp7 hA7 G7 ⊢
    (conv => whnf)
    refine ⟨⟨_, hp7⟩, ?_⟩
    (conv => whnf)
    refine ⟨⟨_, hA7⟩, rfl, false, k1 "BadMatrix" (by decide), ?_⟩
    (conv => whnf)
    refine ⟨⟨_, hA7⟩, rfl, false, k1 "NoGrant" (by decide), ?_⟩
    (conv => whnf)
    refine ⟨⟨_, hA7⟩, rfl, false, k1 "BadMachine" (by decide), ?_⟩
    (conv => whnf)
    refine ⟨Nat.le_of_ble_eq_true rfl, fun r4 hr4 => ?_⟩
    have hp8 := Ext.new (c := .lst [.bl false, .bl false, .bl false]) hr4 _ _ hp7
    have hA8 := Ext.new (c := .lst [.bl false, .bl false, .bl false]) hr4 _ _ hA7
    have G8 := G7.newer (c := .lst [.bl false, .bl false, .bl false]) hr4
    have hr4 : updA A7 r4 (.lst [.bl false, .bl false, .bl false]) r4 = some (.lst [.bl false, .bl false, .bl false]) := updA_same
    generalize updA A7 r4 (.lst [.bl false, .bl false, .bl false]) = A8 at hp8 hA8 G8 hr4 ⊢
    (conv => whnf)
    refine ⟨_, hp8, _, hr4, Nat.le_of_ble_eq_true rfl, ?_⟩
    have hp9 : updA A8 p (.lst ([.bl false, .bl false, .bl false, .bl false, .bl false, .bl false, .bl false, .bl false, .bl false, .bl false, .bl true, .bl false, .bl false, .bl false, .bl false] ++ [.bl false, .bl false, .bl false])) p = some (.lst [.bl false, .bl false, .bl false, .bl false, .bl false, .bl false, .bl false, .bl false, .bl false, .bl false, .bl true, .bl false, .bl false, .bl false, .bl false, .bl false, .bl false, .bl false]) := updA_same
    have hA9 : updA A8 p (.lst ([.bl false, .bl false, .bl false, .bl false, .bl false, .bl false, .bl false, .bl false, .bl false, .bl false, .bl true, .bl false, .bl false, .bl false, .bl false] ++ [.bl false, .bl false, .bl false])) d = some (.xd [("number", v0)]) := by rw [updA_ne hpd]; exact hA8
    have G9 : Ext A (updA A8 p (.lst ([.bl false, .bl false, .bl false, .bl false, .bl false, .bl false, .bl false, .bl false, .bl false, .bl false, .bl true, .bl false, .bl false, .bl false, .bl false] ++ [.bl false, .bl false, .bl false]))) := G8.upd hp
    generalize updA A8 p (.lst ([.bl false, .bl false, .bl false, .bl false, .bl false, .bl false, .bl false, .bl false, .bl false, .bl false, .bl true, .bl false, .bl false, .bl false, .bl false] ++ [.bl false, .bl false, .bl false])) = A9 at hp9 hA9 G9 ⊢
    (conv => whnf)
    refine ⟨⟨_, hp9⟩, ?_⟩
    (conv => whnf)
    refine ⟨⟨_, hA9⟩, rfl, false, k1 "BadWish" (by decide), ?_⟩
    (conv => whnf)
    refine ⟨⟨_, hA9⟩, rfl, false, k1 "NoCover" (by decide), ?_⟩
    (conv => whnf)
    refine ⟨⟨_, hA9⟩, rfl, false, k1 "Barred" (by decide), ?_⟩
    (conv => whnf)
    refine ⟨⟨_, hA9⟩, rfl, false, k1 "LastLine" (by decide), ?_⟩
    (conv => whnf)
    refine ⟨Nat.le_of_ble_eq_true rfl, fun r5 hr5 => ?_⟩
    have hp10 := Ext.new (c := .lst [.bl false, .bl false, .bl false, .bl false]) hr5 _ _ hp9
    have hA10 := Ext.new (c := .lst [.bl false, .bl false, .bl false, .bl false]) hr5 _ _ hA9
    have G10 := G9.newer (c := .lst [.bl false, .bl false, .bl false, .bl false]) hr5
    have hr5 : updA A9 r5 (.lst [.bl false, .bl false, .bl false, .bl false]) r5 = some (.lst [.bl false, .bl false, .bl false, .bl false]) := updA_same
    generalize updA A9 r5 (.lst [.bl false, .bl false, .bl false, .bl false]) = A10 at hp10 hA10 G10 hr5 ⊢
    (conv => whnf)
    refine ⟨_, hp10, _, hr5, Nat.le_of_ble_eq_true rfl, ?_⟩
    have hp11 : updA A10 p (.lst ([.bl false, .bl false, .bl false, .bl false, .bl false, .bl false, .bl false, .bl false, .bl false, .bl false, .bl true, .bl false, .bl false, .bl false, .bl false, .bl false, .bl false, .bl false] ++ [.bl false, .bl false, .bl false, .bl false])) p = some (.lst [.bl false, .bl false, .bl false, .bl false, .bl false, .bl false, .bl false, .bl false, .bl false, .bl false, .bl true, .bl false, .bl false, .bl false, .bl false, .bl false, .bl false, .bl false, .bl false, .bl false, .bl false, .bl false]) := updA_same
    have hA11 : updA A10 p (.lst ([.bl false, .bl false, .bl false, .bl false, .bl false, .bl false, .bl false, .bl false, .bl false, .bl false, .bl true, .bl false, .bl false, .bl false, .bl false, .bl false, .bl false, .bl false] ++ [.bl false, .bl false, .bl false, .bl false])) d = some (.xd [("number", v0)]) := by rw [updA_ne hpd]; exact hA10
    have G11 : Ext A (updA A10 p (.lst ([.bl false, .bl false, .bl false, .bl false, .bl false, .bl false, .bl false, .bl false, .bl false, .bl false, .bl true, .bl false, .bl false, .bl false, .bl false, .bl false, .bl false, .bl false] ++ [.bl false, .bl false, .bl false, .bl false]))) := G10.upd hp
    generalize updA A10 p (.lst ([.bl false, .bl false, .bl false, .bl false, .bl false, .bl false, .bl false, .bl false, .bl false, .bl false, .bl true, .bl false, .bl false, .bl false, .bl false, .bl false, .bl false, .bl false] ++ [.bl false, .bl false, .bl false, .bl false])) = A11 at hp11 hA11 G11 ⊢
    (conv => whnf)
    refine ⟨⟨_, hp11⟩, ?_⟩
    (conv => whnf)
    refine ⟨⟨_, hA11⟩, rfl, false, k1 "NoEdit" (by decide), ?_⟩
    (conv => whnf)
    refine ⟨Nat.le_of_ble_eq_true rfl, fun r6 hr6 => ?_⟩
    have hp12 := Ext.new (c := .lst [.bl false]) hr6 _ _ hp11
    have hA12 := Ext.new (c := .lst [.bl false]) hr6 _ _ hA11
    have G12 := G11.newer (c := .lst [.bl false]) hr6
    have hr6 : updA A11 r6 (.lst [.bl false]) r6 = some (.lst [.bl false]) := updA_same
    generalize updA A11 r6 (.lst [.bl false]) = A12 at hp12 hA12 G12 hr6 ⊢
    (conv => whnf)
    refine ⟨_, hp12, _, hr6, Nat.le_of_ble_eq_true rfl, ?_⟩
    have hp13 : updA A12 p (.lst ([.bl false, .bl false, .bl false, .bl false, .bl false, .bl false, .bl false, .bl false, .bl false, .bl false, .bl true, .bl false, .bl false, .bl false, .bl false, .bl false, .bl false, .bl false, .bl false, .bl false, .bl false, .bl false] ++ [.bl false])) p = some (.lst [.bl false, .bl false, .bl false, .bl false, .bl false, .bl false, .bl false, .bl false, .bl false, .bl false, .bl true, .bl false, .bl false, .bl false, .bl false, .bl false, .bl false, .bl false, .bl false, .bl false, .bl false, .bl false, .bl false]) := updA_same
    have hA13 : updA A12 p (.lst ([.bl false, .bl false, .bl false, .bl false, .bl false, .bl false, .bl false, .bl false, .bl false, .bl false, .bl true, .bl false, .bl false, .bl false, .bl false, .bl false, .bl false, .bl false, .bl false, .bl false, .bl false, .bl false] ++ [.bl false])) d = some (.xd [("number", v0)]) := by rw [updA_ne hpd]; exact hA12
    have G13 : Ext A (updA A12 p (.lst ([.bl false, .bl false, .bl false, .bl false, .bl false, .bl false, .bl false, .bl false, .bl false, .bl false, .bl true, .bl false, .bl false, .bl false, .bl false, .bl false, .bl false, .bl false, .bl false, .bl false, .bl false, .bl false] ++ [.bl false]))) := G12.upd hp
    generalize updA A12 p (.lst ([.bl false, .bl false, .bl false, .bl false, .bl false, .bl false, .bl false, .bl false, .bl false, .bl false, .bl true, .bl false, .bl false, .bl false, .bl false, .bl false, .bl false, .bl false, .bl false, .bl false, .bl false, .bl false] ++ [.bl false])) = A13 at hp13 hA13 G13 ⊢
    (conv => whnf)
    refine ⟨⟨_, hp13⟩, ?_⟩
    (conv => whnf)
    refine ⟨_, hp13, [false, false, false, false, false, false, false, false, false, false, true, false, false, false, false, false, false, false, false, false, false, false, false], rfl, ?_⟩
    (conv => whnf)
    refine ⟨fun z => absurd z (by decide), fun _ => ?_⟩
    (conv => whnf)
    refine ⟨⟨_, hA13⟩, rfl, true, k1 "GrantError" (by decide), ?_⟩
    (conv => whnf)
    refine ⟨nofun, fun _ => ?_⟩
    (conv => whnf)
    refine ⟨⟨_, hA13⟩, rfl, true, kitV _ hm, ?_⟩
    (conv => whnf)
    refine ⟨nofun, fun _ => ?_⟩
    (conv => whnf)
    refine ⟨⟨_, hA13⟩, rfl, true, k1 "BadNumber" (by decide), ?_⟩
    (conv => whnf)
    refine ⟨fun _ => ?_, nofun⟩
    (conv => whnf)
    refine ⟨rfl, _, hA13, _, rfl, ?_⟩
    (conv => whnf)
    refine ⟨Nat.le_of_ble_eq_true rfl, ?_⟩
    (conv => whnf)
    exact ⟨Nat.le_of_ble_eq_true rfl, h _ G13⟩
theorem lenh__law_error (a : Addr) (ε : Exn) (ds : List D) (A : Ah) (q : D → Ah → Prop) (x : AX) : hsp__law_error a ε ds A q x → ds.length = 1 := by
  rintro ⟨rfl, _⟩; rfl
def as__law_sequences_3 : AS := (aDrop (aMethL aAppend (aVar 2) (aCons (aBlt aSum (aCons (aLc (aRng2 (aCons (aC (.int 1)) (aCons (aOp aAdd (aVar 3) (aC (.int 1))) aNil))) (agName 4) aYes (aOp aMul (aOp aIx (aVar 0) (aVar 4)) (aOp aIx (aVar 2) (aOp aSub (aVar 3) (aVar 4)))) [4]) aNil)) aNil)))
def as__law_sequences_4 : AS := (aRet (aOp aAdd (aLst (aCons (aC (.int 0)) aNil)) (aLc (aRng2 (aCons (aC (.int 1)) (aCons (aOp aAdd (aVar 1) (aC (.int 1))) aNil))) (agName 3) aYes (aOp aSub (aOp aIx (aVar 2) (aVar 3)) (aOp aIx (aVar 0) (aVar 3))) [3])))
def as__law_sequences_2 : AS := (aSeq (aFor (aRng2 (aCons (aC (.int 1)) (aCons (aOp aAdd (aVar 1) (aC (.int 1))) aNil))) (agName 3) as__law_sequences_3) as__law_sequences_4)
def as__law_sequences : AS := (aSeq (aAsg (aLst (aCons (aC (.int 1)) aNil)) (agName 2)) as__law_sequences_2)

theorem amL_pre (o : List Int) {n m : Nat} (h : n ≤ m) : ∀ v ∈ amL o n, v ∈ amL o m := by
  induction m with
  | zero => intro v hv; rw [Nat.le_zero.mp h] at hv; exact hv
  | succ m ih =>
    intro v hv
    by_cases e : n = m + 1
    · rw [← e]; exact hv
    · rw [amL]; exact List.mem_append_left _ (ih (by omega) v hv)
theorem pure__law_sequences (ds : List D) (A : Ah) (q : D → Ah → Prop) (x : AX) : sp__law_sequences ds A q x → as__law_sequences (endsA q x) (startA ["ones", "most", "any_many", "n", "i"] ds) A := by
  rintro ⟨p, o, n, rfl, hp, hn, hl, ho, ha, h⟩
  (conv => whnf)
  refine ⟨Nat.le_of_ble_eq_true rfl, fun r hr => ?_⟩
  have er : updA A r (.lst [.int 1]) r = some (.lst ((amL o 0).map D.int)) := updA_same
  have G0 : Ext A (updA A r (.lst [.int 1])) := .new hr
  have hpr : p ≠ r := neA hp hr
  generalize updA A r (.lst [.int 1]) = A0 at er G0 ⊢
  (conv => whnf)
  refine ⟨by omega, fun i Γ A' => ∃ z w, Γ = [some (.ref p), some (.int n), some (.ref r), z, w] ∧ Ext A A' ∧ A' r = some (.lst ((amL o i).map D.int)), ⟨_, _, rfl, G0, er⟩, fun _ _ _ _ _ => trivial, ?_, ?_⟩
  · rintro i Γ A1 (hi : i < ((n : Int) + 1 - 1).toNat) ⟨z, w, rfl, G1, e1⟩
    have hi : i < n := by omega
    have hp1 := G1 _ _ hp
    have hal := amL_len o i
    (conv => whnf)
    refine ⟨⟨_, e1⟩, ?_⟩
    (conv => whnf)
    refine ⟨by omega, ?_⟩
    have cnt : (1 + (i : Int) + 1 - 1).toNat = i + 1 := by omega
    refine lc_of (it := ⟨none, (1 + (i : Int) + 1 - 1).toNat, fun k => .int (1 + (k : Nat))⟩) (fun k => .int (o.getD (1 + k) 0 * (amL o i).getD (i + 1 - (1 + k)) 0)) rfl (by show (1 + (i : Int) + 1 - 1).toNat ≤ big; rw [big_eq]; omega) (fun k A' kk sk hk e hkk => ?_) (fun t ht => ?_)
    · have hk : k < i + 1 := by rw [← cnt]; exact hk
      (conv => whnf)
      refine ⟨fun _ => ?_, fun z => Bool.noConfusion z⟩
      (conv => whnf)
      have hx : L2.atI (o.map D.int) (1 + (k : Int)) = some (.int (o.getD (1 + k) 0)) := by
        rw [show (1 + (k : Int)) = ((1 + k : Nat) : Int) by omega]; exact getD_int (by omega)
      have hy : L2.atI ((amL o i).map D.int) (1 + (i : Int) - (1 + (k : Int))) = some (.int ((amL o i).getD (i + 1 - (1 + k)) 0)) := by
        rw [show (1 + (i : Int) - (1 + (k : Int))) = ((i + 1 - (1 + k) : Nat) : Int) by omega]; exact getD_int (by omega)
      refine ⟨_, e _ _ hp1, _, hx, ?_⟩
      (conv => whnf)
      refine ⟨_, e _ _ e1, _, hy, ?_⟩
      (conv => whnf)
      exact ⟨(ho _ (getD_mem' (by omega))).ok, (ha _ (amL_pre o (by omega) _ (getD_mem' (by omega)))).ok, hkk⟩
    · have hs : (List.range (1 + (i : Int) + 1 - 1).toNat).map (fun k => D.int (o.getD (1 + k) 0 * (amL o i).getD (i + 1 - (1 + k)) 0)) = ((List.range (i + 1)).map fun k => o.getD (1 + k) 0 * (amL o i).getD (i + 1 - (1 + k)) 0).map D.int := by
        rw [cnt, List.map_map]; rfl
      rw [show ({ src := none, n := (1 + (i : Int) + 1 - 1).toNat, item := fun k => D.int (1 + (k : Nat)) } : ItA).n = (1 + (i : Int) + 1 - 1).toNat from rfl, hs]
      have htr : r ≠ t := neA e1 ht
      (conv => whnf)
      refine ⟨_, updA_same, _, rfl, ?_⟩
      rw [sum_acc]
      (conv => whnf)
      refine ⟨_, by rw [updA_ne htr]; exact e1, by rw [List.length_map, hal, big_eq]; omega, ?_⟩
      exact ⟨_, _, rfl, (G1.newer ht).upd hr, by rw [updA_same, amL, List.map_append]; rfl⟩
  · rintro Γ A1 ⟨z, w, rfl, G1, e1⟩
    have e1 : A1 r = some (.lst ((amL o ((n : Int) + 1 - 1).toNat).map D.int)) := e1
    have cnt : ((n : Int) + 1 - 1).toNat = n := by omega
    rw [cnt] at e1
    have hp1 := G1 _ _ hp
    have hal := amL_len o n
    (conv => whnf)
    refine ⟨Nat.le_of_ble_eq_true rfl, fun s hs => ?_⟩
    have es : updA A1 s (.lst [.int 0]) s = some (.lst [.int 0]) := updA_same
    have G2 := G1.newer (c := .lst [.int 0]) hs
    have hp2 := Ext.new (c := .lst [.int 0]) hs _ _ hp1
    have e2 := Ext.new (c := .lst [.int 0]) hs _ _ e1
    generalize updA A1 s (.lst [.int 0]) = A2 at es G2 hp2 e2 ⊢
    (conv => whnf)
    refine ⟨by omega, ?_⟩
    refine lc_of (it := ⟨none, ((n : Int) + 1 - 1).toNat, fun k => .int (1 + (k : Nat))⟩) (fun k => .int ((amL o n).getD (1 + k) 0 - o.getD (1 + k) 0)) rfl (by show ((n : Int) + 1 - 1).toNat ≤ big; rw [big_eq]; omega) (fun k A' kk sk hk e hkk => ?_) (fun t ht => ?_)
    · have hk : k < n := by rw [← cnt]; exact hk
      (conv => whnf)
      refine ⟨fun _ => ?_, fun z => Bool.noConfusion z⟩
      (conv => whnf)
      have hx : L2.atI (o.map D.int) (1 + (k : Int)) = some (.int (o.getD (1 + k) 0)) := by
        rw [show (1 + (k : Int)) = ((1 + k : Nat) : Int) by omega]; exact getD_int (by omega)
      have hy : L2.atI ((amL o n).map D.int) (1 + (k : Int)) = some (.int ((amL o n).getD (1 + k) 0)) := by
        rw [show (1 + (k : Int)) = ((1 + k : Nat) : Int) by omega]; exact getD_int (by omega)
      refine ⟨_, e _ _ e2, _, hy, ?_⟩
      (conv => whnf)
      refine ⟨_, e _ _ hp2, _, hx, ?_⟩
      exact hkk
    · have hq : (List.range ((n : Int) + 1 - 1).toNat).map (fun k => D.int ((amL o n).getD (1 + k) 0 - o.getD (1 + k) 0)) = ((List.range n).map fun k => (amL o n).getD (1 + k) 0 - o.getD (1 + k) 0).map D.int := by
        rw [cnt, List.map_map]; rfl
      rw [show ({ src := none, n := ((n : Int) + 1 - 1).toNat, item := fun k => D.int (1 + (k : Nat)) } : ItA).n = ((n : Int) + 1 - 1).toNat from rfl, hq]
      (conv => whnf)
      refine ⟨_, by rw [updA_ne (neA es ht)]; exact es, _, updA_same, by rw [List.length_map, List.length_map, List.length_range, List.length_singleton, big_eq]; omega, fun v hv => ?_⟩
      refine h v _ ((G2.newer ht).newer hv) ?_
      rw [updA_same]
      unfold sqL
      rw [List.map_append]; rfl
theorem len__law_sequences (ds : List D) (A : Ah) (q : D → Ah → Prop) (x : AX) : sp__law_sequences ds A q x → ds.length = 2 := by
  rintro ⟨p, o, n, rfl, _⟩; rfl
def as_frames_over_2 : AS := (aRet (aOp aIx (aVar 1) (aVar 0)))
def as_frames_over : AS := (aSeq (aAsg (aCall sp_frame_tables (aCons (aVar 0) aNil)) (agTup 2 (agCons (agName 1) (agCons (agName 2) agNil)))) as_frames_over_2)

theorem ftN_len : ∀ n, n ≤ 12 → (ftN n).al.length = n + 1 := by decide +kernel
theorem pure_frames_over (ds : List D) (A : Ah) (q : D → Ah → Prop) (x : AX) : sp_frames_over ds A q x → as_frames_over (endsA q x) (startA ["number", "alls", "kinds"] ds) A := by
  rintro ⟨n, rfl, n1, n12, h⟩
  (conv => whnf)
  refine ⟨n, rfl, n1, n12, fun p d A1 G1 e1 => ?_⟩
  (conv => whnf)
  refine ⟨rfl, rfl, ?_⟩
  (conv => whnf)
  refine ⟨_, e1, _, getD_int (by rw [ftN_len n n12]; omega), h _ G1⟩
theorem len_frames_over (ds : List D) (A : Ah) (q : D → Ah → Prop) (x : AX) : sp_frames_over ds A q x → ds.length = 1 := by
  rintro ⟨n, rfl, _⟩; rfl
def as__law_store_7 : AS := (aIf (aTest (aOp aGe (aVar 4) (aOp aPow (aC (.int 10)) (aC (.int 18))))) (aDrop (aMethL aAppend (aVar 2) (aCons (aVar 4) aNil))) (aDrop (aMethL aAppend (aVar 2) (aCons (aOp aMod (aBlt aInt (aCons (aCall sp__law_mix (aCons (aOp aSub (aOp aAdd (aOp aAdd (aOp aMul (aVar 4) (aC (.int 128))) (aOp aMul (aVar 5) (aC (.int 64)))) (aBlt aLen (aCons (aVar 2) aNil))) (aC (.int 6))) aNil)) aNil)) (aOp aPow (aC (.int 10)) (aC (.int 18)))) aNil))))
def as__law_store_6 : AS := (aSeq (aAsg (aCall sp__law_mix (aCons (aOp aAdd (aOp aAdd (aOp aIx (aVar 2) (aC (.int 5))) (aOp aMul (aVar 4) (aC (.int 2)))) (aVar 5)) aNil)) (agSubL (aVar 2) (aC (.int 5)))) as__law_store_7)
def as__law_store_5 : AS := (aSeq (aAsg (aBlt aInt (aCons (aOp aLt (aVar 3) (aC (.int 0))) aNil)) (agName 5)) as__law_store_6)
def as__law_store_4 : AS := (aSeq (aAsg (aOp aMod (aBlt aInt (aCons (aBlt aAbs (aCons (aBlt aInt (aCons (aVar 3) aNil)) aNil)) aNil)) (aVar 1)) (agName 4)) as__law_store_5)
def as__law_store_3 : AS := (aSeq (aFor (aIter (aSl (aBlt aList (aCons (aVar 0) aNil)) aNoP (aPart (aC (.int 63))))) (agName 3) as__law_store_4) (aRet (aVar 2)))
def as__law_store_2 : AS := (aSeq (aAsg (aLst (aCons (aC (.int 6)) (aCons (aC (.int 0)) (aCons (aC (.int 0)) (aCons (aC (.int 0)) (aCons (aC (.int 0)) (aCons (aC (.int 7)) aNil))))))) (agName 2)) as__law_store_3)
def as__law_store : AS := (aSeq (aAsg (aOp aMul (aOp aMul (aOp aMul (aOp aPow (aC (.int 10)) (aC (.int 64))) (aOp aPow (aC (.int 10)) (aC (.int 64)))) (aOp aPow (aC (.int 10)) (aC (.int 64)))) (aOp aPow (aC (.int 10)) (aC (.int 64)))) (agName 1)) as__law_store_2)

theorem wide_eq : (10 : Int) ^ (64 : Int).toNat * 10 ^ (64 : Int).toNat * 10 ^ (64 : Int).toNat * 10 ^ (64 : Int).toNat = Wd := by decide +kernel
theorem wide1 : SmallI ((10 : Int) ^ (64 : Int).toNat) := by unfold SmallI lim; decide +kernel
theorem wide2 : SmallI ((10 : Int) ^ (64 : Int).toNat * 10 ^ (64 : Int).toNat) := by unfold SmallI lim; decide +kernel
theorem wide3 : SmallI ((10 : Int) ^ (64 : Int).toNat * 10 ^ (64 : Int).toNat * 10 ^ (64 : Int).toNat) := by unfold SmallI lim; decide +kernel
theorem Wd_pos : 0 < Wd := by decide +kernel
theorem Wd_18 : (1000000000000000000 : Int) ≤ Wd := by decide +kernel
theorem Wd_mix : (18446744073709551557 : Int) ≤ Wd := by decide +kernel
theorem stL_app {c0 c1 c2 c3 c4 c5 z : Int} {r : List Int} : stL c0 c1 c2 c3 c4 c5 r ++ [.int z] = stL c0 c1 c2 c3 c4 c5 (r ++ [z]) := by simp [stL]
theorem pure__law_store (ds : List D) (A : Ah) (q : D → Ah → Prop) (x : AX) : sp__law_store ds A q x → as__law_store (endsA q x) (startA ["script", "wide", "store", "cell", "amount", "sign"] ds) A := by
  rintro ⟨is, rfl, h⟩
  (conv => whnf)
  refine ⟨by decide, ?_⟩
  (conv => whnf)
  refine ⟨by decide, ?_⟩
  (conv => whnf)
  refine ⟨wide1, wide1, ?_⟩
  (conv => whnf)
  refine ⟨by decide, ?_⟩
  (conv => whnf)
  refine ⟨wide2, wide1, ?_⟩
  (conv => whnf)
  refine ⟨by decide, ?_⟩
  (conv => whnf)
  refine ⟨wide3, wide1, ?_⟩
  have key : ∀ wd : Int, wd = Wd → as__law_store_2 (endsA q x) [some (.lof (is.map D.int)), some (.int wd), none, none, none, none] A := by
    rintro wd hwd
    (conv => whnf)
    refine ⟨by decide, fun l hl => ?_⟩
    have h1 : updA A l (.lst [.int 6, .int 0, .int 0, .int 0, .int 0, .int 7]) l = some (.lst (stL 6 0 0 0 0 7 [])) := updA_same
    generalize updA A l (.lst [.int 6, .int 0, .int 0, .int 0, .int 0, .int 7]) = A1 at h1 ⊢
    (conv => whnf)
    intro p hp
    (conv => whnf)
    refine ⟨_, updA_same, ?_⟩
    (conv => whnf)
    intro p2 hp2
    have h2 : updA (updA A1 p (.lst (is.map D.int))) p2 (.lst (GA.cutD (is.map D.int) none (some 63))) l = some (.lst (stL 6 0 0 0 0 7 [])) := Ext.new hp2 _ _ (Ext.new hp _ _ h1)
    have h3 : updA (updA A1 p (.lst (is.map D.int))) p2 (.lst (GA.cutD (is.map D.int) none (some 63))) p2 = some (.lst (GA.cutD (is.map D.int) none (some 63))) := updA_same
    have hlp : p2 ≠ l := fun z => by rw [z, Ext.new hp _ _ h1] at hp2; cases hp2
    generalize updA (updA A1 p (.lst (is.map D.int))) p2 (.lst (GA.cutD (is.map D.int) none (some 63))) = A2 at h2 h3 ⊢
    have hcut : ∃ js : List Int, GA.cutD (is.map D.int) none (some 63) = js.map D.int ∧ js.length ≤ 63 := by
      refine ⟨GA.cutD is none (some 63), by unfold GA.cutD; simp [HT.sIx], ?_⟩
      unfold GA.cutD
      rw [List.length_take]
      refine Nat.le_trans (Nat.min_le_left ..) ?_
      simp only [HT.sIx]
      rw [if_neg (by decide)]
      have : Int.toNat 63 = 63 := rfl
      omega
    obtain ⟨js, e, hjs⟩ := hcut
    rw [e] at h3
    (conv => whnf)
    refine ⟨_, h3, fun i Γ A' => ∃ (c5 : Int) (r : List Int) (a b c : Option D), Γ = [some (.lof (is.map D.int)), some (.int wd), some (.ref l), a, b, c] ∧ A' l = some (.lst (stL 6 0 0 0 0 c5 r)) ∧ A' p2 = some (.lst (js.map D.int)) ∧ r.length ≤ i ∧ (0 ≤ c5 ∧ c5 ≤ Wd) ∧ ∀ i ∈ r, 0 ≤ i ∧ i ≤ Wd, ?_, ?_, ?_, ?_⟩
    · exact ⟨7, [], _, _, _, rfl, h2, h3, Nat.zero_le _, ⟨by decide, by have := Wd_18; omega⟩, nofun⟩
    · rintro i Γ A' _ ⟨c5, r, a, b, c, rfl, g1, g2, _⟩; exact g2
    · rintro i Γ A' (hi : i < (js.map D.int).length) ⟨c5, r, a, b, c, rfl, g1, g2, g3, g4, g5⟩
      rw [List.length_map] at hi
      have hd : ∃ z : Int, (js.map D.int).getD i .non = .int z := by
        rw [List.getD_eq_getElem?_getD, List.getElem?_map, List.getElem?_eq_getElem hi]; exact ⟨_, rfl⟩
      obtain ⟨z, hz⟩ := hd
      show agName 3 ((js.map D.int).getD i .non) _ _ _
      rw [hz]
      have hwp := Wd_pos
      (conv => whnf)
      refine ⟨by omega, ?_⟩
      have a0 : 0 ≤ (if z < 0 then -z else z) % wd := Int.emod_nonneg _ (by omega)
      have a1 : (if z < 0 then -z else z) % wd < wd := Int.emod_lt_of_pos _ (by omega)
      generalize (if z < 0 then -z else z) % wd = am at a0 a1
      rw [hwd] at a1
      have b0 : 0 ≤ (if decide (z < 0) = true then (1 : Int) else 0) ∧ (if decide (z < 0) = true then (1 : Int) else 0) ≤ 1 := by split <;> decide
      ((conv => whnf); refine ⟨_, g1, _, atI_c5, ?_⟩)
      (conv => whnf)
      refine ⟨smallW a0 (by omega), small128 (by decide) (by decide), ?_⟩
      (conv => whnf)
      refine ⟨_, rfl, fun m m0 m1 => ?_⟩
      ((conv => whnf); refine ⟨_, g1, _, ixN_c5, ?_⟩; generalize E2 : updA A' l _ = A3; have e3 : A3 l = some (.lst (stL 6 0 0 0 0 m r)) := (by rw [← E2]; exact updA_same); have KA3 : Kp l A' A3 := (by rw [← E2]; exact .set); clear E2)
      have g2 := KA3 _ _ hlp g2
      have hm : 0 ≤ m ∧ m ≤ Wd := ⟨m0, by have := Wd_mix; omega⟩
      have fin : ∀ (sgo : Option D) y A4, Kp l A3 A4 → 0 ≤ y → y ≤ Wd → A4 l = some (.lst (stL 6 0 0 0 0 m r ++ [.int y])) → ∃ (c5 : Int) (r : List Int) (a b c : Option D), [some (.lof (is.map D.int)), some (.int wd), some (.ref l), some (.int z), some (.int am), sgo] = [some (.lof (is.map D.int)), some (.int wd), some (.ref l), a, b, c] ∧ A4 l = some (.lst (stL 6 0 0 0 0 c5 r)) ∧ A4 p2 = some (.lst (js.map D.int)) ∧ r.length ≤ i + 1 ∧ (0 ≤ c5 ∧ c5 ≤ Wd) ∧ ∀ i ∈ r, 0 ≤ i ∧ i ≤ Wd := by
        intro sgo y A4 K4 y0 y1 e4
        refine ⟨m, r ++ [y], _, _, _, rfl, by rw [e4, stL_app], K4 _ _ hlp g2, by simp; omega, hm, fun j hj => ?_⟩
        rcases List.mem_append.mp hj with hj | hj
        · exact g5 j hj
        · rw [List.mem_singleton.mp hj]; exact ⟨y0, y1⟩
      have hlen : (stL 6 0 0 0 0 m r).length < big := by rw [stL_len, big_eq]; omega
      (conv => whnf)
      refine ⟨by decide, ?_⟩
      (conv => whnf)
      refine ⟨fun _ => ?_, fun _ => ?_⟩
      · (conv => whnf)
        refine ⟨⟨_, e3⟩, ?_⟩
        (conv => whnf)
        refine ⟨_, e3, hlen, ?_⟩
        exact fin _ am _ .set a0 (by omega) updA_same
      · (conv => whnf)
        refine ⟨⟨_, e3⟩, ?_⟩
        (conv => whnf)
        refine ⟨smallW a0 (by omega), small128 (by decide) (by decide), ?_⟩
        (conv => whnf)
        refine ⟨small128 (by omega) (by omega), small128 (by decide) (by decide), ?_⟩
        (conv => whnf)
        refine ⟨_, e3, ?_⟩
        (conv => whnf)
        refine ⟨_, rfl, fun y y0 y1 => ?_⟩
        (conv => whnf)
        refine ⟨by decide, ?_⟩
        (conv => whnf)
        refine ⟨by decide, ?_⟩
        have w18 : (10 : Int) ^ (18 : Int).toNat = 1000000000000000000 := by decide
        have v0 : 0 ≤ y % 10 ^ (18 : Int).toNat := Int.emod_nonneg _ (by rw [w18]; decide)
        have v1 : y % 10 ^ (18 : Int).toNat ≤ Wd := by
          have := Int.emod_lt_of_pos y (show 0 < (10 : Int) ^ (18 : Int).toNat by rw [w18]; decide)
          have := Wd_18
          rw [w18] at *
          omega
        (conv => whnf)
        refine ⟨_, e3, hlen, ?_⟩
        exact fin _ _ _ .set v0 v1 updA_same
    · rintro Γ A' ⟨c5, r, a, b, c, rfl, g1, g2, g3, g4, g5⟩
      have g3 : r.length ≤ (js.map D.int).length := g3
      rw [List.length_map] at g3
      exact h l A' ⟨_, _, _, _, _, _, _, g1, ⟨by omega, by decide, ⟨by decide, by have := Wd_18; omega⟩, by decide, by decide, by decide, g4, g5⟩⟩
  exact key _ wide_eq
theorem len__law_store (ds : List D) (A : Ah) (q : D → Ah → Prop) (x : AX) : sp__law_store ds A q x → ds.length = 1 := by
  rintro ⟨is, rfl, _⟩; rfl
def as__law_take_7 : AS := (aAsg (aOp aAdd (aC (.int 4)) (aOp aMul (aC (.int 56)) (aOp aIx (aVar 0) (aC (.int 3))))) (agSubL (aVar 0) (aC (.int 2))))
def as__law_take_6 : AS := (aSeq (aAsg (aBlt aInt (aCons (aOp aGe (aOp aIx (aVar 0) (aC (.int 1))) (aOp aPow (aC (.int 10)) (aC (.int 18)))) aNil)) (agSubL (aVar 0) (aC (.int 3)))) as__law_take_7)
def as__law_take_5 : AS := (aSeq (aAsg (aOp aAdd (aOp aIx (aVar 0) (aC (.int 0))) (aC (.int 1))) (agSubL (aVar 0) (aC (.int 0)))) as__law_take_6)
def as__law_take_16 : AS := (aSeq (aIf (aTest (aOp aEq (aOp aIx (aVar 0) (aC (.int 1))) (aC (.int 0)))) (aAsg (aC (.int 0)) (agSubL (aVar 0) (aC (.int 2)))) aNext) (aRet (aVar 2)))
def as__law_take_15 : AS := (aSeq (aAsg (aOp aDiv (aOp aIx (aVar 0) (aC (.int 1))) (aVar 1)) (agSubL (aVar 0) (aC (.int 1)))) as__law_take_16)
def as__law_take_14 : AS := (aSeq (aAsg (aOp aMod (aBlt aInt (aCons (aOp aIx (aVar 0) (aC (.int 1))) aNil)) (aVar 1)) (agName 2)) as__law_take_15)
def as__law_take_12 : AS := (aSeq (aIf (aTest (aOp aEq (aOp aIx (aVar 0) (aC (.int 3))) (aC (.int 0)))) (aRet (aOp aMod (aBlt aInt (aCons (aCall sp__law_mix (aCons (aCall sp__law_mix (aCons (aOp aAdd (aOp aMul (aOp aIx (aVar 0) (aC (.int 1))) (aC (.int 8))) (aOp aIx (aVar 0) (aC (.int 2)))) aNil)) aNil)) aNil)) (aVar 1))) aNext) as__law_take_14)
def as__law_take_11 : AS := (aSeq (aAsg (aOp aSub (aOp aIx (aVar 0) (aC (.int 2))) (aC (.int 1))) (agSubL (aVar 0) (aC (.int 2)))) as__law_take_12)
def as__law_take_9 : AS := (aSeq (aIf (aTest (aOp aEq (aOp aIx (aVar 0) (aC (.int 2))) (aC (.int 0)))) (aRet (aOp aMod (aBlt aInt (aCons (aCall sp__law_mix (aCons (aCall sp__law_mix (aCons (aOp aAdd (aOp aIx (aVar 0) (aC (.int 5))) (aOp aMul (aOp aIx (aVar 0) (aC (.int 4))) (aC (.int 2654435761)))) aNil)) aNil)) aNil)) (aVar 1))) aNext) as__law_take_11)
def as__law_take_8 : AS := (aSeq (aAsg (aOp aAdd (aOp aIx (aVar 0) (aC (.int 4))) (aC (.int 1))) (agSubL (aVar 0) (aC (.int 4)))) as__law_take_9)
def as__law_take_3 : AS := (aSeq (aIf (aAndT (aTest (aOp aEq (aOp aIx (aVar 0) (aC (.int 2))) (aC (.int 0)))) (aTest (aOp aLt (aOp aIx (aVar 0) (aC (.int 0))) (aBlt aLen (aCons (aVar 0) aNil))))) (aSeq (aAsg (aOp aIx (aVar 0) (aOp aIx (aVar 0) (aC (.int 0)))) (agSubL (aVar 0) (aC (.int 1)))) as__law_take_5) aNext) as__law_take_8)
def as__law_take : AS := (aSeq (aIf (aTest (aOp aLt (aVar 1) (aC (.int 2)))) (aRet (aC (.int 0))) aNext) as__law_take_3)

theorem pure__law_take (ds : List D) (A : Ah) (q : D → Ah → Prop) (x : AX) : sp__law_take ds A q x → as__law_take (endsA q x) (startA ["store", "many", "found"] ds) A := by
  rintro ⟨l, n, many, rfl, ⟨c0, c1, c2, c3, c4, c5, r, e, I⟩, hn, hm, h⟩
  (conv => whnf)
  refine ⟨fun h1 => ?_, fun h1 => ?_⟩
  · exact h 0 A (by decide) (.inr rfl) .rfl ⟨c0, c1, c2, c3, c4, c5, r, e, ⟨I.len, I.h0, I.h1, I.h2, I.h3, by have := I.h4; omega, I.h5, I.hr⟩⟩
  have hm2 : 2 ≤ many := by have := of_decide_eq_false h1; omega
  clear h1
  have rest : ∀ (A1 : Ah) c0 c1 c2 c3, A1 l = some (.lst (stL c0 c1 c2 c3 c4 c5 r)) → StI c0 c1 c2 c3 c4 c5 r n → Kp l A A1 → as__law_take_8 (endsA q x) [some (.ref l), some (.int many), none] A1 := by
    clear e I c0 c1 c2 c3
    intro A1 c0 c1 c2 c3 e I K1
    ((conv => whnf); refine ⟨_, e, _, atI_c4, ?_⟩)
    ((conv => whnf); refine ⟨_, e, _, ixN_c4, ?_⟩; generalize E2 : updA A1 l _ = A2; have e2 : A2 l = some (.lst (stL c0 c1 c2 c3 (c4 + 1) c5 r)) := (by rw [← E2]; exact updA_same); have KA2 : Kp l A1 A2 := (by rw [← E2]; exact .set); clear E2)
    have I2 : StI c0 c1 c2 c3 (c4 + 1) c5 r (n + 1) := ⟨I.len, I.h0, I.h1, I.h2, I.h3, by have := I.h4; omega, I.h5, I.hr⟩
    have S4 : SmallI (c4 + 1) := small128 (by have := I.h4; omega) (by have := I.h4; omega)
    have KA2 := K1.trans KA2
    have hq : ∀ j, 0 ≤ j → q (.int (j % many)) A2 := fun j _ => h _ A2 (Int.emod_nonneg _ (by omega)) (.inl (Int.emod_lt_of_pos _ (by omega))) KA2 ⟨_, _, _, _, _, _, _, e2, I2⟩
    ((conv => whnf); refine ⟨_, e2, _, atI_c2, ?_⟩)
    (conv => whnf)
    refine ⟨fun h1 => ?_, fun h1 => ?_⟩
    · ((conv => whnf); refine ⟨_, e2, _, atI_c5, ?_⟩)
      ((conv => whnf); refine ⟨_, e2, _, atI_c4, ?_⟩)
      (conv => whnf)
      refine ⟨S4, small128 (by decide) (by decide), ?_⟩
      (conv => whnf)
      refine ⟨_, rfl, fun j hj _ => ?_⟩
      (conv => whnf)
      refine ⟨_, rfl, fun j hj _ => ?_⟩
      (conv => whnf)
      refine ⟨by omega, hq _ hj⟩
    have hc2 : 1 ≤ c2 := by have := of_decide_eq_false h1; have := I.h2; omega
    clear h1
    ((conv => whnf); refine ⟨_, e2, _, atI_c2, ?_⟩)
    ((conv => whnf); refine ⟨_, e2, _, ixN_c2, ?_⟩; generalize E2 : updA A2 l _ = A3; have e3 : A3 l = some (.lst (stL c0 c1 (c2 - 1) c3 (c4 + 1) c5 r)) := (by rw [← E2]; exact updA_same); have KA3 : Kp l A2 A3 := (by rw [← E2]; exact .set); clear E2)
    have I3 : StI c0 c1 (c2 - 1) c3 (c4 + 1) c5 r (n + 1) := ⟨I2.len, I2.h0, I2.h1, by have := I.h2; omega, I.h3, I2.h4, I.h5, I.hr⟩
    have KA3 := KA2.trans KA3
    ((conv => whnf); refine ⟨_, e3, _, atI_c3, ?_⟩)
    (conv => whnf)
    refine ⟨fun h1 => ?_, fun h1 => ?_⟩
    · ((conv => whnf); refine ⟨_, e3, _, atI_c1, ?_⟩)
      (conv => whnf)
      refine ⟨smallW I.h1.1 I.h1.2, small128 (by decide) (by decide), ?_⟩
      ((conv => whnf); refine ⟨_, e3, _, atI_c2, ?_⟩)
      (conv => whnf)
      refine ⟨_, rfl, fun j hj _ => ?_⟩
      (conv => whnf)
      refine ⟨_, rfl, fun j hj _ => ?_⟩
      (conv => whnf)
      exact ⟨by omega, h _ A3 (Int.emod_nonneg _ (by omega)) (.inl (Int.emod_lt_of_pos _ (by omega))) KA3 ⟨_, _, _, _, _, _, _, e3, I3⟩⟩
    clear h1
    ((conv => whnf); refine ⟨_, e3, _, atI_c1, ?_⟩)
    (conv => whnf)
    refine ⟨by omega, ?_⟩
    ((conv => whnf); refine ⟨_, e3, _, atI_c1, ?_⟩)
    (conv => whnf)
    refine ⟨by omega, small128 (by omega) (by omega), ?_⟩
    ((conv => whnf); refine ⟨_, e3, _, ixN_c1, ?_⟩; generalize E2 : updA A3 l _ = A4; have e4 : A4 l = some (.lst (stL c0 (c1 / many) (c2 - 1) c3 (c4 + 1) c5 r)) := (by rw [← E2]; exact updA_same); have KA4 : Kp l A3 A4 := (by rw [← E2]; exact .set); clear E2)
    have I4 : StI c0 (c1 / many) (c2 - 1) c3 (c4 + 1) c5 r (n + 1) := ⟨I2.len, I2.h0, ⟨Int.ediv_nonneg I.h1.1 (by omega), Int.le_trans (Int.ediv_le_self _ I.h1.1) I.h1.2⟩, I3.h2, I.h3, I2.h4, I.h5, I.hr⟩
    have KA4 := KA3.trans KA4
    ((conv => whnf); refine ⟨_, e4, _, atI_c1, ?_⟩)
    (conv => whnf)
    refine ⟨fun h1 => ?_, fun h1 => ?_⟩
    · ((conv => whnf); refine ⟨_, e4, _, ixN_c2, ?_⟩; generalize E2 : updA A4 l _ = A5; have e5 : A5 l = some (.lst (stL c0 (c1 / many) 0 c3 (c4 + 1) c5 r)) := (by rw [← E2]; exact updA_same); have KA5 : Kp l A4 A5 := (by rw [← E2]; exact .set); clear E2)
      (conv => whnf)
      exact h _ A5 (Int.emod_nonneg _ (by omega)) (.inl (Int.emod_lt_of_pos _ (by omega))) (KA4.trans KA5) ⟨_, _, _, _, _, _, _, e5, ⟨I4.len, I4.h0, I4.h1, by decide, I.h3, I4.h4, I.h5, I.hr⟩⟩
    · (conv => whnf)
      exact h _ A4 (Int.emod_nonneg _ (by omega)) (.inl (Int.emod_lt_of_pos _ (by omega))) KA4 ⟨_, _, _, _, _, _, _, e4, I4⟩
  ((conv => whnf); refine ⟨_, e, _, atI_c2, ?_⟩)
  (conv => whnf)
  refine ⟨fun h1 => ?_, fun _ => ?_⟩
  · ((conv => whnf); refine ⟨_, e, _, atI_c0, ?_⟩)
    (conv => whnf)
    refine ⟨_, e, ?_⟩
    (conv => whnf)
    refine ⟨fun h2 => ?_, fun _ => rest A _ _ _ _ e I .rfl⟩
    obtain ⟨z, hz, ez⟩ := atI_cr (r := r) (c1 := c1) (c2 := c2) (c3 := c3) (c4 := c4) (c5 := c5) I.h0 (of_decide_eq_true h2)
    ((conv => whnf); refine ⟨_, e, _, atI_c0, ?_⟩)
    (conv => whnf)
    refine ⟨_, e, _, ez, ?_⟩
    ((conv => whnf); refine ⟨_, e, _, ixN_c1, ?_⟩; generalize E2 : updA A l _ = A2; have e2 : A2 l = some (.lst (stL c0 z c2 c3 c4 c5 r)) := (by rw [← E2]; exact updA_same); have KA2 : Kp l A A2 := (by rw [← E2]; exact .set); clear E2)
    ((conv => whnf); refine ⟨_, e2, _, atI_c0, ?_⟩)
    ((conv => whnf); refine ⟨_, e2, _, ixN_c0, ?_⟩; generalize E2 : updA A2 l _ = A3; have e3 : A3 l = some (.lst (stL (c0 + 1) z c2 c3 c4 c5 r)) := (by rw [← E2]; exact updA_same); have KA3 : Kp l A2 A3 := (by rw [← E2]; exact .set); clear E2)
    ((conv => whnf); refine ⟨_, e3, _, atI_c1, ?_⟩)
    (conv => whnf)
    refine ⟨by decide, ?_⟩
    ((conv => whnf); refine ⟨_, e3, _, ixN_c3, ?_⟩; generalize E2 : updA A3 l _ = A4; have e4 : A4 l = some (.lst (stL (c0 + 1) z c2 (if decide (10 ^ 18 ≤ z) = true then 1 else 0) c4 c5 r)) := (by rw [← E2]; exact updA_same); have KA4 : Kp l A3 A4 := (by rw [← E2]; exact .set); clear E2)
    have hb : 0 ≤ (if decide (10 ^ 18 ≤ z) = true then (1 : Int) else 0) ∧ (if decide (10 ^ 18 ≤ z) = true then (1 : Int) else 0) ≤ 1 := by split <;> decide
    generalize (if decide (10 ^ 18 ≤ z) = true then (1 : Int) else 0) = b at e4 hb
    ((conv => whnf); refine ⟨_, e4, _, atI_c3, ?_⟩)
    (conv => whnf)
    refine ⟨small128 (by decide) (by decide), small128 (by omega) (by omega), ?_⟩
    ((conv => whnf); refine ⟨_, e4, _, ixN_c2, ?_⟩; generalize E2 : updA A4 l _ = A5; have e5 : A5 l = some (.lst (stL (c0 + 1) z (4 + 56 * b) b c4 c5 r)) := (by rw [← E2]; exact updA_same); have KA5 : Kp l A4 A5 := (by rw [← E2]; exact .set); clear E2)
    exact rest A5 _ _ _ _ e5 ⟨I.len, by have := I.h0; omega, I.hr z hz, by omega, hb, I.h4, I.h5, I.hr⟩ (((KA2.trans KA3).trans KA4).trans KA5)
  · (conv => whnf)
    exact ⟨fun z => (by cases z), fun _ => rest A _ _ _ _ e I .rfl⟩
theorem len__law_take (ds : List D) (A : Ah) (q : D → Ah → Prop) (x : AX) : sp__law_take ds A q x → ds.length = 2 := by
  rintro ⟨l, n, many, rfl, _⟩; rfl
def as__law_frames_10 : AS := (aAsg (aVar 5) (agSubL (aVar 1) (aVar 2)))
def as__law_frames_9 : AS := (aSeq (aAsg (aOp aAdd (aVar 3) (aVar 5)) (agSubL (aVar 0) (aVar 2))) as__law_frames_10)
def as__law_frames_8 : AS := (aSeq (aAsg (aOp aAdd (aOp aIx (aVar 4) (aVar 2)) (aBlt aSum (aCons (aLc (aRng2 (aCons (aC (.int 1)) (aCons (aVar 2) aNil))) (agName 6) aYes (aOp aMul (aOp aIx (aVar 0) (aVar 6)) (aOp aIx (aVar 4) (aOp aSub (aVar 2) (aVar 6)))) [6]) aNil))) (agName 5)) as__law_frames_9)
def as__law_frames_7 : AS := (aSeq (aAsg (aCall sp__law_sequences (aCons (aVar 0) (aCons (aVar 2) aNil))) (agName 4)) as__law_frames_8)
def as__law_frames_6 : AS := (aSeq (aAsg (aOp aIx (aCall sp__law_sequences (aCons (aVar 1) (aCons (aVar 2) aNil))) (aVar 2)) (agName 3)) as__law_frames_7)
def as__law_frames_5 : AS := (aSeq (aDrop (aMethL aAppend (aVar 1) (aCons (aC (.int 0)) aNil))) as__law_frames_6)
def as__law_frames_4 : AS := (aSeq (aDrop (aMethL aAppend (aVar 0) (aCons (aC (.int 0)) aNil))) as__law_frames_5)
def as__law_frames_3 : AS := (aSeq (aFor (aRng2 (aCons (aC (.int 2)) (aCons (aC (.int 13)) aNil))) (agName 2) as__law_frames_4) (aRet (aVar 0)))
def as__law_frames_2 : AS := (aSeq (aAsg (aLst (aCons (aC (.int 0)) (aCons (aC (.int 1)) aNil))) (agName 1)) as__law_frames_3)
def as__law_frames : AS := (aSeq (aAsg (aLst (aCons (aC (.int 0)) (aCons (aC (.int 1)) aNil))) (agName 0)) as__law_frames_2)

theorem lf_ok : ∀ k, k < 11 → lfOk k := by decide +kernel
theorem pure__law_frames (ds : List D) (A : Ah) (q : D → Ah → Prop) (x : AX) : sp__law_frames ds A q x → as__law_frames (endsA q x) (startA ["every", "lower", "n", "first", "back", "turns", "i"] ds) A := by
  rintro ⟨rfl, h⟩
  (conv => whnf)
  refine ⟨Nat.le_of_ble_eq_true rfl, fun p hp => ?_⟩
  have ep : updA A p (.lst [.int 0, .int 1]) p = some (.lst [.int 0, .int 1]) := updA_same
  have G0 : Ext A (updA A p (.lst [.int 0, .int 1])) := .new hp
  generalize updA A p (.lst [.int 0, .int 1]) = A0 at ep G0 ⊢
  (conv => whnf)
  refine ⟨Nat.le_of_ble_eq_true rfl, fun r hr => ?_⟩
  have hpr : p ≠ r := neA ep hr
  have hrA := G0.none hr
  have er : updA A0 r (.lst [.int 0, .int 1]) r = some (.lst [.int 0, .int 1]) := updA_same
  have ep := Ext.new (c := .lst [.int 0, .int 1]) hr _ _ ep
  have G1 := G0.newer (c := .lst [.int 0, .int 1]) hr
  generalize updA A0 r (.lst [.int 0, .int 1]) = A1 at ep er G1 ⊢
  (conv => whnf)
  refine ⟨by decide, fun i Γ A' => ∃ a b c d, Γ = [some (.ref p), some (.ref r), a, b, c, d, none] ∧ Ext A A' ∧ A' p = some (.lst ((lfN i).1.map D.int)) ∧ A' r = some (.lst ((lfN i).2.map D.int)), ⟨_, _, _, _, rfl, G1, ep, er⟩, fun _ _ _ _ _ => trivial, ?_, ?_⟩
  · rintro i Γ A2 (hi : i < 11) ⟨a, b, c, d, rfl, G2, ep, er⟩
    obtain ⟨l1, l2, s1, s2, m1, m2, s3⟩ := lf_ok i hi
    have cn : (2 + (i : Int)) = ((i + 2 : Nat) : Int) := by omega
    have lE : ((lfN i).1 ++ [0]).length = i + 3 := by rw [List.length_append, l1]; rfl
    have lL : ((lfN i).2 ++ [0]).length = i + 3 := by rw [List.length_append, l2]; rfl
    have hst : lfN (i + 1) = (((lfN i).1 ++ [0]).set (i + 2) ((sqL ((lfN i).2 ++ [0]) (i + 2)).getD (i + 2) 0 + ((sqL ((lfN i).1 ++ [0]) (i + 2)).getD (i + 2) 0 + accS ((lfN i).1 ++ [0]) (sqL ((lfN i).1 ++ [0]) (i + 2)) (i + 2) (i + 1))), ((lfN i).2 ++ [0]).set (i + 2) ((sqL ((lfN i).1 ++ [0]) (i + 2)).getD (i + 2) 0 + accS ((lfN i).1 ++ [0]) (sqL ((lfN i).1 ++ [0]) (i + 2)) (i + 2) (i + 1))) := rfl
    (conv => whnf)
    refine ⟨⟨_, ep⟩, ?_⟩
    (conv => whnf)
    refine ⟨_, ep, by rw [List.length_map, l1, big_eq]; omega, ?_⟩
    have ep3 : updA A2 p (.lst ((lfN i).1.map D.int ++ [.int 0])) p = some (.lst (((lfN i).1 ++ [0]).map D.int)) := by rw [updA_same, List.map_append]; rfl
    have er3 : updA A2 p (.lst ((lfN i).1.map D.int ++ [.int 0])) r = some (.lst ((lfN i).2.map D.int)) := by rw [updA_ne (Ne.symm hpr)]; exact er
    have G3 := G2.upd (c := .lst ((lfN i).1.map D.int ++ [.int 0])) hp
    generalize updA A2 p (.lst ((lfN i).1.map D.int ++ [.int 0])) = A3 at ep3 er3 G3 ⊢
    (conv => whnf)
    refine ⟨⟨_, er3⟩, ?_⟩
    (conv => whnf)
    refine ⟨_, er3, by rw [List.length_map, l2, big_eq]; omega, ?_⟩
    have er4 : updA A3 r (.lst ((lfN i).2.map D.int ++ [.int 0])) r = some (.lst (((lfN i).2 ++ [0]).map D.int)) := by rw [updA_same, List.map_append]; rfl
    have ep4 : updA A3 r (.lst ((lfN i).2.map D.int ++ [.int 0])) p = some (.lst (((lfN i).1 ++ [0]).map D.int)) := by rw [updA_ne hpr]; exact ep3
    have G4 := G3.upd (c := .lst ((lfN i).2.map D.int ++ [.int 0])) hrA
    generalize updA A3 r (.lst ((lfN i).2.map D.int ++ [.int 0])) = A4 at ep4 er4 G4 ⊢
    generalize hE : (lfN i).1 ++ [0] = E at ep4 lE s1 m1 s3 hst
    generalize hLo : (lfN i).2 ++ [0] = Lo at er4 lL s2 m2 hst
    (conv => whnf)
    refine ⟨r, Lo, i + 2, by rw [← cn], er4, by omega, by omega, s2, m2, fun t A5 G5 et => ?_⟩
    have ep5 := G5 _ _ ep4
    have er5 := G5 _ _ er4
    (conv => whnf)
    refine ⟨_, et, _, (by rw [cn]; exact getD_int (by rw [sqL_len]; omega)), ?_⟩
    (conv => whnf)
    refine ⟨p, E, i + 2, by rw [← cn], ep5, by omega, by omega, s1, m1, fun u A6 G6 eu => ?_⟩
    have ep6 := G6 _ _ ep5
    have er6 := G6 _ _ er5
    have hG6 := (G4.trans G5).trans G6
    have lB : (sqL E (i + 2)).length = i + 3 := by rw [sqL_len]
    generalize sqL E (i + 2) = B at eu lB s3 hst
    generalize (sqL Lo (i + 2)).getD (i + 2) 0 = fv at hst ⊢
    (conv => whnf)
    refine ⟨_, eu, _, (by rw [cn]; exact getD_int (by omega)), ?_⟩
    (conv => whnf)
    refine ⟨by omega, ?_⟩
    have cnt : (2 + (i : Int) - 1).toNat = i + 1 := by omega
    refine lc_of (it := ⟨none, (2 + (i : Int) - 1).toNat, fun k => .int (1 + (k : Nat))⟩) (fun k => .int (E.getD (1 + k) 0 * B.getD (i + 2 - (1 + k)) 0)) rfl (by show (2 + (i : Int) - 1).toNat ≤ big; rw [big_eq]; omega) (fun k A' kk sk hk e hkk => ?_) (fun v hv => ?_)
    · have hk : k < i + 1 := by rw [← cnt]; exact hk
      (conv => whnf)
      refine ⟨fun _ => ?_, fun z => Bool.noConfusion z⟩
      (conv => whnf)
      have hx : L2.atI (E.map D.int) (1 + (k : Int)) = some (.int (E.getD (1 + k) 0)) := by
        rw [show (1 + (k : Int)) = ((1 + k : Nat) : Int) by omega]; exact getD_int (by omega)
      have hy : L2.atI (B.map D.int) (2 + (i : Int) - (1 + (k : Int))) = some (.int (B.getD (i + 2 - (1 + k)) 0)) := by
        rw [show (2 + (i : Int) - (1 + (k : Int))) = ((i + 2 - (1 + k) : Nat) : Int) by omega]; exact getD_int (by omega)
      refine ⟨_, e _ _ ep6, _, hx, ?_⟩
      (conv => whnf)
      refine ⟨_, e _ _ eu, _, hy, ?_⟩
      (conv => whnf)
      exact ⟨(s1 _ (getD_mem' (by omega))).ok, (s3 _ (getD_mem' (by omega))).ok, hkk⟩
    · have hs : (List.range (2 + (i : Int) - 1).toNat).map (fun k => D.int (E.getD (1 + k) 0 * B.getD (i + 2 - (1 + k)) 0)) = ((List.range (i + 1)).map fun k => E.getD (1 + k) 0 * B.getD (i + 2 - (1 + k)) 0).map D.int := by
        rw [cnt, List.map_map]; rfl
      rw [show ({ src := none, n := (2 + (i : Int) - 1).toNat, item := fun k => D.int (1 + (k : Nat)) } : ItA).n = (2 + (i : Int) - 1).toNat from rfl, hs]
      have ep7 := Ext.new (c := .lst (((List.range (i + 1)).map fun k => E.getD (1 + k) 0 * B.getD (i + 2 - (1 + k)) 0).map D.int)) hv _ _ ep6
      have er7 := Ext.new (c := .lst (((List.range (i + 1)).map fun k => E.getD (1 + k) 0 * B.getD (i + 2 - (1 + k)) 0).map D.int)) hv _ _ er6
      have G7 := hG6.newer (c := .lst (((List.range (i + 1)).map fun k => E.getD (1 + k) 0 * B.getD (i + 2 - (1 + k)) 0).map D.int)) hv
      (conv => whnf)
      refine ⟨_, updA_same, _, rfl, ?_⟩
      generalize updA A6 v (.lst (((List.range (i + 1)).map fun k => E.getD (1 + k) 0 * B.getD (i + 2 - (1 + k)) 0).map D.int)) = A7 at ep7 er7 G7 ⊢
      rw [sum_acc]
      have ixn : ∀ {n i : Nat}, i < n → L2.ixN n (i : Int) = some i := fun h => by
        unfold L2.ixN
        rw [if_pos (by omega), if_pos (by omega), Int.toNat_natCast]
      (conv => whnf)
      refine ⟨_, ep7, i + 2, (by rw [cn]; exact ixn (by rw [List.length_map]; omega)), ?_⟩
      (conv => whnf)
      refine ⟨_, (by rw [updA_ne (Ne.symm hpr)]; exact er7), i + 2, (by rw [cn]; exact ixn (by rw [List.length_map]; omega)), ?_⟩
      rw [← hE, ← hLo] at hst
      refine ⟨_, _, _, _, rfl, (G7.upd hp).upd hrA, ?_, ?_⟩
      · rw [updA_ne hpr, updA_same, hst, hE]
        show some (Cell.lst ((E.map D.int).set (i + 2) (.int _))) = _
        rw [← List.map_set]
      · rw [updA_same, hst, hE, hLo]
        show some (Cell.lst ((Lo.map D.int).set (i + 2) (.int _))) = _
        rw [← List.map_set]
  · rintro Γ A2 ⟨a, b, c, d, rfl, G2, ep, er⟩
    exact h p A2 hp G2 ep
theorem len__law_frames (ds : List D) (A : Ah) (q : D → Ah → Prop) (x : AX) : sp__law_frames ds A q x → ds.length = 0 := by
  rintro ⟨rfl, _⟩; rfl
def as_check_number : AS := (aIf (aOrT (aTest (aOp aLt (aVar 0) (aVar 1))) (aTest (aOp aGt (aVar 0) (aVar 2)))) (aRaise "BadNumber" ["number"] (aCons (aVar 0) aNil)) aNext)

theorem pure_check_number (ds : List D) (A : Ah) (q : D → Ah → Prop) (x : AX) : sp_check_number ds A q x → as_check_number (endsA q x) (startA ["number", "low", "high"] ds) A := by
  rintro ⟨j, lo, hi, rfl, h1, h2⟩
  (conv => whnf)
  refine ⟨fun a => ?_, fun a => ?_⟩
  · have a := of_decide_eq_true a
    refine ⟨fun _ => ⟨rfl, fun d hd => h2 (fun z => by omega) d _ (.new hd) updA_same⟩, fun z => Bool.noConfusion z⟩
  · have a := of_decide_eq_false a
    (conv => whnf)
    refine ⟨fun b => ?_, fun b => ?_⟩
    · have b := of_decide_eq_true b
      exact ⟨rfl, fun d hd => h2 (fun z => by omega) d _ (.new hd) updA_same⟩
    · have b := of_decide_eq_false b
      exact h1 (by omega) (by omega)
theorem len_check_number (ds : List D) (A : Ah) (q : D → Ah → Prop) (x : AX) : sp_check_number ds A q x → ds.length = 3 := by
  rintro ⟨j, lo, hi, rfl, _⟩; rfl
def as__law_shuffle_4 : AS := (aDrop (aMethL aAppend (aVar 3) (aCons (aMethL aPop (aVar 2) (aCons (aCall sp__law_take (aCons (aVar 0) (aCons (aBlt aLen (aCons (aVar 2) aNil)) aNil))) aNil)) aNil)))
def as__law_shuffle_3 : AS := (aSeq (aFor (aRng1 (aCons (aBlt aLen (aCons (aVar 1) aNil)) aNil)) (agName 4) as__law_shuffle_4) (aRet (aVar 3)))
def as__law_shuffle_2 : AS := (aSeq (aAsg (aLst aNil) (agName 3)) as__law_shuffle_3)
def as__law_shuffle : AS := (aSeq (aAsg (aBlt aList (aCons (aVar 1) aNil)) (agName 2)) as__law_shuffle_2)

theorem erase_perm {α : Type} : ∀ {l : List α} {j : Nat} {y : α}, l[j]? = some y → (y :: l.eraseIdx j).Perm l
  | [], _, _, h => by cases h
  | a :: r, 0, y, h => by
    cases h
    exact .refl _
  | a :: r, j + 1, y, h => by
    have h : r[j]? = some y := h
    show (y :: a :: r.eraseIdx j).Perm (a :: r)
    exact (List.Perm.swap a y _).trans ((erase_perm h).cons a)
theorem pure__law_shuffle (ds : List D) (A : Ah) (q : D → Ah → Prop) (x : AX) : sp__law_shuffle ds A q x → as__law_shuffle (endsA q x) (startA ["store", "items", "rest", "found", "k"] ds) A := by
  rintro ⟨l, n, d, xs, rfl, hs, hn, hd, hdl, hx, h⟩
  have main : ∀ r A0, A0 r = some (.lst xs) → r ≠ l → Kp l A A0 → A r = none → St A0 l n → (∃ p, d = .ref p ∧ A0 p = some (.lst xs)) ∨ d = .tup xs → as__law_shuffle_2 (endsA q x) [some (.ref l), some d, some (.ref r), none, none] A0 := by
    intro r A0 er hrl K0 hrA S0 hd
    (conv => whnf)
    refine ⟨Nat.le_of_ble_eq_true rfl, fun f hf => ?_⟩
    have hrf : r ≠ f := neA er hf
    have hfl := S0.ne hf
    have hfA := K0.none hf hfl
    have ef : updA A0 f (.lst []) f = some (.lst []) := updA_same
    have er1 := Ext.new (c := .lst []) hf _ _ er
    have K1 := K0.new (c := .lst []) hf
    have S1 := S0.ext (Ext.new (c := .lst []) hf)
    have hd1 : (∃ p, d = .ref p ∧ updA A0 f (.lst []) p = some (.lst xs)) ∨ d = .tup xs := hd.imp (fun ⟨p, a, b⟩ => ⟨p, a, Ext.new hf _ _ b⟩) id
    generalize updA A0 f (.lst []) = A1 at ef er1 K1 S1 hd1 ⊢
    have loop : ∃ Inv : Nat → Gt → Ah → Prop, Inv 0 [some (.ref l), some d, some (.ref r), some (.ref f), none] A1 ∧ (∀ i Γ' A', i ≤ xs.length → Inv i Γ' A' → True) ∧ (∀ i Γ' A', i < xs.length → Inv i Γ' A' → agName 4 (.int (0 + (i : Nat))) Γ' A' fun Γ2 A2 => as__law_shuffle_4 { nx := Inv (i + 1), rt := q, bk := fun _ _ => False, ct := Inv (i + 1), ex := fun e _ A' => x e A' } Γ2 A2) ∧ ∀ Γ' A', Inv xs.length Γ' A' → aRet (aVar 3) (endsA q x) Γ' A' := by
      refine ⟨fun i Γ A' => ∃ (z : Option D) (rs ys : List D), Γ = [some (.ref l), some d, some (.ref r), some (.ref f), z] ∧ A' r = some (.lst rs) ∧ A' f = some (.lst ys) ∧ (ys ++ rs).Perm xs ∧ ys.length = i ∧ Kp l A A' ∧ St A' l (n + i), ⟨_, xs, [], rfl, er1, ef, .refl _, rfl, K1, S1⟩, fun _ _ _ _ _ => trivial, ?_, ?_⟩
      · rintro i Γ A2 hi ⟨z, rs, ys, rfl, e1, e2, hp, hl, K2, S2⟩
        have hlen := hp.length_eq
        rw [List.length_append] at hlen
        (conv => whnf)
        refine ⟨⟨_, e2⟩, ?_⟩
        (conv => whnf)
        refine ⟨⟨_, e1⟩, ?_⟩
        (conv => whnf)
        refine ⟨_, e1, ?_⟩
        (conv => whnf)
        refine ⟨l, _, _, rfl, S2, by omega, by omega, fun j A3 j0 j1 K3 S3 => ?_⟩
        obtain ⟨j, rfl⟩ := toN j0
        have hj : j < rs.length := by omega
        have e1 := K3 _ _ hrl e1
        have e2 := K3 _ _ hfl e2
        have K3 := K2.trans K3
        (conv => whnf)
        refine ⟨_, e1, j, rs[j], rfl, by omega, List.getElem?_eq_getElem hj, ?_⟩
        (conv => whnf)
        have e2b : updA A3 r (.lst (rs.eraseIdx j)) f = some (.lst ys) := by rw [updA_ne (Ne.symm hrf)]; exact e2
        refine ⟨_, e2b, by rw [big_eq]; omega, ?_⟩
        refine ⟨_, rs.eraseIdx j, ys ++ [rs[j]], rfl, by rw [updA_ne hrf, updA_same], updA_same, ?_, by simp [hl], (K3.upd hrA).upd hfA, ((S3.upd hrl).upd hfl).mono (by omega)⟩
        have pe := erase_perm (l := rs) (j := j) (List.getElem?_eq_getElem hj)
        rw [List.append_assoc]
        exact (pe.append_left ys).trans hp
      · rintro Γ A2 ⟨z, rs, ys, rfl, e1, e2, hp, hl, K2, S2⟩
        have hlen := hp.length_eq
        rw [List.length_append] at hlen
        have : rs = [] := List.eq_nil_of_length_eq_zero (by omega)
        subst this
        rw [List.append_nil] at hp
        exact h f ys A2 hp hfl e2 K2 S2
    rcases hd1 with ⟨p, rfl, hp⟩ | rfl
    · (conv => whnf)
      refine ⟨_, hp, ?_⟩
      (conv => whnf)
      exact ⟨by omega, loop⟩
    · (conv => whnf)
      exact ⟨by omega, loop⟩
  rcases hd with ⟨p, rfl, hp⟩ | rfl
  · (conv => whnf)
    refine ⟨_, hp, fun r hr => ?_⟩
    exact main r _ updA_same (hs.ne hr) (Kp.new .rfl hr) hr (hs.ext (.new hr)) (.inl ⟨p, rfl, Ext.new hr _ _ hp⟩)
  · (conv => whnf)
    intro r hr
    exact main r _ updA_same (hs.ne hr) (Kp.new .rfl hr) hr (hs.ext (.new hr)) (.inr rfl)
theorem len__law_shuffle (ds : List D) (A : Ah) (q : D → Ah → Prop) (x : AX) : sp__law_shuffle ds A q x → ds.length = 2 := by
  rintro ⟨l, n, d, xs, rfl, _⟩; rfl
def as__law_outside_5 : AS := (aRet (aOp aIx (aLst (aCons (aVar 2) (aCons (aNeg (aVar 2)) (aCons (aOp aAdd (aC (.int 13)) (aCall sp__law_take (aCons (aVar 0) (aCons (aC (.int 40)) aNil)))) (aCons (aOp aSub (aNeg (aC (.int 1))) (aCall sp__law_take (aCons (aVar 0) (aCons (aC (.int 40)) aNil)))) aNil))))) (aOp aSub (aVar 1) (aC (.int 2)))))
def as__law_outside_4 : AS := (aSeq (aAsg (aOp aAdd (aOp aIx (aLst (aCons (aC (.int 14)) (aCons (aC (.int 100)) (aCons (aOp aPow (aC (.int 10)) (aC (.int 13))) (aCons (aOp aPow (aC (.int 10)) (aC (.int 39))) aNil))))) (aCall sp__law_take (aCons (aVar 0) (aCons (aC (.int 4)) aNil)))) (aCall sp__law_take (aCons (aVar 0) (aCons (aC (.int 1000)) aNil)))) (agName 2)) as__law_outside_5)
def as__law_outside_2 : AS := (aSeq (aIf (aTest (aOp aLt (aVar 1) (aC (.int 2)))) (aRet (aOp aMul (aC (.int 13)) (aVar 1))) aNext) as__law_outside_4)
def as__law_outside : AS := (aSeq (aAsg (aCall sp__law_take (aCons (aVar 0) (aCons (aC (.int 6)) aNil))) (agName 1)) as__law_outside_2)

theorem pure__law_outside (ds : List D) (A : Ah) (q : D → Ah → Prop) (x : AX) : sp__law_outside ds A q x → as__law_outside (endsA q x) (startA ["store", "way", "far"] ds) A := by
  rintro ⟨l, n, rfl, hs, hn, h⟩
  (conv => whnf)
  refine ⟨l, n, 6, rfl, hs, by omega, by decide, fun way A1 w0 w1 K1 S1 => ?_⟩
  (conv => whnf)
  refine ⟨fun hw => ?_, fun hw => ?_⟩
  · have hw := of_decide_eq_true hw
    (conv => whnf)
    exact ⟨small128 (by decide) (by decide), small128 (by omega) (by omega), h _ _ (by omega) K1 (S1.mono (by omega))⟩
  · have hw := of_decide_eq_false hw
    (conv => whnf)
    refine ⟨by decide, ?_⟩
    (conv => whnf)
    refine ⟨by decide, ?_⟩
    (conv => whnf)
    refine ⟨Nat.le_of_ble_eq_true rfl, fun p hp => ?_⟩
    have hpl := S1.ne hp
    have ep : updA A1 p (.lst [.int 14, .int 100, .int (10 ^ 13), .int (10 ^ 39)]) p = some (.lst [.int 14, .int 100, .int (10 ^ 13), .int (10 ^ 39)]) := updA_same
    have K2 := K1.new (c := .lst [.int 14, .int 100, .int (10 ^ 13), .int (10 ^ 39)]) hp
    have S2 := S1.ext (Ext.new (c := .lst [.int 14, .int 100, .int (10 ^ 13), .int (10 ^ 39)]) hp)
    rw [show ([D.int 14, .int 100, .int (10 ^ (13 : Int).toNat), .int (10 ^ (39 : Int).toNat)] : List D) = [.int 14, .int 100, .int (10 ^ 13), .int (10 ^ 39)] from rfl]
    generalize updA A1 p (.lst [.int 14, .int 100, .int (10 ^ 13), .int (10 ^ 39)]) = A2 at ep K2 S2 ⊢
    (conv => whnf)
    refine ⟨l, _, 4, rfl, S2, by omega, by decide, fun t A3 t0 t1 K3 S3 => ?_⟩
    have ep := K3 _ _ hpl ep
    have hat : ∃ v : Int, 14 ≤ v ∧ L2.atI [D.int 14, .int 100, .int (10 ^ 13), .int (10 ^ 39)] t = some (.int v) := by
      have : t = 0 ∨ t = 1 ∨ t = 2 ∨ t = 3 := by omega
      rcases this with rfl | rfl | rfl | rfl
      · exact ⟨14, by decide, rfl⟩
      · exact ⟨100, by decide, rfl⟩
      · exact ⟨10 ^ 13, by decide, rfl⟩
      · exact ⟨10 ^ 39, by decide, rfl⟩
    obtain ⟨v, hv, hat⟩ := hat
    (conv => whnf)
    refine ⟨_, ep, _, hat, ?_⟩
    (conv => whnf)
    refine ⟨l, _, 1000, rfl, S3, by omega, by decide, fun u A4 u0 u1 K4 S4 => ?_⟩
    (conv => whnf)
    refine ⟨l, _, 40, rfl, S4, by omega, by decide, fun a A5 a0 a1 K5 S5 => ?_⟩
    (conv => whnf)
    refine ⟨l, _, 40, rfl, S5, by omega, by decide, fun b A6 b0 b1 K6 S6 => ?_⟩
    have K7 := (((K2.trans K3).trans K4).trans K5).trans K6
    (conv => whnf)
    refine ⟨Nat.le_of_ble_eq_true rfl, fun r hr => ?_⟩
    have fin : ∀ j : Int, ¬ (1 ≤ j ∧ j ≤ 12) → ∀ A7, Kp l A A7 → St A7 l (n + 10) → q (.int j) A7 := fun j hj A7 K S => h j A7 hj K S
    have hat : ∃ j : Int, ¬ (1 ≤ j ∧ j ≤ 12) ∧ L2.atI [D.int (v + u), .int (-(v + u)), .int (13 + a), .int (-1 - b)] (way - 2) = some (.int j) := by
      have : way = 2 ∨ way = 3 ∨ way = 4 ∨ way = 5 := by omega
      rcases this with rfl | rfl | rfl | rfl
      · exact ⟨v + u, by omega, rfl⟩
      · exact ⟨-(v + u), by omega, rfl⟩
      · exact ⟨13 + a, by omega, rfl⟩
      · exact ⟨-1 - b, by omega, rfl⟩
    obtain ⟨j, hj, hat⟩ := hat
    (conv => whnf)
    exact ⟨_, updA_same, _, hat, fin j hj _ (K7.new hr) ((S6.ext (.new hr)).mono (by omega))⟩
theorem len__law_outside (ds : List D) (A : Ah) (q : D → Ah → Prop) (x : AX) : sp__law_outside ds A q x → ds.length = 1 := by
  rintro ⟨l, n, rfl, _⟩; rfl
def as_frame_count_2 : AS := (aRet (aCall sp_frames_over (aCons (aVar 0) aNil)))
def as_frame_count : AS := (aSeq (aDrop (aCall sp_check_number (aCons (aVar 0) (aCons (aC (.int 1)) (aCons (aC (.int 12)) aNil))))) as_frame_count_2)

theorem pure_frame_count (ds : List D) (A : Ah) (q : D → Ah → Prop) (x : AX) : sp_frame_count ds A q x → as_frame_count (endsA q x) (startA ["number"] ds) A := by
  rintro ⟨j, rfl, h1, h2⟩
  (conv => whnf)
  refine ⟨j, 1, 12, rfl, fun a b => ?_, h2⟩
  obtain ⟨n, rfl⟩ := toN (i := j) (by omega)
  (conv => whnf)
  exact ⟨n, rfl, by omega, by omega, h1 a b⟩
theorem len_frame_count (ds : List D) (A : Ah) (q : D → Ah → Prop) (x : AX) : sp_frame_count ds A q x → ds.length = 1 := by
  rintro ⟨j, rfl, _⟩; rfl
def as_short_count_2 : AS := (aRet (aOp aMul (aCall sp_factorial_of (aCons (aVar 0) aNil)) (aCall sp_frames_over (aCons (aVar 0) aNil))))
def as_short_count : AS := (aSeq (aDrop (aCall sp_check_number (aCons (aVar 0) (aCons (aC (.int 1)) (aCons (aC (.int 12)) aNil))))) as_short_count_2)

theorem fr_sm : ∀ n, n ≤ 12 → Sm1 (fcN n : Nat) ∧ Sm1 (frN n) := by decide +kernel
theorem pure_short_count (ds : List D) (A : Ah) (q : D → Ah → Prop) (x : AX) : sp_short_count ds A q x → as_short_count (endsA q x) (startA ["number"] ds) A := by
  rintro ⟨j, rfl, h1, h2⟩
  (conv => whnf)
  refine ⟨j, 1, 12, rfl, fun a b => ?_, h2⟩
  obtain ⟨n, rfl⟩ := toN (i := j) (by omega)
  obtain ⟨s1, s2⟩ := fr_sm n (by omega)
  (conv => whnf)
  refine ⟨n, rfl, by omega, ?_⟩
  (conv => whnf)
  refine ⟨n, rfl, by omega, by omega, fun A1 G1 => ?_⟩
  (conv => whnf)
  exact ⟨s1.ok, s2.ok, h1 a b A1 G1⟩
theorem len_short_count (ds : List D) (A : Ah) (q : D → Ah → Prop) (x : AX) : sp_short_count ds A q x → ds.length = 1 := by
  rintro ⟨j, rfl, _⟩; rfl
def as__law_tried_4 : AS := (aRet (aTup (aCons (aC (.str (tl ""))) (aCons (aCall sp_short_count (aCons (aVar 1) aNil)) aNil))))
def as__law_tried : AS := (aTry excs 2 (aSeq (aIf (aTest (aOp aEq (aVar 0) (aC (.int 0)))) (aRet (aTup (aCons (aC (.str (tl ""))) (aCons (aCall sp_frame_count (aCons (aVar 1) aNil)) aNil)))) aNext) as__law_tried_4) (fun a ε => (aRet (aCall (hsp__law_error a ε) (aCons (aVar 2) aNil)))))

theorem pure__law_tried (ds : List D) (A : Ah) (q : D → Ah → Prop) (x : AX) : sp__law_tried ds A q x → as__law_tried (endsA q x) (startA ["which", "number", "e"] ds) A := by
  rintro ⟨w, j, rfl, h⟩
  have bad : ¬ (1 ≤ j ∧ j ≤ 12) → ∀ a d A', Ext A A' → A' d = some (.xd [("number", .int j)]) → hsp__law_error a ⟨"BadNumber", d⟩ [.ref a] A' q (fun _ _ => False) := fun hn a d A' G hd => by
    refine ⟨rfl, .int j, rfl, hd, fun A2 G2 => ?_⟩
    have := h A2 (G.trans G2)
    unfold trD at this
    rw [if_neg hn] at this
    exact this
  (conv => whnf)
  refine ⟨fun hw => ?_, fun hw => ?_⟩
  · have hw : w = 0 := of_decide_eq_true hw
    (conv => whnf)
    refine ⟨j, rfl, fun a b A1 G1 => ?_, fun hn d A1 G1 hd => ?_⟩
    · (conv => whnf)
      refine ⟨Nat.le_of_ble_eq_true rfl, ?_⟩
      have := h A1 G1
      unfold trD at this
      rw [if_pos ⟨a, b⟩, if_pos hw] at this
      exact this
    · exact ⟨by show ("BadNumber" : Str) ∈ excs; decide, fun a ha => bad hn a d A1 G1 hd⟩
  · have hw : ¬ w = 0 := of_decide_eq_false hw
    (conv => whnf)
    refine ⟨j, rfl, fun a b A1 G1 => ?_, fun hn d A1 G1 hd => ?_⟩
    · (conv => whnf)
      refine ⟨Nat.le_of_ble_eq_true rfl, ?_⟩
      have := h A1 G1
      unfold trD at this
      rw [if_pos ⟨a, b⟩, if_neg hw] at this
      exact this
    · exact ⟨by show ("BadNumber" : Str) ∈ excs; decide, fun a ha => bad hn a d A1 G1 hd⟩
theorem len__law_tried (ds : List D) (A : Ah) (q : D → Ah → Prop) (x : AX) : sp__law_tried ds A q x → ds.length = 2 := by
  rintro ⟨w, j, rfl, _⟩; rfl
def as__law_countsright_3 : AS := (aAsg (aOp aMul (aVar 3) (aOp aAdd (aVar 4) (aC (.int 1)))) (agName 3))
def as__law_countsright_7 : AS := (aRet (aCall sp__law_equal (aCons (aCall sp__law_tried (aCons (aOp aSub (aC (.int 1)) (aVar 2)) (aCons (aVar 0) aNil))) (aCons (aOp aIx (aVar 5) (aOp aSub (aC (.int 1)) (aVar 2))) aNil))))
def as__law_countsright_5 : AS := (aSeq (aIf (aNotT (aTest (aCall sp__law_equal (aCons (aCall sp__law_tried (aCons (aVar 2) (aCons (aVar 0) aNil))) (aCons (aOp aIx (aVar 5) (aVar 2)) aNil))))) (aRet (aC (.bl false))) aNext) as__law_countsright_7)
def as__law_countsright_4 : AS := (aSeq (aAsg (aLst (aCons (aTup (aCons (aC (.str (tl ""))) (aCons (aOp aIx (aVar 1) (aVar 0)) aNil))) (aCons (aTup (aCons (aC (.str (tl ""))) (aCons (aOp aMul (aOp aIx (aVar 1) (aVar 0)) (aVar 3)) aNil))) aNil))) (agName 5)) as__law_countsright_5)
def as__law_countsright_2 : AS := (aSeq (aFor (aRng1 (aCons (aVar 0) aNil)) (agName 4) as__law_countsright_3) as__law_countsright_4)
def as__law_countsright : AS := (aSeq (aAsg (aC (.int 1)) (agName 3)) as__law_countsright_2)

theorem lf_fr : ∀ n, n ≤ 12 → 1 ≤ n → (lfN 11).1.getD n 0 = frN n ∧ (lfN 11).1.length = 13 ∧ Sm1 (frN n) ∧ Sm1 (fcN n : Nat) := by decide +kernel
theorem fc_sm : ∀ n, n ≤ 12 → Sm1 (fcN n : Nat) := by decide +kernel
theorem pure__law_countsright (ds : List D) (A : Ah) (q : D → Ah → Prop) (x : AX) : sp__law_countsright ds A q x → as__law_countsright (endsA q x) (startA ["number", "frames", "which", "orders", "k", "due"] ds) A := by
  rintro ⟨n, p, w, rfl, n1, n12, hw, hp, h⟩
  obtain ⟨f1, f2, f3, f4⟩ := lf_fr n n12 n1
  have hx : L2.atI ((lfN 11).1.map D.int) (n : Int) = some (.int (frN n)) := by rw [getD_int (by omega), f1]
  (conv => whnf)
  refine ⟨by omega, fun i Γ A' => ∃ z, Γ = [some (.int n), some (.ref p), some (.int w), some (.int (fcN i : Nat)), z, none] ∧ A' = A, ⟨_, rfl, rfl⟩, fun _ _ _ _ _ => trivial, ?_, ?_⟩
  · rintro i Γ A1 (hi : i < (n : Int).toNat) ⟨z, rfl, rfl⟩
    (conv => whnf)
    refine ⟨(fc_sm i (by omega)).ok, small128 (by omega) (by omega), ?_⟩
    refine ⟨some (.int (0 + (i : Int))), ?_, rfl⟩
    have : ((fcN (i + 1) : Nat) : Int) = ((fcN i : Nat) : Int) * (0 + (i : Int) + 1) := by
      rw [fcN, Int.zero_add]; push_cast; rfl
    rw [this]; rfl
  · rintro Γ A1 ⟨z, rfl, rfl⟩
    show as__law_countsright_4 _ [some (.int n), some (.ref p), some (.int w), some (.int (fcN (n : Int).toNat : Nat)), z, none] _
    rw [Int.toNat_natCast]
    (conv => whnf)
    refine ⟨_, hp, _, hx, ?_⟩
    (conv => whnf)
    refine ⟨Nat.le_of_ble_eq_true rfl, ?_⟩
    (conv => whnf)
    refine ⟨_, hp, _, hx, ?_⟩
    (conv => whnf)
    refine ⟨f3.ok, f4.ok, ?_⟩
    (conv => whnf)
    refine ⟨Nat.le_of_ble_eq_true rfl, ?_⟩
    (conv => whnf)
    refine ⟨Nat.le_of_ble_eq_true rfl, fun r hr => ?_⟩
    have t0 : trD 0 n = .tup [.str (tl ""), .int (frN n)] := by unfold trD; rw [if_pos ⟨by omega, by omega⟩, if_pos rfl, Int.toNat_natCast]
    have t1 : trD 1 n = .tup [.str (tl ""), .int (frN n * (fcN n : Nat))] := by unfold trD; rw [if_pos ⟨by omega, by omega⟩, if_neg (by decide), Int.toNat_natCast, Int.mul_comm]
    have er : updA A1 r (.lst [.tup [.str (tl ""), .int (frN n)], .tup [.str (tl ""), .int (frN n * (fcN n : Nat))]]) r = some (.lst [trD 0 n, trD 1 n]) := by
      rw [updA_same, t0, t1]
    have G1 : Ext A1 (updA A1 r (.lst [.tup [.str (tl ""), .int (frN n)], .tup [.str (tl ""), .int (frN n * (fcN n : Nat))]])) := .new hr
    generalize updA A1 r (.lst [.tup [.str (tl ""), .int (frN n)], .tup [.str (tl ""), .int (frN n * (fcN n : Nat))]]) = A2 at er G1 ⊢
    have hpl : ∀ w : Int, Pl 3 (trD w n) := fun w => by
      unfold trD
      rw [if_pos ⟨by omega, by omega⟩]
      exact .tup (.cons (n := 1) (.str _) (.cons (n := 1) (m := 0) (.int _) .nil))
    have hat : ∀ w : Int, (w = 0 ∨ w = 1) → L2.atI [trD 0 n, trD 1 n] w = some (trD w n) := fun w hw => by
      rcases hw with rfl | rfl
      · exact atI_zero'
      · exact atI_one'
    (conv => whnf)
    refine ⟨w, n, rfl, fun A3 G3 => ?_⟩
    (conv => whnf)
    refine ⟨_, G3 _ _ er, _, hat w hw, ?_⟩
    (conv => whnf)
    refine ⟨trD w n, 3, rfl, hpl w, by decide, fun A4 G4 => ?_⟩
    (repeat ((conv => whnf); first | (refine ⟨?_, fun _ => ?_⟩; · (intro z; cases z)) | (refine ⟨fun _ => ?_, ?_⟩; rotate_left; · (intro z; cases z)) | (refine ⟨?_, fun _ => ?_⟩; · (intro z; exact absurd z (by decide))) | (refine ⟨fun _ => ?_, ?_⟩; rotate_left; · (intro z; exact absurd z (by decide)))))
    (conv => whnf)
    refine ⟨1 - w, n, rfl, fun A5 G5 => ?_⟩
    (conv => whnf)
    refine ⟨_, G5 _ _ (G4 _ _ (G3 _ _ er)), _, hat (1 - w) (by omega), ?_⟩
    (conv => whnf)
    exact ⟨trD (1 - w) n, 3, rfl, hpl _, by decide, fun A6 G6 => h _ ((((G1.trans G3).trans G4).trans G5).trans G6)⟩
theorem len__law_countsright (ds : List D) (A : Ah) (q : D → Ah → Prop) (x : AX) : sp__law_countsright ds A q x → ds.length = 3 := by
  rintro ⟨n, p, w, rfl, _⟩; rfl
def as_law_9 : AS := (aIf (aNotT (aTest (aCall sp__law_equal (aCons (aCall sp__law_tried (aCons (aVar 5) (aCons (aVar 4) aNil))) (aCons (aTup (aCons (aC (.str (tl "BadNumber"))) (aCons (aTup (aCons (aVar 4) aNil)) aNil))) aNil))))) (aRet (aC (.bl false))) aNext)
def as_law_8 : AS := (aSeq (aAsg (aCall sp__law_take (aCons (aVar 1) (aCons (aC (.int 2)) aNil))) (agName 5)) as_law_9)
def as_law_6 : AS := (aIf (aTest (aOp aEq (aCall sp__law_take (aCons (aVar 1) (aCons (aC (.int 3)) aNil))) (aC (.int 0)))) (aSeq (aAsg (aCall sp__law_outside (aCons (aVar 1) aNil)) (agName 4)) as_law_8) aNext)
def as_law_4 : AS := (aSeq (aIf (aNotT (aTest (aCall sp__law_countsright (aCons (aVar 3) (aCons (aVar 2) (aCons (aCall sp__law_take (aCons (aVar 1) (aCons (aC (.int 2)) aNil))) aNil)))))) (aRet (aC (.bl false))) aNext) as_law_6)
def as_law_13 : AS := (aIf (aNotT (aTest (aCall sp__law_equal (aCons (aCall sp__law_tried (aCons (aVar 5) (aCons (aVar 4) aNil))) (aCons (aTup (aCons (aC (.str (tl "BadNumber"))) (aCons (aTup (aCons (aVar 4) aNil)) aNil))) aNil))))) (aRet (aC (.bl false))) aNext)
def as_law_12 : AS := (aFor (aRng1 (aCons (aC (.int 2)) aNil)) (agName 5) as_law_13)
def as_law_15 : AS := (aRet (aCall sp__law_countsright (aCons (aOp aAdd (aC (.int 1)) (aCall sp__law_take (aCons (aVar 1) (aCons (aC (.int 12)) aNil)))) (aCons (aVar 2) (aCons (aC (.int 1)) aNil)))))
def as_law_11 : AS := (aSeq (aFor (aIter (aLst (aCons (aC (.int 0)) (aCons (aC (.int 13)) (aCons (aCall sp__law_outside (aCons (aVar 1) aNil)) aNil))))) (agName 4) as_law_12) as_law_15)
def as_law_3 : AS := (aSeq (aFor (aIter (aCall sp__law_shuffle (aCons (aVar 1) (aCons (aLRng2 (aC (.int 1)) (aC (.int 13))) aNil)))) (agName 3) as_law_4) as_law_11)
def as_law_2 : AS := (aSeq (aAsg (aCall sp__law_frames aNil) (agName 2)) as_law_3)
def as_law : AS := (aSeq (aAsg (aCall sp__law_store (aCons (aVar 0) aNil)) (agName 1)) as_law_2)

theorem rng12 : (List.range ((13 : Int) - 1).toNat).map (fun k => D.int (1 + (k : Nat))) = ((List.range 12).map fun k => ((k + 1 : Nat) : Int)).map D.int := by
  rw [List.map_map]
  apply List.map_congr_left
  intro k _
  show D.int (1 + (k : Int)) = D.int ((k + 1 : Nat) : Int)
  congr 1; omega
theorem badPl (j : Int) : Pl 4 (.tup [.str (tl "BadNumber"), .tup [.int j]]) := .tup (.cons (n := 1) (.str _) (.cons (n := 2) (m := 0) (.tup (.cons (n := 1) (m := 0) (.int _) .nil)) .nil))
theorem tr_bad {w j : Int} (h : ¬ (1 ≤ j ∧ j ≤ 12)) : trD w j = .tup [.str (tl "BadNumber"), .tup [.int j]] := by unfold trD; rw [if_neg h]
theorem pure_law (ds : List D) (A : Ah) (q : D → Ah → Prop) (x : AX) : sp_law ds A q x → as_law (endsA q x) (startA ["script", "store", "frames", "number", "far", "which"] ds) A := by
  rintro ⟨is, rfl, h⟩
  (conv => whnf)
  refine ⟨is, rfl, fun l A1 S1 => ?_⟩
  (conv => whnf)
  refine ⟨rfl, fun p A2 hp G2 ep => ?_⟩
  have S2 := S1.ext G2
  have hpl : p ≠ l := S1.ne hp
  (conv => whnf)
  refine ⟨by decide, fun r hr => ?_⟩
  rw [rng12]
  have hrl := S2.ne hr
  have ep3 := Ext.new (c := .lst (((List.range 12).map fun k => ((k + 1 : Nat) : Int)).map D.int)) hr _ _ ep
  have er : updA A2 r (.lst (((List.range 12).map fun k => ((k + 1 : Nat) : Int)).map D.int)) r = some (.lst (((List.range 12).map fun k => ((k + 1 : Nat) : Int)).map D.int)) := updA_same
  have S3 := S2.ext (Ext.new (c := .lst (((List.range 12).map fun k => ((k + 1 : Nat) : Int)).map D.int)) hr)
  generalize updA A2 r (.lst (((List.range 12).map fun k => ((k + 1 : Nat) : Int)).map D.int)) = A3 at ep3 er S3 ⊢
  (conv => whnf)
  refine ⟨l, 0, .ref r, _, rfl, S3, by decide, .inl ⟨r, rfl, er⟩, fun z => hrl (by cases z; rfl), by decide, fun s ys A4 hperm hsl es K4 S4 => ?_⟩
  have ep4 := K4 _ _ hpl ep3
  have hys : ∀ y ∈ ys, ∃ n : Nat, y = .int n ∧ 1 ≤ n ∧ n ≤ 12 := fun y hy => by
    have := hperm.mem_iff.mp hy
    obtain ⟨v, hv, rfl⟩ := List.mem_map.mp this
    obtain ⟨k, hk, rfl⟩ := List.mem_map.mp hv
    exact ⟨k + 1, rfl, by omega, by have := List.mem_range.mp hk; omega⟩
  have hyl : ys.length = 12 := by rw [hperm.length_eq]; rfl
  have S4 : St A4 l 12 := S4
  have out : ∀ A5, St A5 l 300 → A5 p = some (.lst ((lfN 11).1.map D.int)) → ∀ a b c, as_law_11 (endsA q x) [some (.lof (is.map D.int)), some (.ref l), some (.ref p), a, b, c] A5 := by
    intro A5 S5 ep5 a b c
    (conv => whnf)
    refine ⟨l, _, rfl, S5, by decide, fun j A6 hj K6 S6 => ?_⟩
    have ep6 := K6 _ _ hpl ep5
    (conv => whnf)
    refine ⟨Nat.le_of_ble_eq_true rfl, fun t ht => ?_⟩
    have htl := S6.ne ht
    have et : updA A6 t (.lst [.int 0, .int 13, .int j]) t = some (.lst [.int 0, .int 13, .int j]) := updA_same
    have ep7 := Ext.new (c := .lst [.int 0, .int 13, .int j]) ht _ _ ep6
    have S7 := S6.ext (Ext.new (c := .lst [.int 0, .int 13, .int j]) ht)
    generalize updA A6 t (.lst [.int 0, .int 13, .int j]) = A7 at et ep7 S7 ⊢
    (conv => whnf)
    refine ⟨_, et, fun i Γ A' => ∃ b c, Γ = [some (.lof (is.map D.int)), some (.ref l), some (.ref p), a, b, c] ∧ Ext A7 A', ⟨_, _, rfl, .rfl⟩, fun i Γ A' _ => fun ⟨_, _, _, G⟩ => G _ _ et, ?_, ?_⟩
    · rintro i Γ A8 (hi : i < 3) ⟨b, c, rfl, G8⟩
      have hfar : ∃ f : Int, ¬ (1 ≤ f ∧ f ≤ 12) ∧ [D.int 0, .int 13, .int j].getD i .non = .int f := by
        have : i = 0 ∨ i = 1 ∨ i = 2 := by omega
        rcases this with rfl | rfl | rfl
        · exact ⟨0, by omega, rfl⟩
        · exact ⟨13, by omega, rfl⟩
        · exact ⟨j, hj, rfl⟩
      obtain ⟨f, hf, hx⟩ := hfar
      show agName 4 ([D.int 0, .int 13, .int j].getD i .non) _ _ _
      rw [hx]
      (conv => whnf)
      refine ⟨by decide, fun k Γ A' => ∃ c, Γ = [some (.lof (is.map D.int)), some (.ref l), some (.ref p), a, some (.int f), c] ∧ Ext A7 A', ⟨_, rfl, G8⟩, fun _ _ _ _ _ => trivial, ?_, ?_⟩
      · rintro k Γ A9 (hk : k < 2) ⟨c, rfl, G9⟩
        (conv => whnf)
        refine ⟨_, f, rfl, fun A10 G10 => ?_⟩
        rw [tr_bad hf]
        (conv => whnf)
        refine ⟨Nat.le_of_ble_eq_true rfl, ?_⟩
        (conv => whnf)
        refine ⟨Nat.le_of_ble_eq_true rfl, ?_⟩
        (conv => whnf)
        refine ⟨_, 4, rfl, badPl f, by decide, fun A11 G11 => ?_⟩
        (repeat ((conv => whnf); first | (refine ⟨?_, fun _ => ?_⟩; · (intro z; cases z)) | (refine ⟨fun _ => ?_, ?_⟩; rotate_left; · (intro z; cases z)) | (refine ⟨?_, fun _ => ?_⟩; · (intro z; exact absurd z (by decide))) | (refine ⟨fun _ => ?_, ?_⟩; rotate_left; · (intro z; exact absurd z (by decide)))))
        exact ⟨_, rfl, (G9.trans G10).trans G11⟩
      · rintro Γ A9 ⟨c, rfl, G9⟩
        exact ⟨_, _, rfl, G9⟩
    · rintro Γ A8 ⟨b, c, rfl, G8⟩
      (conv => whnf)
      refine ⟨l, _, 12, rfl, S7.ext G8, by decide, by decide, fun m A9 m0 m1 K9 S9 => ?_⟩
      obtain ⟨m, rfl⟩ := toN m0
      (conv => whnf)
      exact ⟨1 + m, p, 1, rfl, by omega, by omega, .inr rfl, K9 _ _ hpl (G8 _ _ ep7), fun A10 _ => h A10⟩
  (conv => whnf)
  refine ⟨_, es, fun i Γ A' => ∃ a b c, Γ = [some (.lof (is.map D.int)), some (.ref l), some (.ref p), a, b, c] ∧ A' s = some (.lst ys) ∧ A' p = some (.lst ((lfN 11).1.map D.int)) ∧ St A' l (12 + 20 * i), ⟨_, _, _, rfl, es, ep4, S4⟩, fun i Γ A' _ => fun ⟨_, _, _, _, h, _⟩ => h, ?_, ?_⟩
  · rintro i Γ A5 (hi : i < ys.length) ⟨a, b, c, rfl, es5, ep5, S5⟩
    have hi12 : i < 12 := by omega
    have hy : ys.getD i .non = ys[i] := by rw [List.getD_eq_getElem?_getD, List.getElem?_eq_getElem hi]; rfl
    obtain ⟨n, hn, n1, n12⟩ := hys _ (List.getElem_mem hi)
    show agName 3 (ys.getD i .non) _ _ _
    rw [hy, hn]
    (conv => whnf)
    refine ⟨l, _, 2, rfl, S5, by omega, by decide, fun w A6 w0 w1 K6 S6 => ?_⟩
    have es6 := K6 _ _ hsl es5
    have ep6 := K6 _ _ hpl ep5
    (conv => whnf)
    refine ⟨n, p, w, rfl, n1, n12, by omega, ep6, fun A7 G7 => ?_⟩
    have S7 := S6.ext G7
    (repeat ((conv => whnf); first | (refine ⟨?_, fun _ => ?_⟩; · (intro z; cases z)) | (refine ⟨fun _ => ?_, ?_⟩; rotate_left; · (intro z; cases z)) | (refine ⟨?_, fun _ => ?_⟩; · (intro z; exact absurd z (by decide))) | (refine ⟨fun _ => ?_, ?_⟩; rotate_left; · (intro z; exact absurd z (by decide)))))
    (conv => whnf)
    refine ⟨l, _, 3, rfl, S7, by omega, by decide, fun t A8 t0 t1 K8 S8 => ?_⟩
    have es8 := K8 _ _ hsl (G7 _ _ es6)
    have ep8 := K8 _ _ hpl (G7 _ _ ep6)
    (conv => whnf)
    refine ⟨fun _ => ?_, fun _ => ?_⟩
    · (conv => whnf)
      refine ⟨l, _, rfl, S8, by omega, fun j A9 hj K9 S9 => ?_⟩
      (conv => whnf)
      refine ⟨l, _, 2, rfl, S9, by omega, by decide, fun w2 A10 _ _ K10 S10 => ?_⟩
      have es10 := K10 _ _ hsl (K9 _ _ hsl es8)
      have ep10 := K10 _ _ hpl (K9 _ _ hpl ep8)
      (conv => whnf)
      refine ⟨w2, j, rfl, fun A11 G11 => ?_⟩
      rw [tr_bad hj]
      (conv => whnf)
      refine ⟨Nat.le_of_ble_eq_true rfl, ?_⟩
      (conv => whnf)
      refine ⟨Nat.le_of_ble_eq_true rfl, ?_⟩
      (conv => whnf)
      refine ⟨_, 4, rfl, badPl j, by decide, fun A12 G12 => ?_⟩
      (repeat ((conv => whnf); first | (refine ⟨?_, fun _ => ?_⟩; · (intro z; cases z)) | (refine ⟨fun _ => ?_, ?_⟩; rotate_left; · (intro z; cases z)) | (refine ⟨?_, fun _ => ?_⟩; · (intro z; exact absurd z (by decide))) | (refine ⟨fun _ => ?_, ?_⟩; rotate_left; · (intro z; exact absurd z (by decide)))))
      exact ⟨_, _, _, rfl, G12 _ _ (G11 _ _ es10), G12 _ _ (G11 _ _ ep10), ((S10.ext G11).ext G12).mono (by omega)⟩
    · exact ⟨_, _, _, rfl, es8, ep8, S8.mono (by omega)⟩
  · rintro Γ A5 ⟨a, b, c, rfl, es5, ep5, S5⟩
    have S5 : St A5 l (12 + 20 * ys.length) := S5
    exact out A5 (S5.mono (by omega)) ep5 a b c
theorem len_law (ds : List D) (A : Ah) (q : D → Ah → Prop) (x : AX) : sp_law ds A q x → ds.length = 1 := by
  rintro ⟨is, rfl, _⟩; rfl
section
variable {P : Program} {w : World} {K : Fg} {mg : Str → Option Value} {base : Heap}
theorem tm_factorial_of (T : Tx K mg P w base) {fd : FuncData} {ad : Addr} (F : FunD K "factorial_of" "factorial_of" (defArgs st_factorial_of) (defBody st_factorial_of) (defScope st_factorial_of) [] [] ad fd)
    (len : ∀ ds A q e, sp_factorial_of ds A q e → ds.length = 1) (pure : ∀ ds A q x, sp_factorial_of ds A q x → (as_factorial_of) (endsA q x) (startA ["number", "total", "factor"] ds) A) : FnA P w K mg base 1 ad fd ["number"] sp_factorial_of := by
  refine fnA_of F sc_factorial_of len (fun cdv A outer s H E hr tk hp => ?_) pure
  have hu := hr.units
  exact ⟨_, (gb_cons (gs_set (i := 1) sc_factorial_of.nd ga_int)
    (gb_cons (gs_for hp rfl (gi_rng2 (gs_cons ga_int (gs_cons (ga_add (ga_var (i := 0)) ga_int) gs_nil)) T.f_range) (gg_name (i := 2) sc_factorial_of.nd) (gb_one (gs_augM (i := 1) sc_factorial_of.nd (ga_var (i := 2)))))
    (gb_one (gs_ret (ga_var (i := 1))))))⟩

theorem tm_frame_tables (T : Tx K mg P w base) {fd : FuncData} {ad : Addr} (F : FunD K "frame_tables" "frame_tables" (defArgs st_frame_tables) (defBody st_frame_tables) (defScope st_frame_tables) [] [] ad fd)
    (len : ∀ ds A q e, sp_frame_tables ds A q e → ds.length = 1) (pure : ∀ ds A q x, sp_frame_tables ds A q x → (as_frame_tables) (endsA q x) (startA ["size", "alls", "plains", "chains", "firsts", "backs", "rounds", "many", "first", "back", "turn", "part", "count", "zeros", "some", "kinds"] ds) A) : FnA P w K mg base 1 ad fd ["size"] sp_frame_tables := by
  refine fnA_of F sc_frame_tables len (fun cdv A outer s H E hr tk hp => ?_) pure
  have hu := hr.units
  exact ⟨_, (gb_cons (gs_par3 (i := 1) (j := 2) (l := 3) rfl sc_frame_tables.nd (gs_cons (ga_lst (gs_cons ga_int gs_nil)) (gs_cons (ga_lst (gs_cons ga_int gs_nil)) (gs_cons (ga_lst (gs_cons ga_int gs_nil)) gs_nil))))
    (gb_cons (gs_par3 (i := 4) (j := 5) (l := 6) rfl sc_frame_tables.nd (gs_cons (ga_lst (gs_cons ga_int gs_nil)) (gs_cons (ga_lst (gs_cons ga_int gs_nil)) (gs_cons (ga_lst (gs_cons ga_int gs_nil)) gs_nil))))
    (gb_cons (gs_for hp rfl (gi_rng2 (gs_cons ga_int (gs_cons (ga_add (ga_var (i := 0)) ga_int) gs_nil)) T.f_range) (gg_name (i := 7) sc_frame_tables.nd) (gb_cons (gs_asg (ga_tup (gs_cons ga_int (gs_cons ga_int (gs_cons ga_int gs_nil)))) (gg_tup rfl (gg_cons (gg_name (i := 8) sc_frame_tables.nd) (gg_cons (gg_name (i := 9) sc_frame_tables.nd) (gg_cons (gg_name (i := 10) sc_frame_tables.nd) gg_nil)))))
    (gb_cons (gs_for hp rfl (gi_rng2 (gs_cons ga_int (gs_cons (ga_var (i := 7)) gs_nil)) T.f_range) (gg_name (i := 11) sc_frame_tables.nd) (gb_cons (gs_augI (i := 8) sc_frame_tables.nd ip_add (ga_mul (ga_ix (ga_var (i := 2)) (ga_var (i := 11))) (ga_ix (ga_var (i := 1)) (ga_sub (ga_var (i := 7)) (ga_var (i := 11))))))
    (gb_cons (gs_augI (i := 9) sc_frame_tables.nd ip_add (ga_mul (ga_ix (ga_var (i := 1)) (ga_var (i := 11))) (ga_ix (ga_var (i := 3)) (ga_sub (ga_var (i := 7)) (ga_var (i := 11))))))
    (gb_one (gs_augI (i := 10) sc_frame_tables.nd ip_add (ga_mul (ga_ix (ga_var (i := 1)) (ga_var (i := 11))) (ga_ix (ga_var (i := 5)) (ga_sub (ga_var (i := 7)) (ga_var (i := 11))))))))))
    (gb_cons (gs_set (i := 12) sc_frame_tables.nd (ga_if (gt_cmp ca_gt (ga_var (i := 7)) ga_int) (ga_add (ga_add (ga_var (i := 8)) (ga_var (i := 9))) (ga_var (i := 10))) ga_int))
    (gb_cons (gs_expr (ga_mL ml_append (ga_var (i := 1)) (gs_cons (ga_var (i := 12)) gs_nil)))
    (gb_cons (gs_expr (ga_mL ml_append (ga_var (i := 2)) (gs_cons (ga_sub (ga_var (i := 12)) (ga_var (i := 8))) gs_nil)))
    (gb_cons (gs_expr (ga_mL ml_append (ga_var (i := 3)) (gs_cons (ga_add (ga_var (i := 12)) (ga_var (i := 9))) gs_nil)))
    (gb_cons (gs_expr (ga_mL ml_append (ga_var (i := 4)) (gs_cons (ga_var (i := 8)) gs_nil)))
    (gb_cons (gs_expr (ga_mL ml_append (ga_var (i := 5)) (gs_cons (ga_var (i := 9)) gs_nil)))
    (gb_one (gs_expr (ga_mL ml_append (ga_var (i := 6)) (gs_cons (ga_var (i := 10)) gs_nil)))))))))))))
    (gb_cons (gs_set (i := 13) sc_frame_tables.nd (ga_mul (ga_lst (gs_cons ga_int gs_nil)) (ga_add (ga_var (i := 0)) ga_int)))
    (gb_cons (gs_set (i := 14) sc_frame_tables.nd (ga_add (ga_lst (gs_cons ga_int gs_nil)) (ga_sl (ga_var (i := 3)) (go_some ga_int) go_none)))
    (gb_cons (gs_set (i := 15) sc_frame_tables.nd (ga_disp (gd_cons (ga_tup (gs_cons (ga_var (i := 2)) (gs_cons (ga_var (i := 4)) (gs_cons (ga_lst (gs_cons (ga_add (ga_lst (gs_cons ga_int gs_nil)) (ga_sl (ga_var (i := 1)) (go_some ga_int) go_none)) (gs_cons (ga_var (i := 1)) (gs_cons (ga_var (i := 4)) gs_nil)))) gs_nil)))) (gd_cons (ga_tup (gs_cons (ga_var (i := 1)) (gs_cons (ga_var (i := 13)) (gs_cons (ga_lst (gs_cons (ga_var (i := 3)) (gs_cons (ga_var (i := 14)) (gs_cons (ga_var (i := 5)) gs_nil)))) gs_nil)))) (gd_cons (ga_tup (gs_cons (ga_var (i := 1)) (gs_cons (ga_var (i := 13)) (gs_cons (ga_lst (gs_cons (ga_var (i := 3)) (gs_cons (ga_var (i := 14)) (gs_cons (ga_var (i := 5)) (gs_cons (ga_var (i := 6)) gs_nil))))) gs_nil)))) gd_nil)))))
    (gb_one (gs_ret (ga_tup (gs_cons (ga_var (i := 1)) (gs_cons (ga_var (i := 15)) gs_nil)))))))))))⟩

theorem tm__law_mix (T : Tx K mg P w base) {fd : FuncData} {ad : Addr} (F : FunD K "_law_mix" "_law_mix" (defArgs st__law_mix) (defBody st__law_mix) (defScope st__law_mix) [] [] ad fd)
    (len : ∀ ds A q e, sp__law_mix ds A q e → ds.length = 1) (pure : ∀ ds A q x, sp__law_mix ds A q x → (as__law_mix) (endsA q x) (startA ["number", "large", "value"] ds) A) : FnA P w K mg base 1 ad fd ["number"] sp__law_mix := by
  refine fnA_of F sc__law_mix len (fun cdv A outer s H E hr tk hp => ?_) pure
  have hu := hr.units
  exact ⟨_, (gb_cons (gs_set (i := 1) sc__law_mix.nd ga_int)
    (gb_cons (gs_set (i := 2) sc__law_mix.nd (ga_mod (ga_bty ba_int T.f_int (gs_cons (ga_var (i := 0)) gs_nil)) (ga_var (i := 1))))
    (gb_cons (gs_set (i := 2) sc__law_mix.nd (ga_mod (ga_bty ba_int T.f_int (gs_cons (ga_add (ga_mul (ga_var (i := 2)) ga_int) ga_int) gs_nil)) (ga_var (i := 1))))
    (gb_cons (gs_set (i := 2) sc__law_mix.nd (ga_mod (ga_bty ba_int T.f_int (gs_cons (ga_add (ga_add (ga_mul (ga_var (i := 2)) (ga_var (i := 2))) (ga_mul (ga_div (ga_var (i := 2)) ga_int) ga_int)) ga_int) gs_nil)) (ga_var (i := 1))))
    (gb_one (gs_ret (ga_mod (ga_bty ba_int T.f_int (gs_cons (ga_add (ga_add (ga_mul (ga_div (ga_var (i := 2)) ga_int) ga_int) (ga_mul (ga_var (i := 2)) ga_int)) ga_int) gs_nil)) (ga_var (i := 1)))))))))⟩

theorem tm__law_equal (T : Tx K mg P w base) {fd : FuncData} {ad : Addr} (F : FunD K "_law_equal" "_law_equal" (defArgs st__law_equal) (defBody st__law_equal) (defScope st__law_equal) [] [] ad fd)
    (len : ∀ ds A q e, sp__law_equal ds A q e → ds.length = 2) (pure : ∀ ds A q x, sp__law_equal ds A q x → (as__law_equal) (endsA q x) (startA ["got", "due", "stack", "k", "one", "two", "x", "i"] ds) A) : FnA P w K mg base 1 ad fd ["got", "due"] sp__law_equal := by
  refine fnA_of F sc__law_equal len (fun cdv A outer s H E hr tk hp => ?_) pure
  have hu := hr.units
  exact ⟨_, (gb_cons (gs_set (i := 2) sc__law_equal.nd (ga_lst (gs_cons (ga_tup (gs_cons (ga_var (i := 0)) (gs_cons (ga_var (i := 1)) gs_nil))) gs_nil)))
    (gb_cons (gs_for hp rfl (gi_rng1 (gs_cons ga_int gs_nil) T.f_range) (gg_name (i := 3) sc__law_equal.nd) (gb_cons (gs_if (gt_cmp (ca_eq hu) (ga_blt ba_len T.f_len (gs_cons (ga_var (i := 2)) gs_nil)) ga_int) (gb_one (gs_ret ga_bl)) gb_nil)
    (gb_cons (gs_set (i := 4) sc__law_equal.nd (ga_ix (ga_ix (ga_var (i := 2)) (ga_neg ga_int)) ga_int))
    (gb_cons (gs_set (i := 5) sc__law_equal.nd (ga_ix (ga_ix (ga_var (i := 2)) (ga_neg ga_int)) ga_int))
    (gb_cons (gs_expr (ga_mL0 ml_pop (ga_var (i := 2))))
    (gb_one (gs_if (gt_val (ga_blt ba_isi T.f_isinstance (gs_cons (ga_var (i := 5)) (gs_cons (ga_bltn T.f_dict (v := .ty "dict") (u := .type "dict") (by decide +kernel) rfl (fun _ => .ty _)) gs_nil)))) (gb_cons gs_never
    (gb_one gs_never)) (gb_one (gs_if (gt_val (ga_blt ba_isi T.f_isinstance (gs_cons (ga_var (i := 5)) (gs_cons (ga_bltn T.f_tuple (v := .ty "tuple") (u := .type "tuple") (by decide +kernel) rfl (fun _ => .ty _)) gs_nil)))) (gb_cons (gs_if (gt_bool (gw_or (gt_not (gt_val (ga_blt ba_isi T.f_isinstance (gs_cons (ga_var (i := 4)) (gs_cons (ga_bltn T.f_tuple (v := .ty "tuple") (u := .type "tuple") (by decide +kernel) rfl (fun _ => .ty _)) gs_nil))))) (gw_or1 (gt_cmp (ca_ne hu) (ga_blt ba_len T.f_len (gs_cons (ga_var (i := 4)) gs_nil)) (ga_blt ba_len T.f_len (gs_cons (ga_var (i := 5)) gs_nil)))))) (gb_one (gs_ret ga_bl)) gb_nil)
    (gb_one (gs_expr (ga_mL ml_extend (ga_var (i := 2)) (gs_cons (ga_lc (own := [("i", 7)]) rfl sc__law_equal.nd (gi_rng1 (gs_cons (ga_blt ba_len T.f_len (gs_cons (ga_var (i := 5)) gs_nil)) gs_nil) T.f_range) (show BlkOk ["got", "due", "stack", "k", "one", "two", "x", "i"] (defScope st__law_equal) _ [("i", 7)] from ⟨rfl, by decide +kernel, by decide +kernel, by decide +kernel, by decide +kernel⟩) (fun s H C cl fp => (gg_name (i := 7) sc__law_equal.nd)) (fun s H C cl fp => gts_nil) (fun s H C cl fp => (ga_tup (gs_cons (ga_ix (ga_var (i := 4)) (ga_var (i := 7))) (gs_cons (ga_ix (ga_var (i := 5)) (ga_var (i := 7))) gs_nil)))) (tw_name (by decide))) gs_nil))))) (gb_one (gs_if (gt_cmp ca_is (ga_var (i := 5)) ga_non) (gb_one (gs_if (gt_cmp ca_isn (ga_var (i := 4)) ga_non) (gb_one (gs_ret ga_bl)) gb_nil)) (gb_one (gs_if (gt_bool (gw_or (gt_cmp (ca_ne hu) (ga_blt ba_isi T.f_isinstance (gs_cons (ga_var (i := 4)) (gs_cons (ga_bltn T.f_str (v := .ty "str") (u := .type "str") (by decide +kernel) rfl (fun _ => .ty _)) gs_nil))) (ga_blt ba_isi T.f_isinstance (gs_cons (ga_var (i := 5)) (gs_cons (ga_bltn T.f_str (v := .ty "str") (u := .type "str") (by decide +kernel) rfl (fun _ => .ty _)) gs_nil)))) (gw_or1 (gt_cmp (ca_ne hu) (ga_blt ba_isi T.f_isinstance (gs_cons (ga_var (i := 4)) (gs_cons (ga_bltn T.f_bool (v := .ty "bool") (u := .type "bool") (by decide +kernel) rfl (fun _ => .ty _)) gs_nil))) (ga_blt ba_isi T.f_isinstance (gs_cons (ga_var (i := 5)) (gs_cons (ga_bltn T.f_bool (v := .ty "bool") (u := .type "bool") (by decide +kernel) rfl (fun _ => .ty _)) gs_nil))))))) (gb_one (gs_ret ga_bl)) (gb_one (gs_if (gt_bool (gw_or (gt_cmp (ca_ne hu) (ga_blt ba_isi T.f_isinstance (gs_cons (ga_var (i := 4)) (gs_cons (ga_bltn T.f_int (v := .ty "int") (u := .type "int") (by decide +kernel) rfl (fun _ => .ty _)) gs_nil))) (ga_blt ba_isi T.f_isinstance (gs_cons (ga_var (i := 5)) (gs_cons (ga_bltn T.f_int (v := .ty "int") (u := .type "int") (by decide +kernel) rfl (fun _ => .ty _)) gs_nil)))) (gw_or1 (gt_cmp (ca_ne hu) (ga_var (i := 4)) (ga_var (i := 5)))))) (gb_one (gs_ret ga_bl)) gb_nil)))))))))))))))
    (gb_one (gs_ret ga_bl))))⟩

theorem htm__law_error (T : Tx K mg P w base) {fd : FuncData} {ad : Addr} (F : FunD K "_law_error" "_law_error" (defArgs st__law_error) (defBody st__law_error) (defScope st__law_error) [] [] ad fd)
    (len : ∀ a e ds A q x, hsp__law_error a e ds A q x → ds.length = 1) (pure : ∀ a ε ds A q x, hsp__law_error a ε ds A q x → (has__law_error K a ε) (endsA q x) (startA ["e", "flags"] ds) A) : FnE P w K mg base (L2N.CX P w) 1 ad fd ["e"] (liftH K excs hsp__law_error) := by
  refine fnH_of (cl := excs) F sc__law_error len (fun cdv A outer s H E p ε hcl hot hz hf rh tk hp => ?_) pure
  have hu : (A.deeper (envOfC "_law_error" (defScope st__law_error) s.heap.objs.size ad cdv)).units + 64 < cLine := by
    have := rh.un
    omega
  have hpn : p ∈ [p] := List.mem_cons_self
  have hc : L2H.HotC (L2H.cxH (L2N.CX P w) P w K mg base ["e", "flags"] "_law_error" (defScope st__law_error) ad cdv A outer s H E p) := ⟨p, hot, hpn⟩
  obtain ⟨a, oe⟩ := p
  exact ⟨_, (gb_cons (gs_set (i := 1) sc__law_error.nd (ga_lst (gs_cons (ga_blt (ba_isE (T.ec _ hcl) hz hf hpn) T.f_isinstance (gs_cons (ga_var (i := 0)) (gs_cons (ga_globC T.n_BadName) gs_nil))) (gs_cons (ga_blt (ba_isE (T.ec _ hcl) hz hf hpn) T.f_isinstance (gs_cons (ga_var (i := 0)) (gs_cons (ga_globC T.n_BadKind) gs_nil))) (gs_cons (ga_blt (ba_isE (T.ec _ hcl) hz hf hpn) T.f_isinstance (gs_cons (ga_var (i := 0)) (gs_cons (ga_globC T.n_BadTree) gs_nil))) (gs_cons (ga_blt (ba_isE (T.ec _ hcl) hz hf hpn) T.f_isinstance (gs_cons (ga_var (i := 0)) (gs_cons (ga_globC T.n_NoSubtree) gs_nil))) gs_nil))))))
    (gb_cons (gs_expr (ga_mL ml_extend (ga_var (i := 1)) (gs_cons (ga_lst (gs_cons (ga_blt (ba_isE (T.ec _ hcl) hz hf hpn) T.f_isinstance (gs_cons (ga_var (i := 0)) (gs_cons (ga_globC T.n_Twice) gs_nil))) (gs_cons (ga_blt (ba_isE (T.ec _ hcl) hz hf hpn) T.f_isinstance (gs_cons (ga_var (i := 0)) (gs_cons (ga_globC T.n_TooMany) gs_nil))) (gs_cons (ga_blt (ba_isE (T.ec _ hcl) hz hf hpn) T.f_isinstance (gs_cons (ga_var (i := 0)) (gs_cons (ga_globC T.n_BadText) gs_nil))) (gs_cons (ga_blt (ba_isE (T.ec _ hcl) hz hf hpn) T.f_isinstance (gs_cons (ga_var (i := 0)) (gs_cons (ga_globC T.n_BadLot) gs_nil))) gs_nil))))) gs_nil)))
    (gb_cons (gs_expr (ga_mL ml_extend (ga_var (i := 1)) (gs_cons (ga_lst (gs_cons (ga_blt (ba_isE (T.ec _ hcl) hz hf hpn) T.f_isinstance (gs_cons (ga_var (i := 0)) (gs_cons (ga_globC T.n_NoSuchLine) gs_nil))) (gs_cons (ga_blt (ba_isE (T.ec _ hcl) hz hf hpn) T.f_isinstance (gs_cons (ga_var (i := 0)) (gs_cons (ga_globC T.n_BadLog) gs_nil))) (gs_cons (ga_blt (ba_isE (T.ec _ hcl) hz hf hpn) T.f_isinstance (gs_cons (ga_var (i := 0)) (gs_cons (ga_globC T.n_BadNumber) gs_nil))) gs_nil)))) gs_nil)))
    (gb_cons (gs_expr (ga_mL ml_extend (ga_var (i := 1)) (gs_cons (ga_lst (gs_cons (ga_blt (ba_isE (T.ec _ hcl) hz hf hpn) T.f_isinstance (gs_cons (ga_var (i := 0)) (gs_cons (ga_globC T.n_Mismatch) gs_nil))) (gs_cons (ga_blt (ba_isE (T.ec _ hcl) hz hf hpn) T.f_isinstance (gs_cons (ga_var (i := 0)) (gs_cons (ga_globC T.n_BadMove) gs_nil))) (gs_cons (ga_blt (ba_isE (T.ec _ hcl) hz hf hpn) T.f_isinstance (gs_cons (ga_var (i := 0)) (gs_cons (ga_globC T.n_BadTable) gs_nil))) (gs_cons (ga_blt (ba_isE (T.ec _ hcl) hz hf hpn) T.f_isinstance (gs_cons (ga_var (i := 0)) (gs_cons (ga_globC T.n_NoTree) gs_nil))) gs_nil))))) gs_nil)))
    (gb_cons (gs_expr (ga_mL ml_extend (ga_var (i := 1)) (gs_cons (ga_lst (gs_cons (ga_blt (ba_isE (T.ec _ hcl) hz hf hpn) T.f_isinstance (gs_cons (ga_var (i := 0)) (gs_cons (ga_globC T.n_BadMatrix) gs_nil))) (gs_cons (ga_blt (ba_isE (T.ec _ hcl) hz hf hpn) T.f_isinstance (gs_cons (ga_var (i := 0)) (gs_cons (ga_globC T.n_NoGrant) gs_nil))) (gs_cons (ga_blt (ba_isE (T.ec _ hcl) hz hf hpn) T.f_isinstance (gs_cons (ga_var (i := 0)) (gs_cons (ga_globC T.n_BadMachine) gs_nil))) gs_nil)))) gs_nil)))
    (gb_cons (gs_expr (ga_mL ml_extend (ga_var (i := 1)) (gs_cons (ga_lst (gs_cons (ga_blt (ba_isE (T.ec _ hcl) hz hf hpn) T.f_isinstance (gs_cons (ga_var (i := 0)) (gs_cons (ga_globC T.n_BadWish) gs_nil))) (gs_cons (ga_blt (ba_isE (T.ec _ hcl) hz hf hpn) T.f_isinstance (gs_cons (ga_var (i := 0)) (gs_cons (ga_globC T.n_NoCover) gs_nil))) (gs_cons (ga_blt (ba_isE (T.ec _ hcl) hz hf hpn) T.f_isinstance (gs_cons (ga_var (i := 0)) (gs_cons (ga_globC T.n_Barred) gs_nil))) (gs_cons (ga_blt (ba_isE (T.ec _ hcl) hz hf hpn) T.f_isinstance (gs_cons (ga_var (i := 0)) (gs_cons (ga_globC T.n_LastLine) gs_nil))) gs_nil))))) gs_nil)))
    (gb_cons (gs_expr (ga_mL ml_extend (ga_var (i := 1)) (gs_cons (ga_lst (gs_cons (ga_blt (ba_isE (T.ec _ hcl) hz hf hpn) T.f_isinstance (gs_cons (ga_var (i := 0)) (gs_cons (ga_globC T.n_NoEdit) gs_nil))) gs_nil)) gs_nil)))
    (gb_cons (gs_if (gt_bool (gw_or (gt_cmp (ca_ne hu) (ga_mL ml_count (ga_var (i := 1)) (gs_cons ga_bl gs_nil)) ga_int) (gw_or (gt_not (gt_val (ga_blt (ba_isE (T.ec _ hcl) hz hf hpn) T.f_isinstance (gs_cons (ga_var (i := 0)) (gs_cons (ga_globC T.n_GrantError) gs_nil))))) (gw_or1 (gt_not (gt_val (ga_blt (ba_isE (T.ec _ hcl) hz hf hpn) T.f_isinstance (gs_cons (ga_var (i := 0)) (gs_cons (ga_bltn T.f_ValueError (v := .ty "ValueError") (u := .type "ValueError") (by decide +kernel) rfl (fun _ => .ty _)) gs_nil))))))))) (gb_one (gs_ret (ga_tup (gs_cons ga_str (gs_cons (ga_tup gs_nil) gs_nil))))) gb_nil)
    (gb_cons (gs_if (gt_val (ga_blt (ba_isE (T.ec _ hcl) hz hf hpn) T.f_isinstance (gs_cons (ga_var (i := 0)) (gs_cons (ga_globC T.n_BadNumber) gs_nil)))) (gb_one (gs_ret (ga_tup (gs_cons ga_str (gs_cons (ga_tup (gs_cons (gh_fld (ε := ε) (T.ec _ hcl).xf (T.na_number _ hcl) hz hf hpn (ga_var (i := 0))) gs_nil)) gs_nil))))) gb_nil)
    (gb_one (gs_ret (ga_tup (gs_cons ga_str (gs_cons (ga_tup gs_nil) gs_nil))))))))))))))⟩

theorem tm__law_sequences (T : Tx K mg P w base) {fd : FuncData} {ad : Addr} (F : FunD K "_law_sequences" "_law_sequences" (defArgs st__law_sequences) (defBody st__law_sequences) (defScope st__law_sequences) [] [] ad fd)
    (len : ∀ ds A q e, sp__law_sequences ds A q e → ds.length = 2) (pure : ∀ ds A q x, sp__law_sequences ds A q x → (as__law_sequences) (endsA q x) (startA ["ones", "most", "any_many", "n", "i"] ds) A) : FnA P w K mg base 1 ad fd ["ones", "most"] sp__law_sequences := by
  refine fnA_of F sc__law_sequences len (fun cdv A outer s H E hr tk hp => ?_) pure
  have hu := hr.units
  exact ⟨_, (gb_cons (gs_set (i := 2) sc__law_sequences.nd (ga_lst (gs_cons ga_int gs_nil)))
    (gb_cons (gs_for hp rfl (gi_rng2 (gs_cons ga_int (gs_cons (ga_add (ga_var (i := 1)) ga_int) gs_nil)) T.f_range) (gg_name (i := 3) sc__law_sequences.nd) (gb_one (gs_expr (ga_mL ml_append (ga_var (i := 2)) (gs_cons (ga_blt (ba_sum rfl) T.f_sum (gs_cons (ga_lc (own := [("i", 4)]) rfl sc__law_sequences.nd (gi_rng2 (gs_cons ga_int (gs_cons (ga_add (ga_var (i := 3)) ga_int) gs_nil)) T.f_range) (show BlkOk ["ones", "most", "any_many", "n", "i"] (defScope st__law_sequences) _ [("i", 4)] from ⟨rfl, by decide +kernel, by decide +kernel, by decide +kernel, by decide +kernel⟩) (fun s H C cl fp => (gg_name (i := 4) sc__law_sequences.nd)) (fun s H C cl fp => gts_nil) (fun s H C cl fp => (ga_mul (ga_ix (ga_var (i := 0)) (ga_var (i := 4))) (ga_ix (ga_var (i := 2)) (ga_sub (ga_var (i := 3)) (ga_var (i := 4)))))) (tw_name (by decide))) gs_nil)) gs_nil)))))
    (gb_one (gs_ret (ga_add (ga_lst (gs_cons ga_int gs_nil)) (ga_lc (own := [("n", 3)]) rfl sc__law_sequences.nd (gi_rng2 (gs_cons ga_int (gs_cons (ga_add (ga_var (i := 1)) ga_int) gs_nil)) T.f_range) (show BlkOk ["ones", "most", "any_many", "n", "i"] (defScope st__law_sequences) _ [("n", 3)] from ⟨rfl, by decide +kernel, by decide +kernel, by decide +kernel, by decide +kernel⟩) (fun s H C cl fp => (gg_name (i := 3) sc__law_sequences.nd)) (fun s H C cl fp => gts_nil) (fun s H C cl fp => (ga_sub (ga_ix (ga_var (i := 2)) (ga_var (i := 3))) (ga_ix (ga_var (i := 0)) (ga_var (i := 3))))) (tw_name (by decide))))))))⟩

theorem tm_frames_over (T : Tx K mg P w base) (h_frame_tables : Fn0 P w K mg base "frame_tables" 1 sp_frame_tables) {fd : FuncData} {ad : Addr} (F : FunD K "frames_over" "frames_over" (defArgs st_frames_over) (defBody st_frames_over) (defScope st_frames_over) [] [] ad fd)
    (len : ∀ ds A q e, sp_frames_over ds A q e → ds.length = 1) (pure : ∀ ds A q x, sp_frames_over ds A q x → (as_frames_over) (endsA q x) (startA ["number", "alls", "kinds"] ds) A) : FnA P w K mg base 2 ad fd ["number"] sp_frames_over := by
  refine fnA_of F sc_frames_over len (fun cdv A outer s H E hr tk hp => ?_) pure
  have hu := hr.units
  exact ⟨_, (gb_cons (gs_asg (ga_call h_frame_tables (hr.mono (by decide)) tk (gs_cons (ga_var (i := 0)) gs_nil)) (gg_tup rfl (gg_cons (gg_name (i := 1) sc_frames_over.nd) (gg_cons (gg_name (i := 2) sc_frames_over.nd) gg_nil))))
    (gb_one (gs_ret (ga_ix (ga_var (i := 1)) (ga_var (i := 0))))))⟩

theorem tm__law_store (T : Tx K mg P w base) (h__law_mix : Fn0 P w K mg base "_law_mix" 1 sp__law_mix) {fd : FuncData} {ad : Addr} (F : FunD K "_law_store" "_law_store" (defArgs st__law_store) (defBody st__law_store) (defScope st__law_store) [] [] ad fd)
    (len : ∀ ds A q e, sp__law_store ds A q e → ds.length = 1) (pure : ∀ ds A q x, sp__law_store ds A q x → (as__law_store) (endsA q x) (startA ["script", "wide", "store", "cell", "amount", "sign"] ds) A) : FnA P w K mg base 2 ad fd ["script"] sp__law_store := by
  refine fnA_of F sc__law_store len (fun cdv A outer s H E hr tk hp => ?_) pure
  have hu := hr.units
  exact ⟨_, (gb_cons (gs_set (i := 1) sc__law_store.nd (ga_mul (ga_mul (ga_mul (ga_pow ga_int ga_int) (ga_pow ga_int ga_int)) (ga_pow ga_int ga_int)) (ga_pow ga_int ga_int)))
    (gb_cons (gs_set (i := 2) sc__law_store.nd (ga_lst (gs_cons ga_int (gs_cons ga_int (gs_cons ga_int (gs_cons ga_int (gs_cons ga_int (gs_cons ga_int gs_nil))))))))
    (gb_cons (gs_for hp rfl (gi_seq (ga_sl (ga_bty ba_list T.f_list (gs_cons (ga_var (i := 0)) gs_nil)) go_none (go_some ga_int))) (gg_name (i := 3) sc__law_store.nd) (gb_cons (gs_set (i := 4) sc__law_store.nd (ga_mod (ga_bty ba_int T.f_int (gs_cons (ga_blt ba_abs T.f_abs (gs_cons (ga_bty ba_int T.f_int (gs_cons (ga_var (i := 3)) gs_nil)) gs_nil)) gs_nil)) (ga_var (i := 1))))
    (gb_cons (gs_set (i := 5) sc__law_store.nd (ga_bty ba_int T.f_int (gs_cons (ga_cmp ca_lt (ga_var (i := 3)) ga_int) gs_nil)))
    (gb_cons (gs_asg (ga_call h__law_mix (hr.mono (by decide)) tk (gs_cons (ga_add (ga_add (ga_ix (ga_var (i := 2)) ga_int) (ga_mul (ga_var (i := 4)) ga_int)) (ga_var (i := 5))) gs_nil)) (gg_subL (ga_var (i := 2)) ga_int))
    (gb_one (gs_if (gt_cmp ca_ge (ga_var (i := 4)) (ga_pow ga_int ga_int)) (gb_one (gs_expr (ga_mL ml_append (ga_var (i := 2)) (gs_cons (ga_var (i := 4)) gs_nil)))) (gb_one (gs_expr (ga_mL ml_append (ga_var (i := 2)) (gs_cons (ga_mod (ga_bty ba_int T.f_int (gs_cons (ga_call h__law_mix (hr.mono (by decide)) tk (gs_cons (ga_sub (ga_add (ga_add (ga_mul (ga_var (i := 4)) ga_int) (ga_mul (ga_var (i := 5)) ga_int)) (ga_blt ba_len T.f_len (gs_cons (ga_var (i := 2)) gs_nil))) ga_int) gs_nil)) gs_nil)) (ga_pow ga_int ga_int)) gs_nil))))))))))
    (gb_one (gs_ret (ga_var (i := 2)))))))⟩

theorem tm__law_take (T : Tx K mg P w base) (h__law_mix : Fn0 P w K mg base "_law_mix" 1 sp__law_mix) {fd : FuncData} {ad : Addr} (F : FunD K "_law_take" "_law_take" (defArgs st__law_take) (defBody st__law_take) (defScope st__law_take) [] [] ad fd)
    (len : ∀ ds A q e, sp__law_take ds A q e → ds.length = 2) (pure : ∀ ds A q x, sp__law_take ds A q x → (as__law_take) (endsA q x) (startA ["store", "many", "found"] ds) A) : FnA P w K mg base 2 ad fd ["store", "many"] sp__law_take := by
  refine fnA_of F sc__law_take len (fun cdv A outer s H E hr tk hp => ?_) pure
  have hu := hr.units
  exact ⟨_, (gb_cons (gs_if (gt_cmp ca_lt (ga_var (i := 1)) ga_int) (gb_one (gs_ret ga_int)) gb_nil)
    (gb_cons (gs_if (gt_bool (gw_and (gt_cmp (ca_eq hu) (ga_ix (ga_var (i := 0)) ga_int) ga_int) (gw_and1 (gt_cmp ca_lt (ga_ix (ga_var (i := 0)) ga_int) (ga_blt ba_len T.f_len (gs_cons (ga_var (i := 0)) gs_nil)))))) (gb_cons (gs_asg (ga_ix (ga_var (i := 0)) (ga_ix (ga_var (i := 0)) ga_int)) (gg_subL (ga_var (i := 0)) ga_int))
    (gb_cons (gs_asg (ga_add (ga_ix (ga_var (i := 0)) ga_int) ga_int) (gg_subL (ga_var (i := 0)) ga_int))
    (gb_cons (gs_asg (ga_bty ba_int T.f_int (gs_cons (ga_cmp ca_ge (ga_ix (ga_var (i := 0)) ga_int) (ga_pow ga_int ga_int)) gs_nil)) (gg_subL (ga_var (i := 0)) ga_int))
    (gb_one (gs_asg (ga_add ga_int (ga_mul ga_int (ga_ix (ga_var (i := 0)) ga_int))) (gg_subL (ga_var (i := 0)) ga_int)))))) gb_nil)
    (gb_cons (gs_asg (ga_add (ga_ix (ga_var (i := 0)) ga_int) ga_int) (gg_subL (ga_var (i := 0)) ga_int))
    (gb_cons (gs_if (gt_cmp (ca_eq hu) (ga_ix (ga_var (i := 0)) ga_int) ga_int) (gb_one (gs_ret (ga_mod (ga_bty ba_int T.f_int (gs_cons (ga_call h__law_mix (hr.mono (by decide)) tk (gs_cons (ga_call h__law_mix (hr.mono (by decide)) tk (gs_cons (ga_add (ga_ix (ga_var (i := 0)) ga_int) (ga_mul (ga_ix (ga_var (i := 0)) ga_int) ga_int)) gs_nil)) gs_nil)) gs_nil)) (ga_var (i := 1))))) gb_nil)
    (gb_cons (gs_asg (ga_sub (ga_ix (ga_var (i := 0)) ga_int) ga_int) (gg_subL (ga_var (i := 0)) ga_int))
    (gb_cons (gs_if (gt_cmp (ca_eq hu) (ga_ix (ga_var (i := 0)) ga_int) ga_int) (gb_one (gs_ret (ga_mod (ga_bty ba_int T.f_int (gs_cons (ga_call h__law_mix (hr.mono (by decide)) tk (gs_cons (ga_call h__law_mix (hr.mono (by decide)) tk (gs_cons (ga_add (ga_mul (ga_ix (ga_var (i := 0)) ga_int) ga_int) (ga_ix (ga_var (i := 0)) ga_int)) gs_nil)) gs_nil)) gs_nil)) (ga_var (i := 1))))) gb_nil)
    (gb_cons (gs_set (i := 2) sc__law_take.nd (ga_mod (ga_bty ba_int T.f_int (gs_cons (ga_ix (ga_var (i := 0)) ga_int) gs_nil)) (ga_var (i := 1))))
    (gb_cons (gs_asg (ga_div (ga_ix (ga_var (i := 0)) ga_int) (ga_var (i := 1))) (gg_subL (ga_var (i := 0)) ga_int))
    (gb_cons (gs_if (gt_cmp (ca_eq hu) (ga_ix (ga_var (i := 0)) ga_int) ga_int) (gb_one (gs_asg ga_int (gg_subL (ga_var (i := 0)) ga_int))) gb_nil)
    (gb_one (gs_ret (ga_var (i := 2)))))))))))))⟩

theorem tm__law_frames (T : Tx K mg P w base) (h__law_sequences : Fn0 P w K mg base "_law_sequences" 1 sp__law_sequences) {fd : FuncData} {ad : Addr} (F : FunD K "_law_frames" "_law_frames" (defArgs st__law_frames) (defBody st__law_frames) (defScope st__law_frames) [] [] ad fd)
    (len : ∀ ds A q e, sp__law_frames ds A q e → ds.length = 0) (pure : ∀ ds A q x, sp__law_frames ds A q x → (as__law_frames) (endsA q x) (startA ["every", "lower", "n", "first", "back", "turns", "i"] ds) A) : FnA P w K mg base 2 ad fd [] sp__law_frames := by
  refine fnA_of F sc__law_frames len (fun cdv A outer s H E hr tk hp => ?_) pure
  have hu := hr.units
  exact ⟨_, (gb_cons (gs_set (i := 0) sc__law_frames.nd (ga_lst (gs_cons ga_int (gs_cons ga_int gs_nil))))
    (gb_cons (gs_set (i := 1) sc__law_frames.nd (ga_lst (gs_cons ga_int (gs_cons ga_int gs_nil))))
    (gb_cons (gs_for hp rfl (gi_rng2 (gs_cons ga_int (gs_cons ga_int gs_nil)) T.f_range) (gg_name (i := 2) sc__law_frames.nd) (gb_cons (gs_expr (ga_mL ml_append (ga_var (i := 0)) (gs_cons ga_int gs_nil)))
    (gb_cons (gs_expr (ga_mL ml_append (ga_var (i := 1)) (gs_cons ga_int gs_nil)))
    (gb_cons (gs_set (i := 3) sc__law_frames.nd (ga_ix (ga_call h__law_sequences (hr.mono (by decide)) tk (gs_cons (ga_var (i := 1)) (gs_cons (ga_var (i := 2)) gs_nil))) (ga_var (i := 2))))
    (gb_cons (gs_set (i := 4) sc__law_frames.nd (ga_call h__law_sequences (hr.mono (by decide)) tk (gs_cons (ga_var (i := 0)) (gs_cons (ga_var (i := 2)) gs_nil))))
    (gb_cons (gs_set (i := 5) sc__law_frames.nd (ga_add (ga_ix (ga_var (i := 4)) (ga_var (i := 2))) (ga_blt (ba_sum rfl) T.f_sum (gs_cons (ga_lc (own := [("i", 6)]) rfl sc__law_frames.nd (gi_rng2 (gs_cons ga_int (gs_cons (ga_var (i := 2)) gs_nil)) T.f_range) (show BlkOk ["every", "lower", "n", "first", "back", "turns", "i"] (defScope st__law_frames) _ [("i", 6)] from ⟨rfl, by decide +kernel, by decide +kernel, by decide +kernel, by decide +kernel⟩) (fun s H C cl fp => (gg_name (i := 6) sc__law_frames.nd)) (fun s H C cl fp => gts_nil) (fun s H C cl fp => (ga_mul (ga_ix (ga_var (i := 0)) (ga_var (i := 6))) (ga_ix (ga_var (i := 4)) (ga_sub (ga_var (i := 2)) (ga_var (i := 6)))))) (tw_name (by decide))) gs_nil))))
    (gb_cons (gs_asg (ga_add (ga_var (i := 3)) (ga_var (i := 5))) (gg_subL (ga_var (i := 0)) (ga_var (i := 2))))
    (gb_one (gs_asg (ga_var (i := 5)) (gg_subL (ga_var (i := 1)) (ga_var (i := 2))))))))))))
    (gb_one (gs_ret (ga_var (i := 0)))))))⟩

theorem tm_check_number (T : Tx K mg P w base) {fd : FuncData} {ad : Addr} (F : FunD K "check_number" "check_number" (defArgs st_check_number) (defBody st_check_number) (defScope st_check_number) [] [] ad fd)
    (len : ∀ ds A q e, sp_check_number ds A q e → ds.length = 3) (pure : ∀ ds A q x, sp_check_number ds A q x → (as_check_number) (endsA q x) (startA ["number", "low", "high"] ds) A) : FnA P w K mg base 3 ad fd ["number", "low", "high"] sp_check_number := by
  refine fnA_of F sc_check_number len (fun cdv A outer s H E hr tk hp => ?_) pure
  have hu := hr.units
  exact ⟨_, (gb_one (gs_if (gt_bool (gw_or (gt_cmp ca_lt (ga_var (i := 0)) (ga_var (i := 1))) (gw_or1 (gt_cmp ca_gt (ga_var (i := 0)) (ga_var (i := 2)))))) (gb_one (gs_raise T.x_BadNumber (hr.mono (by decide)) rfl tk (gs_cons (ga_var (i := 0)) gs_nil))) gb_nil))⟩

theorem tm__law_shuffle (T : Tx K mg P w base) (h__law_take : Fn0 P w K mg base "_law_take" 2 sp__law_take) {fd : FuncData} {ad : Addr} (F : FunD K "_law_shuffle" "_law_shuffle" (defArgs st__law_shuffle) (defBody st__law_shuffle) (defScope st__law_shuffle) [] [] ad fd)
    (len : ∀ ds A q e, sp__law_shuffle ds A q e → ds.length = 2) (pure : ∀ ds A q x, sp__law_shuffle ds A q x → (as__law_shuffle) (endsA q x) (startA ["store", "items", "rest", "found", "k"] ds) A) : FnA P w K mg base 3 ad fd ["store", "items"] sp__law_shuffle := by
  refine fnA_of F sc__law_shuffle len (fun cdv A outer s H E hr tk hp => ?_) pure
  have hu := hr.units
  exact ⟨_, (gb_cons (gs_set (i := 2) sc__law_shuffle.nd (ga_bty ba_list T.f_list (gs_cons (ga_var (i := 1)) gs_nil)))
    (gb_cons (gs_set (i := 3) sc__law_shuffle.nd (ga_lst gs_nil))
    (gb_cons (gs_for hp rfl (gi_rng1 (gs_cons (ga_blt ba_len T.f_len (gs_cons (ga_var (i := 1)) gs_nil)) gs_nil) T.f_range) (gg_name (i := 4) sc__law_shuffle.nd) (gb_one (gs_expr (ga_mL ml_append (ga_var (i := 3)) (gs_cons (ga_mL ml_pop (ga_var (i := 2)) (gs_cons (ga_call h__law_take (hr.mono (by decide)) tk (gs_cons (ga_var (i := 0)) (gs_cons (ga_blt ba_len T.f_len (gs_cons (ga_var (i := 2)) gs_nil)) gs_nil))) gs_nil)) gs_nil)))))
    (gb_one (gs_ret (ga_var (i := 3)))))))⟩

theorem tm__law_outside (T : Tx K mg P w base) (h__law_take : Fn0 P w K mg base "_law_take" 2 sp__law_take) {fd : FuncData} {ad : Addr} (F : FunD K "_law_outside" "_law_outside" (defArgs st__law_outside) (defBody st__law_outside) (defScope st__law_outside) [] [] ad fd)
    (len : ∀ ds A q e, sp__law_outside ds A q e → ds.length = 1) (pure : ∀ ds A q x, sp__law_outside ds A q x → (as__law_outside) (endsA q x) (startA ["store", "way", "far"] ds) A) : FnA P w K mg base 3 ad fd ["store"] sp__law_outside := by
  refine fnA_of F sc__law_outside len (fun cdv A outer s H E hr tk hp => ?_) pure
  have hu := hr.units
  exact ⟨_, (gb_cons (gs_set (i := 1) sc__law_outside.nd (ga_call h__law_take (hr.mono (by decide)) tk (gs_cons (ga_var (i := 0)) (gs_cons ga_int gs_nil))))
    (gb_cons (gs_if (gt_cmp ca_lt (ga_var (i := 1)) ga_int) (gb_one (gs_ret (ga_mul ga_int (ga_var (i := 1))))) gb_nil)
    (gb_cons (gs_set (i := 2) sc__law_outside.nd (ga_add (ga_ix (ga_lst (gs_cons ga_int (gs_cons ga_int (gs_cons (ga_pow ga_int ga_int) (gs_cons (ga_pow ga_int ga_int) gs_nil))))) (ga_call h__law_take (hr.mono (by decide)) tk (gs_cons (ga_var (i := 0)) (gs_cons ga_int gs_nil)))) (ga_call h__law_take (hr.mono (by decide)) tk (gs_cons (ga_var (i := 0)) (gs_cons ga_int gs_nil)))))
    (gb_one (gs_ret (ga_ix (ga_lst (gs_cons (ga_var (i := 2)) (gs_cons (ga_neg (ga_var (i := 2))) (gs_cons (ga_add ga_int (ga_call h__law_take (hr.mono (by decide)) tk (gs_cons (ga_var (i := 0)) (gs_cons ga_int gs_nil)))) (gs_cons (ga_sub (ga_neg ga_int) (ga_call h__law_take (hr.mono (by decide)) tk (gs_cons (ga_var (i := 0)) (gs_cons ga_int gs_nil)))) gs_nil))))) (ga_sub (ga_var (i := 1)) ga_int)))))))⟩

theorem tm_frame_count (T : Tx K mg P w base) (h_check_number : Fn0 P w K mg base "check_number" 3 sp_check_number) (h_frames_over : Fn0 P w K mg base "frames_over" 2 sp_frames_over) {fd : FuncData} {ad : Addr} (F : FunD K "frame_count" "frame_count" (defArgs st_frame_count) (defBody st_frame_count) (defScope st_frame_count) [] [] ad fd)
    (len : ∀ ds A q e, sp_frame_count ds A q e → ds.length = 1) (pure : ∀ ds A q x, sp_frame_count ds A q x → (as_frame_count) (endsA q x) (startA ["number"] ds) A) : FnA P w K mg base 4 ad fd ["number"] sp_frame_count := by
  refine fnA_of F sc_frame_count len (fun cdv A outer s H E hr tk hp => ?_) pure
  have hu := hr.units
  exact ⟨_, (gb_cons (gs_expr (ga_call h_check_number (hr.mono (by decide)) tk (gs_cons (ga_var (i := 0)) (gs_cons ga_int (gs_cons (ga_globI T.c_MOST) gs_nil)))))
    (gb_one (gs_ret (ga_call h_frames_over (hr.mono (by decide)) tk (gs_cons (ga_var (i := 0)) gs_nil)))))⟩

theorem tm_short_count (T : Tx K mg P w base) (h_check_number : Fn0 P w K mg base "check_number" 3 sp_check_number) (h_factorial_of : Fn0 P w K mg base "factorial_of" 1 sp_factorial_of) (h_frames_over : Fn0 P w K mg base "frames_over" 2 sp_frames_over) {fd : FuncData} {ad : Addr} (F : FunD K "short_count" "short_count" (defArgs st_short_count) (defBody st_short_count) (defScope st_short_count) [] [] ad fd)
    (len : ∀ ds A q e, sp_short_count ds A q e → ds.length = 1) (pure : ∀ ds A q x, sp_short_count ds A q x → (as_short_count) (endsA q x) (startA ["number"] ds) A) : FnA P w K mg base 4 ad fd ["number"] sp_short_count := by
  refine fnA_of F sc_short_count len (fun cdv A outer s H E hr tk hp => ?_) pure
  have hu := hr.units
  exact ⟨_, (gb_cons (gs_expr (ga_call h_check_number (hr.mono (by decide)) tk (gs_cons (ga_var (i := 0)) (gs_cons ga_int (gs_cons (ga_globI T.c_MOST) gs_nil)))))
    (gb_one (gs_ret (ga_mul (ga_call h_factorial_of (hr.mono (by decide)) tk (gs_cons (ga_var (i := 0)) gs_nil)) (ga_call h_frames_over (hr.mono (by decide)) tk (gs_cons (ga_var (i := 0)) gs_nil))))))⟩

theorem tm__law_tried (T : Tx K mg P w base) (h_frame_count : Fn0 P w K mg base "frame_count" 4 sp_frame_count) (h_short_count : Fn0 P w K mg base "short_count" 4 sp_short_count) (hh__law_error : FnH0 P w K mg base excs "_law_error" 1 hsp__law_error) {fd : FuncData} {ad : Addr} (F : FunD K "_law_tried" "_law_tried" (defArgs st__law_tried) (defBody st__law_tried) (defScope st__law_tried) [] [] ad fd)
    (len : ∀ ds A q e, sp__law_tried ds A q e → ds.length = 2) (pure : ∀ ds A q x, sp__law_tried ds A q x → (as__law_tried) (endsA q x) (startA ["which", "number", "e"] ds) A) : FnA P w K mg base 5 ad fd ["which", "number"] sp__law_tried := by
  refine fnA_of F sc__law_tried len (fun cdv A outer s H E hr tk hp => ?_) pure
  have hu := hr.units
  exact ⟨_, (gb_one (gs_try (i := 2) (names := excs) rfl rfl sc__law_tried.nd rfl rfl ⟨rfl, by decide, .inl T.n_GrantError⟩ T.exm takesF (fun W pn xe tk hp => (gb_cons (gs_if (gt_cmp (ca_eq hu) (ga_var (i := 0)) ga_int) (gb_one (gs_ret (ga_tup (gs_cons ga_str (gs_cons (ga_call h_frame_count (hr.mono (by decide)) tk (gs_cons (ga_var (i := 1)) gs_nil)) gs_nil))))) gb_nil)
    (gb_one (gs_ret (ga_tup (gs_cons ga_str (gs_cons (ga_call h_short_count (hr.mono (by decide)) tk (gs_cons (ga_var (i := 1)) gs_nil)) gs_nil))))))) (fun a oe ε pn hcl hz hf => (gb_one (gs_ret (gh_call hh__law_error hcl (L2H.roomH_mark hr _) (by decide) (hot_suite hz hf) List.mem_cons_self hz hf takesF (gs_cons (ga_var (i := 2)) gs_nil)))))))⟩

theorem tm__law_countsright (T : Tx K mg P w base) (h__law_equal : Fn0 P w K mg base "_law_equal" 1 sp__law_equal) (h__law_tried : Fn0 P w K mg base "_law_tried" 5 sp__law_tried) {fd : FuncData} {ad : Addr} (F : FunD K "_law_countsright" "_law_countsright" (defArgs st__law_countsright) (defBody st__law_countsright) (defScope st__law_countsright) [] [] ad fd)
    (len : ∀ ds A q e, sp__law_countsright ds A q e → ds.length = 3) (pure : ∀ ds A q x, sp__law_countsright ds A q x → (as__law_countsright) (endsA q x) (startA ["number", "frames", "which", "orders", "k", "due"] ds) A) : FnA P w K mg base 6 ad fd ["number", "frames", "which"] sp__law_countsright := by
  refine fnA_of F sc__law_countsright len (fun cdv A outer s H E hr tk hp => ?_) pure
  have hu := hr.units
  exact ⟨_, (gb_cons (gs_set (i := 3) sc__law_countsright.nd ga_int)
    (gb_cons (gs_for hp rfl (gi_rng1 (gs_cons (ga_var (i := 0)) gs_nil) T.f_range) (gg_name (i := 4) sc__law_countsright.nd) (gb_one (gs_set (i := 3) sc__law_countsright.nd (ga_mul (ga_var (i := 3)) (ga_add (ga_var (i := 4)) ga_int)))))
    (gb_cons (gs_set (i := 5) sc__law_countsright.nd (ga_lst (gs_cons (ga_tup (gs_cons ga_str (gs_cons (ga_ix (ga_var (i := 1)) (ga_var (i := 0))) gs_nil))) (gs_cons (ga_tup (gs_cons ga_str (gs_cons (ga_mul (ga_ix (ga_var (i := 1)) (ga_var (i := 0))) (ga_var (i := 3))) gs_nil))) gs_nil))))
    (gb_cons (gs_if (gt_not (gt_val (ga_call h__law_equal (hr.mono (by decide)) tk (gs_cons (ga_call h__law_tried (hr.mono (by decide)) tk (gs_cons (ga_var (i := 2)) (gs_cons (ga_var (i := 0)) gs_nil))) (gs_cons (ga_ix (ga_var (i := 5)) (ga_var (i := 2))) gs_nil))))) (gb_one (gs_ret ga_bl)) gb_nil)
    (gb_one (gs_ret (ga_call h__law_equal (hr.mono (by decide)) tk (gs_cons (ga_call h__law_tried (hr.mono (by decide)) tk (gs_cons (ga_sub ga_int (ga_var (i := 2))) (gs_cons (ga_var (i := 0)) gs_nil))) (gs_cons (ga_ix (ga_var (i := 5)) (ga_sub ga_int (ga_var (i := 2)))) gs_nil)))))))))⟩

theorem tm_law (T : Tx K mg P w base) (h__law_store : Fn0 P w K mg base "_law_store" 2 sp__law_store) (h__law_frames : Fn0 P w K mg base "_law_frames" 2 sp__law_frames) (h__law_shuffle : Fn0 P w K mg base "_law_shuffle" 3 sp__law_shuffle) (h__law_countsright : Fn0 P w K mg base "_law_countsright" 6 sp__law_countsright) (h__law_take : Fn0 P w K mg base "_law_take" 2 sp__law_take) (h__law_outside : Fn0 P w K mg base "_law_outside" 3 sp__law_outside) (h__law_equal : Fn0 P w K mg base "_law_equal" 1 sp__law_equal) (h__law_tried : Fn0 P w K mg base "_law_tried" 5 sp__law_tried) {fd : FuncData} {ad : Addr} (F : FunD K "law" "law" (defArgs st_law) (defBody st_law) (defScope st_law) [] [] ad fd)
    (len : ∀ ds A q e, sp_law ds A q e → ds.length = 1) (pure : ∀ ds A q x, sp_law ds A q x → (as_law) (endsA q x) (startA ["script", "store", "frames", "number", "far", "which"] ds) A) : FnA P w K mg base 7 ad fd ["script"] sp_law := by
  refine fnA_of F sc_law len (fun cdv A outer s H E hr tk hp => ?_) pure
  have hu := hr.units
  exact ⟨_, (gb_cons (gs_set (i := 1) sc_law.nd (ga_call h__law_store (hr.mono (by decide)) tk (gs_cons (ga_var (i := 0)) gs_nil)))
    (gb_cons (gs_set (i := 2) sc_law.nd (ga_call0 h__law_frames (hr.mono (by decide)) tk))
    (gb_cons (gs_for hp rfl (gi_seq (ga_call h__law_shuffle (hr.mono (by decide)) tk (gs_cons (ga_var (i := 1)) (gs_cons (ga_lrng2 rfl ga_int ga_int T.f_range T.f_list) gs_nil)))) (gg_name (i := 3) sc_law.nd) (gb_cons (gs_if (gt_not (gt_val (ga_call h__law_countsright (hr.mono (by decide)) tk (gs_cons (ga_var (i := 3)) (gs_cons (ga_var (i := 2)) (gs_cons (ga_call h__law_take (hr.mono (by decide)) tk (gs_cons (ga_var (i := 1)) (gs_cons ga_int gs_nil))) gs_nil)))))) (gb_one (gs_ret ga_bl)) gb_nil)
    (gb_one (gs_if (gt_cmp (ca_eq hu) (ga_call h__law_take (hr.mono (by decide)) tk (gs_cons (ga_var (i := 1)) (gs_cons ga_int gs_nil))) ga_int) (gb_cons (gs_set (i := 4) sc_law.nd (ga_call h__law_outside (hr.mono (by decide)) tk (gs_cons (ga_var (i := 1)) gs_nil)))
    (gb_cons (gs_set (i := 5) sc_law.nd (ga_call h__law_take (hr.mono (by decide)) tk (gs_cons (ga_var (i := 1)) (gs_cons ga_int gs_nil))))
    (gb_one (gs_if (gt_not (gt_val (ga_call h__law_equal (hr.mono (by decide)) tk (gs_cons (ga_call h__law_tried (hr.mono (by decide)) tk (gs_cons (ga_var (i := 5)) (gs_cons (ga_var (i := 4)) gs_nil))) (gs_cons (ga_tup (gs_cons ga_str (gs_cons (ga_tup (gs_cons (ga_var (i := 4)) gs_nil)) gs_nil))) gs_nil))))) (gb_one (gs_ret ga_bl)) gb_nil)))) gb_nil))))
    (gb_cons (gs_for hp rfl (gi_seq (ga_lst (gs_cons ga_int (gs_cons ga_int (gs_cons (ga_call h__law_outside (hr.mono (by decide)) tk (gs_cons (ga_var (i := 1)) gs_nil)) gs_nil))))) (gg_name (i := 4) sc_law.nd) (gb_one (gs_for hp rfl (gi_rng1 (gs_cons ga_int gs_nil) T.f_range) (gg_name (i := 5) sc_law.nd) (gb_one (gs_if (gt_not (gt_val (ga_call h__law_equal (hr.mono (by decide)) tk (gs_cons (ga_call h__law_tried (hr.mono (by decide)) tk (gs_cons (ga_var (i := 5)) (gs_cons (ga_var (i := 4)) gs_nil))) (gs_cons (ga_tup (gs_cons ga_str (gs_cons (ga_tup (gs_cons (ga_var (i := 4)) gs_nil)) gs_nil))) gs_nil))))) (gb_one (gs_ret ga_bl)) gb_nil)))))
    (gb_one (gs_ret (ga_call h__law_countsright (hr.mono (by decide)) tk (gs_cons (ga_add ga_int (ga_call h__law_take (hr.mono (by decide)) tk (gs_cons (ga_var (i := 1)) (gs_cons ga_int gs_nil)))) (gs_cons (ga_var (i := 2)) (gs_cons ga_int gs_nil))))))))))⟩


end
def clsB (st : Stmt) : List Stmt := match st with
  | .ClassDef _ _ _ b _ _ _ _ _ _ _ => b
  | _ => []
abbrev in_BadNumber : Stmt := (clsB (top 12)).getD 0 (.Pass ⟨0, 0, 0, 0⟩)
def fx : List Fx := [.free "ValueError",
  .free "abs",
  .free "bool",
  .free "dict",
  .free "int",
  .free "isinstance",
  .free "len",
  .free "list",
  .free "range",
  .free "str",
  .free "sum",
  .free "tuple",
  .int "MOST" 12,
  .glo "GrantError",
  .glo "BadName",
  .glo "BadKind",
  .glo "BadTree",
  .glo "NoSubtree",
  .glo "Twice",
  .glo "TooMany",
  .glo "BadText",
  .glo "BadLot",
  .glo "NoSuchLine",
  .glo "BadLog",
  .glo "Mismatch",
  .glo "BadMove",
  .glo "BadTable",
  .glo "NoTree",
  .glo "BadMatrix",
  .glo "NoGrant",
  .glo "BadMachine",
  .glo "BadWish",
  .glo "NoCover",
  .glo "Barred",
  .glo "LastLine",
  .glo "NoEdit",
  .exc "BadNumber",
  .ini "BadNumber",
  .noat "BadNumber" "number",
  .exm "BadNumber" "GrantError",
  .kit "BadNumber" "GrantError" true,
  .kit "BadNumber" "BadName" false,
  .kit "BadNumber" "BadKind" false,
  .kit "BadNumber" "BadTree" false,
  .kit "BadNumber" "NoSubtree" false,
  .kit "BadNumber" "Twice" false,
  .kit "BadNumber" "TooMany" false,
  .kit "BadNumber" "BadText" false,
  .kit "BadNumber" "BadLot" false,
  .kit "BadNumber" "NoSuchLine" false,
  .kit "BadNumber" "BadLog" false,
  .kit "BadNumber" "BadNumber" true,
  .kit "BadNumber" "Mismatch" false,
  .kit "BadNumber" "BadMove" false,
  .kit "BadNumber" "BadTable" false,
  .kit "BadNumber" "NoTree" false,
  .kit "BadNumber" "BadMatrix" false,
  .kit "BadNumber" "NoGrant" false,
  .kit "BadNumber" "BadMachine" false,
  .kit "BadNumber" "BadWish" false,
  .kit "BadNumber" "NoCover" false,
  .kit "BadNumber" "Barred" false,
  .kit "BadNumber" "LastLine" false,
  .kit "BadNumber" "NoEdit" false,
  .kitT "BadNumber" "ValueError" true,
  .glo "factorial_of",
  .glo "frame_tables",
  .glo "_law_mix",
  .glo "_law_equal",
  .glo "_law_error",
  .glo "_law_sequences",
  .glo "frames_over",
  .glo "_law_store",
  .glo "_law_take",
  .glo "_law_frames",
  .glo "check_number",
  .glo "_law_shuffle",
  .glo "_law_outside",
  .glo "frame_count",
  .glo "short_count",
  .glo "_law_tried",
  .glo "_law_countsright",
  .glo "law"]
def fn : List He.DefD := [⟨("factorial_of", none), "factorial_of", "factorial_of", defArgs st_factorial_of, defBody st_factorial_of, defScope st_factorial_of, [], []⟩,
  ⟨("frame_tables", none), "frame_tables", "frame_tables", defArgs st_frame_tables, defBody st_frame_tables, defScope st_frame_tables, [], []⟩,
  ⟨("_law_mix", none), "_law_mix", "_law_mix", defArgs st__law_mix, defBody st__law_mix, defScope st__law_mix, [], []⟩,
  ⟨("_law_equal", none), "_law_equal", "_law_equal", defArgs st__law_equal, defBody st__law_equal, defScope st__law_equal, [], []⟩,
  ⟨("_law_error", none), "_law_error", "_law_error", defArgs st__law_error, defBody st__law_error, defScope st__law_error, [], []⟩,
  ⟨("_law_sequences", none), "_law_sequences", "_law_sequences", defArgs st__law_sequences, defBody st__law_sequences, defScope st__law_sequences, [], []⟩,
  ⟨("frames_over", none), "frames_over", "frames_over", defArgs st_frames_over, defBody st_frames_over, defScope st_frames_over, [], []⟩,
  ⟨("_law_store", none), "_law_store", "_law_store", defArgs st__law_store, defBody st__law_store, defScope st__law_store, [], []⟩,
  ⟨("_law_take", none), "_law_take", "_law_take", defArgs st__law_take, defBody st__law_take, defScope st__law_take, [], []⟩,
  ⟨("_law_frames", none), "_law_frames", "_law_frames", defArgs st__law_frames, defBody st__law_frames, defScope st__law_frames, [], []⟩,
  ⟨("check_number", none), "check_number", "check_number", defArgs st_check_number, defBody st_check_number, defScope st_check_number, [], []⟩,
  ⟨("_law_shuffle", none), "_law_shuffle", "_law_shuffle", defArgs st__law_shuffle, defBody st__law_shuffle, defScope st__law_shuffle, [], []⟩,
  ⟨("_law_outside", none), "_law_outside", "_law_outside", defArgs st__law_outside, defBody st__law_outside, defScope st__law_outside, [], []⟩,
  ⟨("frame_count", none), "frame_count", "frame_count", defArgs st_frame_count, defBody st_frame_count, defScope st_frame_count, [], []⟩,
  ⟨("short_count", none), "short_count", "short_count", defArgs st_short_count, defBody st_short_count, defScope st_short_count, [], []⟩,
  ⟨("_law_tried", none), "_law_tried", "_law_tried", defArgs st__law_tried, defBody st__law_tried, defScope st__law_tried, [], []⟩,
  ⟨("_law_countsright", none), "_law_countsright", "_law_countsright", defArgs st__law_countsright, defBody st__law_countsright, defScope st__law_countsright, [], []⟩,
  ⟨("law", none), "law", "law", defArgs st_law, defBody st_law, defScope st_law, [], []⟩,
  ⟨("BadNumber", some "__init__"), "__init__", "BadNumber.__init__", defArgs in_BadNumber, defBody in_BadNumber, defScope in_BadNumber, [], []⟩]
abbrev R : PySem.W.OpenRow := PySem.W.OpenLaw.row PySem.Challenge.rw_grantedbyturns_k21_counts_of_frames
abbrev hk : PySem.W.Hook := hookX 4 fx fn
def ob (s : PySem.W.SharedT) : AlX := obsXG 4 fx fn (HandSHeadRun.getT s)
theorem ob_eq (s : PySem.W.SharedT) : ob s = hk.obs s.abs := obsXG_eq (HandSHeadRun.getT_eq s)
def loose0 : List PySem.Str := ["GrantError", "BadName", "BadKind", "BadTree", "NoSubtree", "Twice", "TooMany", "BadText", "BadLot", "NoSuchLine", "BadLog", "BadNumber", "Mismatch", "BadMove", "BadTable", "NoTree", "BadMatrix", "NoGrant", "BadMachine", "BadWish", "NoCover", "Barred", "LastLine", "NoEdit", "MOST", "factorial_of", "check_number", "frame_tables", "frames_over", "frame_count"]
def loose1 : List PySem.Str := ["short_count", "_law_mix", "_law_store", "_law_take", "_law_shuffle", "_law_equal", "_law_error", "_law_sequences", "_law_frames", "_law_tried", "_law_countsright", "_law_outside"]
def loose : List PySem.Str := loose0 ++ loose1
theorem run (w : World) : HandSHeadRun.RunEq R (PySem.W.view R.prog [45]) hk ob 12000 loose w := by
  intro os
  kernel_rfl
section
variable {P : Program} {w : World} {K : Fg} {h : Heap} {mg : Str → Option Value} {base : Heap}
theorem sci_BadNumber : FnScope ["self", "number"] ["self", "number"] (defScope in_BadNumber) := ⟨rfl, rfl, rfl, by decide +kernel, rfl, by decide +kernel, by decide +kernel⟩
theorem exc_BadNumber (X : K.In h) (G : h.Ns mainGlobals mg) (c : SaysX fx fn K) : ExcT0 P w K mg base "BadNumber" ["number"] := by
  obtain ⟨fd, F⟩ := c.def_ 18 rfl
  have F : FunD K "__init__" "BadNumber.__init__" (defArgs in_BadNumber) (defBody in_BadNumber) (defScope in_BadNumber) [] [] (He.fAd K ("BadNumber", some "__init__")) fd := F
  have e := exc_mg X G (x := "BadNumber") (c.fact 36 rfl)
  have i := ini_ok (x := "BadNumber") (c.fact 37 rfl)
  exact ⟨by decide, e.1, e.2.oc, _, fd, ["self", "number"], i.1, i.2, ok_init1 F sci_BadNumber e.2.oc (noat_ok (c.fact 38 rfl)) rfl rfl (by decide) (by decide), F.bindsN (ps := ["self", "number"]) fun _ _ _ _ _ _ us hl => match us, hl with | [_, _], _ => rfl⟩
theorem mkTx (X : K.In h) (G : h.Ns mainGlobals mg) (c : SaysX fx fn K) : Tx K mg P w base where
  f_ValueError := free_mg X G (c.fact 0 rfl)
  f_abs := free_mg X G (c.fact 1 rfl)
  f_bool := free_mg X G (c.fact 2 rfl)
  f_dict := free_mg X G (c.fact 3 rfl)
  f_int := free_mg X G (c.fact 4 rfl)
  f_isinstance := free_mg X G (c.fact 5 rfl)
  f_len := free_mg X G (c.fact 6 rfl)
  f_list := free_mg X G (c.fact 7 rfl)
  f_range := free_mg X G (c.fact 8 rfl)
  f_str := free_mg X G (c.fact 9 rfl)
  f_sum := free_mg X G (c.fact 10 rfl)
  f_tuple := free_mg X G (c.fact 11 rfl)
  c_MOST := int_mg X G (c.fact 12 rfl)
  n_GrantError := glo_mg X G (c.fact 13 rfl)
  n_BadName := glo_mg X G (c.fact 14 rfl)
  n_BadKind := glo_mg X G (c.fact 15 rfl)
  n_BadTree := glo_mg X G (c.fact 16 rfl)
  n_NoSubtree := glo_mg X G (c.fact 17 rfl)
  n_Twice := glo_mg X G (c.fact 18 rfl)
  n_TooMany := glo_mg X G (c.fact 19 rfl)
  n_BadText := glo_mg X G (c.fact 20 rfl)
  n_BadLot := glo_mg X G (c.fact 21 rfl)
  n_NoSuchLine := glo_mg X G (c.fact 22 rfl)
  n_BadLog := glo_mg X G (c.fact 23 rfl)
  n_BadNumber := (exc_mg X G (c.fact 36 rfl)).1
  n_Mismatch := glo_mg X G (c.fact 24 rfl)
  n_BadMove := glo_mg X G (c.fact 25 rfl)
  n_BadTable := glo_mg X G (c.fact 26 rfl)
  n_NoTree := glo_mg X G (c.fact 27 rfl)
  n_BadMatrix := glo_mg X G (c.fact 28 rfl)
  n_NoGrant := glo_mg X G (c.fact 29 rfl)
  n_BadMachine := glo_mg X G (c.fact 30 rfl)
  n_BadWish := glo_mg X G (c.fact 31 rfl)
  n_NoCover := glo_mg X G (c.fact 32 rfl)
  n_Barred := glo_mg X G (c.fact 33 rfl)
  n_LastLine := glo_mg X G (c.fact 34 rfl)
  n_NoEdit := glo_mg X G (c.fact 35 rfl)
  x_BadNumber := exc_BadNumber X G c
  exm := by
    intro m hm
    simp only [excs, List.mem_cons, List.not_mem_nil, or_false] at hm
    subst hm
    exact exm_ok (c.fact 39 rfl)
  ec := by
    intro m hm
    simp only [excs, List.mem_cons, List.not_mem_nil, or_false] at hm
    subst hm
    exact (exc_mg X G (x := "BadNumber") (c.fact 36 rfl)).2.ec
  na_number := by
    intro m hm
    simp only [excs, List.mem_cons, List.not_mem_nil, or_false] at hm
    subst hm
    exact noat_ok (c.fact 38 rfl)
  kit := by
    intro m hm n hn
    simp only [excs, List.mem_cons, List.not_mem_nil, or_false] at hm
    subst hm
    simp only [kits, List.mem_cons, List.not_mem_nil, or_false] at hn
    rcases hn with rfl | rfl | rfl | rfl | rfl | rfl | rfl | rfl | rfl | rfl | rfl | rfl | rfl | rfl | rfl | rfl | rfl | rfl | rfl | rfl | rfl | rfl | rfl | rfl
    · skip
      exact kit_ok (c.fact 40 rfl)
    · skip
      exact kit_ok (c.fact 41 rfl)
    · skip
      exact kit_ok (c.fact 42 rfl)
    · skip
      exact kit_ok (c.fact 43 rfl)
    · skip
      exact kit_ok (c.fact 44 rfl)
    · skip
      exact kit_ok (c.fact 45 rfl)
    · skip
      exact kit_ok (c.fact 46 rfl)
    · skip
      exact kit_ok (c.fact 47 rfl)
    · skip
      exact kit_ok (c.fact 48 rfl)
    · skip
      exact kit_ok (c.fact 49 rfl)
    · skip
      exact kit_ok (c.fact 50 rfl)
    · skip
      exact kit_ok (c.fact 51 rfl)
    · skip
      exact kit_ok (c.fact 52 rfl)
    · skip
      exact kit_ok (c.fact 53 rfl)
    · skip
      exact kit_ok (c.fact 54 rfl)
    · skip
      exact kit_ok (c.fact 55 rfl)
    · skip
      exact kit_ok (c.fact 56 rfl)
    · skip
      exact kit_ok (c.fact 57 rfl)
    · skip
      exact kit_ok (c.fact 58 rfl)
    · skip
      exact kit_ok (c.fact 59 rfl)
    · skip
      exact kit_ok (c.fact 60 rfl)
    · skip
      exact kit_ok (c.fact 61 rfl)
    · skip
      exact kit_ok (c.fact 62 rfl)
    · skip
      exact kit_ok (c.fact 63 rfl)
  kitV := by
    intro m hm
    simp only [excs, List.mem_cons, List.not_mem_nil, or_false] at hm
    subst hm
    exact kitT_ok (c.fact 64 rfl)
theorem facts {f : Addr} (X : K.In h) (G : h.Ns mainGlobals mg) (hfa : mg ("law" : Str) = some (.ref f)) (c : SaysX fx fn K) :
    ∃ fd : FuncData, (∀ (s : Shared) (v : Value), BindsTo s fd ⟨[v], []⟩ [("script", v)]) ∧ ∀ base : Heap, K.In base → base.Ns mainGlobals mg → FnOk P w K mg base (L2N.CX P w) 7 f fd ["script"] (lift K sp_law) := by
  obtain ⟨d_factorial_of, F_factorial_of⟩ := c.def_ 0 rfl
  have F_factorial_of : FunD K "factorial_of" "factorial_of" (defArgs st_factorial_of) (defBody st_factorial_of) (defScope st_factorial_of) [] [] (He.ga K "factorial_of") d_factorial_of := F_factorial_of
  have B_factorial_of : Binds K d_factorial_of ["number"] [] := F_factorial_of.bindsN (ps := ["number"]) fun _ _ _ _ _ _ us hl => match us, hl with | [_], _ => rfl
  obtain ⟨d_frame_tables, F_frame_tables⟩ := c.def_ 1 rfl
  have F_frame_tables : FunD K "frame_tables" "frame_tables" (defArgs st_frame_tables) (defBody st_frame_tables) (defScope st_frame_tables) [] [] (He.ga K "frame_tables") d_frame_tables := F_frame_tables
  have B_frame_tables : Binds K d_frame_tables ["size"] [] := F_frame_tables.bindsN (ps := ["size"]) fun _ _ _ _ _ _ us hl => match us, hl with | [_], _ => rfl
  obtain ⟨d__law_mix, F__law_mix⟩ := c.def_ 2 rfl
  have F__law_mix : FunD K "_law_mix" "_law_mix" (defArgs st__law_mix) (defBody st__law_mix) (defScope st__law_mix) [] [] (He.ga K "_law_mix") d__law_mix := F__law_mix
  have B__law_mix : Binds K d__law_mix ["number"] [] := F__law_mix.bindsN (ps := ["number"]) fun _ _ _ _ _ _ us hl => match us, hl with | [_], _ => rfl
  obtain ⟨d__law_equal, F__law_equal⟩ := c.def_ 3 rfl
  have F__law_equal : FunD K "_law_equal" "_law_equal" (defArgs st__law_equal) (defBody st__law_equal) (defScope st__law_equal) [] [] (He.ga K "_law_equal") d__law_equal := F__law_equal
  have B__law_equal : Binds K d__law_equal ["got", "due"] [] := F__law_equal.bindsN (ps := ["got", "due"]) fun _ _ _ _ _ _ us hl => match us, hl with | [_, _], _ => rfl
  obtain ⟨d__law_error, F__law_error⟩ := c.def_ 4 rfl
  have F__law_error : FunD K "_law_error" "_law_error" (defArgs st__law_error) (defBody st__law_error) (defScope st__law_error) [] [] (He.ga K "_law_error") d__law_error := F__law_error
  have B__law_error : Binds K d__law_error ["e"] [] := F__law_error.bindsN (ps := ["e"]) fun _ _ _ _ _ _ us hl => match us, hl with | [_], _ => rfl
  obtain ⟨d__law_sequences, F__law_sequences⟩ := c.def_ 5 rfl
  have F__law_sequences : FunD K "_law_sequences" "_law_sequences" (defArgs st__law_sequences) (defBody st__law_sequences) (defScope st__law_sequences) [] [] (He.ga K "_law_sequences") d__law_sequences := F__law_sequences
  have B__law_sequences : Binds K d__law_sequences ["ones", "most"] [] := F__law_sequences.bindsN (ps := ["ones", "most"]) fun _ _ _ _ _ _ us hl => match us, hl with | [_, _], _ => rfl
  obtain ⟨d_frames_over, F_frames_over⟩ := c.def_ 6 rfl
  have F_frames_over : FunD K "frames_over" "frames_over" (defArgs st_frames_over) (defBody st_frames_over) (defScope st_frames_over) [] [] (He.ga K "frames_over") d_frames_over := F_frames_over
  have B_frames_over : Binds K d_frames_over ["number"] [] := F_frames_over.bindsN (ps := ["number"]) fun _ _ _ _ _ _ us hl => match us, hl with | [_], _ => rfl
  obtain ⟨d__law_store, F__law_store⟩ := c.def_ 7 rfl
  have F__law_store : FunD K "_law_store" "_law_store" (defArgs st__law_store) (defBody st__law_store) (defScope st__law_store) [] [] (He.ga K "_law_store") d__law_store := F__law_store
  have B__law_store : Binds K d__law_store ["script"] [] := F__law_store.bindsN (ps := ["script"]) fun _ _ _ _ _ _ us hl => match us, hl with | [_], _ => rfl
  obtain ⟨d__law_take, F__law_take⟩ := c.def_ 8 rfl
  have F__law_take : FunD K "_law_take" "_law_take" (defArgs st__law_take) (defBody st__law_take) (defScope st__law_take) [] [] (He.ga K "_law_take") d__law_take := F__law_take
  have B__law_take : Binds K d__law_take ["store", "many"] [] := F__law_take.bindsN (ps := ["store", "many"]) fun _ _ _ _ _ _ us hl => match us, hl with | [_, _], _ => rfl
  obtain ⟨d__law_frames, F__law_frames⟩ := c.def_ 9 rfl
  have F__law_frames : FunD K "_law_frames" "_law_frames" (defArgs st__law_frames) (defBody st__law_frames) (defScope st__law_frames) [] [] (He.ga K "_law_frames") d__law_frames := F__law_frames
  have B__law_frames : Binds K d__law_frames [] [] := F__law_frames.bindsN (ps := []) fun _ _ _ _ _ _ us hl => match us, hl with | [], _ => rfl
  obtain ⟨d_check_number, F_check_number⟩ := c.def_ 10 rfl
  have F_check_number : FunD K "check_number" "check_number" (defArgs st_check_number) (defBody st_check_number) (defScope st_check_number) [] [] (He.ga K "check_number") d_check_number := F_check_number
  have B_check_number : Binds K d_check_number ["number", "low", "high"] [] := F_check_number.bindsN (ps := ["number", "low", "high"]) fun _ _ _ _ _ _ us hl => match us, hl with | [_, _, _], _ => rfl
  obtain ⟨d__law_shuffle, F__law_shuffle⟩ := c.def_ 11 rfl
  have F__law_shuffle : FunD K "_law_shuffle" "_law_shuffle" (defArgs st__law_shuffle) (defBody st__law_shuffle) (defScope st__law_shuffle) [] [] (He.ga K "_law_shuffle") d__law_shuffle := F__law_shuffle
  have B__law_shuffle : Binds K d__law_shuffle ["store", "items"] [] := F__law_shuffle.bindsN (ps := ["store", "items"]) fun _ _ _ _ _ _ us hl => match us, hl with | [_, _], _ => rfl
  obtain ⟨d__law_outside, F__law_outside⟩ := c.def_ 12 rfl
  have F__law_outside : FunD K "_law_outside" "_law_outside" (defArgs st__law_outside) (defBody st__law_outside) (defScope st__law_outside) [] [] (He.ga K "_law_outside") d__law_outside := F__law_outside
  have B__law_outside : Binds K d__law_outside ["store"] [] := F__law_outside.bindsN (ps := ["store"]) fun _ _ _ _ _ _ us hl => match us, hl with | [_], _ => rfl
  obtain ⟨d_frame_count, F_frame_count⟩ := c.def_ 13 rfl
  have F_frame_count : FunD K "frame_count" "frame_count" (defArgs st_frame_count) (defBody st_frame_count) (defScope st_frame_count) [] [] (He.ga K "frame_count") d_frame_count := F_frame_count
  have B_frame_count : Binds K d_frame_count ["number"] [] := F_frame_count.bindsN (ps := ["number"]) fun _ _ _ _ _ _ us hl => match us, hl with | [_], _ => rfl
  obtain ⟨d_short_count, F_short_count⟩ := c.def_ 14 rfl
  have F_short_count : FunD K "short_count" "short_count" (defArgs st_short_count) (defBody st_short_count) (defScope st_short_count) [] [] (He.ga K "short_count") d_short_count := F_short_count
  have B_short_count : Binds K d_short_count ["number"] [] := F_short_count.bindsN (ps := ["number"]) fun _ _ _ _ _ _ us hl => match us, hl with | [_], _ => rfl
  obtain ⟨d__law_tried, F__law_tried⟩ := c.def_ 15 rfl
  have F__law_tried : FunD K "_law_tried" "_law_tried" (defArgs st__law_tried) (defBody st__law_tried) (defScope st__law_tried) [] [] (He.ga K "_law_tried") d__law_tried := F__law_tried
  have B__law_tried : Binds K d__law_tried ["which", "number"] [] := F__law_tried.bindsN (ps := ["which", "number"]) fun _ _ _ _ _ _ us hl => match us, hl with | [_, _], _ => rfl
  obtain ⟨d__law_countsright, F__law_countsright⟩ := c.def_ 16 rfl
  have F__law_countsright : FunD K "_law_countsright" "_law_countsright" (defArgs st__law_countsright) (defBody st__law_countsright) (defScope st__law_countsright) [] [] (He.ga K "_law_countsright") d__law_countsright := F__law_countsright
  have B__law_countsright : Binds K d__law_countsright ["number", "frames", "which"] [] := F__law_countsright.bindsN (ps := ["number", "frames", "which"]) fun _ _ _ _ _ _ us hl => match us, hl with | [_, _, _], _ => rfl
  obtain ⟨d_law, F_law⟩ := c.def_ 17 rfl
  have F_law : FunD K "law" "law" (defArgs st_law) (defBody st_law) (defScope st_law) [] [] (He.ga K "law") d_law := F_law
  have B_law : Binds K d_law ["script"] [] := F_law.bindsN (ps := ["script"]) fun _ _ _ _ _ _ us hl => match us, hl with | [_], _ => rfl
  have e := hfa.symm.trans (glo_mg X G (c.fact 82 rfl))
  cases e
  have b := FunD.bindsA (ps := ["script"]) F_law fun _ _ _ _ _ _ us hl => match us, hl with | [_], _ => rfl
  refine ⟨d_law, fun s v => b s [v] rfl, fun base _ _ => ?_⟩
  have T : Tx K mg P w base := mkTx X G c
  have h_factorial_of : Fn0 P w K mg base "factorial_of" 1 sp_factorial_of := ⟨⟨_, d_factorial_of, ["number"], tm_factorial_of T F_factorial_of len_factorial_of pure_factorial_of, glo_mg X G (c.fact 65 rfl), F_factorial_of.kp, B_factorial_of⟩⟩
  have h_frame_tables : Fn0 P w K mg base "frame_tables" 1 sp_frame_tables := ⟨⟨_, d_frame_tables, ["size"], tm_frame_tables T F_frame_tables len_frame_tables pure_frame_tables, glo_mg X G (c.fact 66 rfl), F_frame_tables.kp, B_frame_tables⟩⟩
  have h__law_mix : Fn0 P w K mg base "_law_mix" 1 sp__law_mix := ⟨⟨_, d__law_mix, ["number"], tm__law_mix T F__law_mix len__law_mix pure__law_mix, glo_mg X G (c.fact 67 rfl), F__law_mix.kp, B__law_mix⟩⟩
  have h__law_equal : Fn0 P w K mg base "_law_equal" 1 sp__law_equal := ⟨⟨_, d__law_equal, ["got", "due"], tm__law_equal T F__law_equal len__law_equal pure__law_equal, glo_mg X G (c.fact 68 rfl), F__law_equal.kp, B__law_equal⟩⟩
  have hh__law_error : FnH0 P w K mg base excs "_law_error" 1 hsp__law_error := ⟨⟨_, d__law_error, ["e"], htm__law_error T F__law_error lenh__law_error (pureh__law_error K T.kit T.kitV), glo_mg X G (c.fact 69 rfl), F__law_error.kp, B__law_error⟩⟩
  have h__law_sequences : Fn0 P w K mg base "_law_sequences" 1 sp__law_sequences := ⟨⟨_, d__law_sequences, ["ones", "most"], tm__law_sequences T F__law_sequences len__law_sequences pure__law_sequences, glo_mg X G (c.fact 70 rfl), F__law_sequences.kp, B__law_sequences⟩⟩
  have h_frames_over : Fn0 P w K mg base "frames_over" 2 sp_frames_over := ⟨⟨_, d_frames_over, ["number"], tm_frames_over T h_frame_tables F_frames_over len_frames_over pure_frames_over, glo_mg X G (c.fact 71 rfl), F_frames_over.kp, B_frames_over⟩⟩
  have h__law_store : Fn0 P w K mg base "_law_store" 2 sp__law_store := ⟨⟨_, d__law_store, ["script"], tm__law_store T h__law_mix F__law_store len__law_store pure__law_store, glo_mg X G (c.fact 72 rfl), F__law_store.kp, B__law_store⟩⟩
  have h__law_take : Fn0 P w K mg base "_law_take" 2 sp__law_take := ⟨⟨_, d__law_take, ["store", "many"], tm__law_take T h__law_mix F__law_take len__law_take pure__law_take, glo_mg X G (c.fact 73 rfl), F__law_take.kp, B__law_take⟩⟩
  have h__law_frames : Fn0 P w K mg base "_law_frames" 2 sp__law_frames := ⟨⟨_, d__law_frames, [], tm__law_frames T h__law_sequences F__law_frames len__law_frames pure__law_frames, glo_mg X G (c.fact 74 rfl), F__law_frames.kp, B__law_frames⟩⟩
  have h_check_number : Fn0 P w K mg base "check_number" 3 sp_check_number := ⟨⟨_, d_check_number, ["number", "low", "high"], tm_check_number T F_check_number len_check_number pure_check_number, glo_mg X G (c.fact 75 rfl), F_check_number.kp, B_check_number⟩⟩
  have h__law_shuffle : Fn0 P w K mg base "_law_shuffle" 3 sp__law_shuffle := ⟨⟨_, d__law_shuffle, ["store", "items"], tm__law_shuffle T h__law_take F__law_shuffle len__law_shuffle pure__law_shuffle, glo_mg X G (c.fact 76 rfl), F__law_shuffle.kp, B__law_shuffle⟩⟩
  have h__law_outside : Fn0 P w K mg base "_law_outside" 3 sp__law_outside := ⟨⟨_, d__law_outside, ["store"], tm__law_outside T h__law_take F__law_outside len__law_outside pure__law_outside, glo_mg X G (c.fact 77 rfl), F__law_outside.kp, B__law_outside⟩⟩
  have h_frame_count : Fn0 P w K mg base "frame_count" 4 sp_frame_count := ⟨⟨_, d_frame_count, ["number"], tm_frame_count T h_check_number h_frames_over F_frame_count len_frame_count pure_frame_count, glo_mg X G (c.fact 78 rfl), F_frame_count.kp, B_frame_count⟩⟩
  have h_short_count : Fn0 P w K mg base "short_count" 4 sp_short_count := ⟨⟨_, d_short_count, ["number"], tm_short_count T h_check_number h_factorial_of h_frames_over F_short_count len_short_count pure_short_count, glo_mg X G (c.fact 79 rfl), F_short_count.kp, B_short_count⟩⟩
  have h__law_tried : Fn0 P w K mg base "_law_tried" 5 sp__law_tried := ⟨⟨_, d__law_tried, ["which", "number"], tm__law_tried T h_frame_count h_short_count hh__law_error F__law_tried len__law_tried pure__law_tried, glo_mg X G (c.fact 80 rfl), F__law_tried.kp, B__law_tried⟩⟩
  have h__law_countsright : Fn0 P w K mg base "_law_countsright" 6 sp__law_countsright := ⟨⟨_, d__law_countsright, ["number", "frames", "which"], tm__law_countsright T h__law_equal h__law_tried F__law_countsright len__law_countsright pure__law_countsright, glo_mg X G (c.fact 81 rfl), F__law_countsright.kp, B__law_countsright⟩⟩
  exact tm_law T h__law_store h__law_frames h__law_shuffle h__law_countsright h__law_take h__law_outside h__law_equal h__law_tried F_law len_law pure_law
end
end LW
open PySem PySem.W PySem.Calls PyProof.Rows
theorem PySem.Challenge.cw_grantedbyturns_k21_counts_of_frames_holds : PySem.Challenge.rw_grantedbyturns_k21_counts_of_frames.Holds := by
  w_on; o_law
  refine HandSHeadRun.head_any (r := OpenLaw.row PySem.Challenge.rw_grantedbyturns_k21_counts_of_frames) (q := view (OpenLaw.row PySem.Challenge.rw_grantedbyturns_k21_counts_of_frames).prog [45]) (H := LW.hk) (ob := LW.ob) (M := 12000) (loose := LW.loose) (d := HandSHeadRun.topDef (OpenLaw.row PySem.Challenge.rw_grantedbyturns_k21_counts_of_frames).prog 45) (kwd := []) LW.ob_eq
    (by kernel_rfl) (fun s => by kernel_rfl) LW.run (by kernel_rfl) (by kernel_rfl) (by kernel_rfl) (by rfl) (by first | assumption | decide +kernel) (by decide +kernel) ⟨rfl, rfl, rfl, rfl, rfl, by decide +kernel⟩ ?hw ?hc
  case hw => w_witness2
  case hc =>
    refine L2.walk_ofE (l := PySem.Challenge.rw_grantedbyturns_k21_counts_of_frames) (n := 63) (k := 7) (x := "script") (CX := GA.CXA (PySem.Challenge.rw_grantedbyturns_k21_counts_of_frames).prog) rfl (by decide) (by kernel_rfl) ⟨rfl, by decide, by decide⟩ ?F GA.cxa_no
    case F =>
      intro w mg fa h Y G hmg0
      obtain ⟨K, KX, c⟩ := Y
      have hmg : mg ("law" : PySem.Str) = some (.ref fa) := by
        have e : (HandSHeadRun.topDef (OpenLaw.row PySem.Challenge.rw_grantedbyturns_k21_counts_of_frames).prog 45).name = ("law" : PySem.Str) := by kernel_rfl
        rw [← e]
        exact hmg0
      obtain ⟨fd, hb, hF⟩ := LW.facts (P := (PySem.Challenge.rw_grantedbyturns_k21_counts_of_frames).prog) (w := w) KX G hmg c
      exact ⟨K, fd, GA.lift K LW.sp_law, KX, hb, fun H a ns hl ho hS => GA.lift_law ho hS (fun A => ⟨ns, rfl, fun _ => rfl⟩) fun _ => rfl, fun base b1 b2 => GA.fnOk_any (hF base b1 b2)⟩
