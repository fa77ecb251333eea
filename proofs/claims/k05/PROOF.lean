import PyProof.Rows.All
import Wide.All
import OpenK.AllK
import Wide.FinOn
import HandS.ForMost
import HandS.ExcInit
import HandS.ExcField
import HandS.ExcIs
import HandS.IsInst
import HandS.Wide
import HandS.NoneIn
import HandS.TupAny
import HandS.Defaults
import HandS.More
import PySem.Challenge.RW_modeholds_k05_refusals_made
import HandS.Head0
import HandS.Head1
import HandS.Head2
import HandS.HeadEnd
import HandS.HeadHook1
import HandS.HeadHook2
import HandS.HeadHook3
import HandS.HeadHook4
set_option Elab.async false
set_option linter.all false
set_option maxRecDepth 100000
set_option maxHeartbeats 0
/-! DatE: an own exception, made with its own __init__, as a value: its field, its classes. -/
namespace DatE
open PySem PySem.Spec PyProof.Rows L2
/-- at a: an exception of the class at C, its dict at d -/
def exw (a C d : Addr) : HO := .ext fun h => ∃ (oe : Obj) (vs : Array Value), h.get? a = some oe ∧ Zc (.ref C) (some d) oe ∧ oe.data = .fields vs
theorem exw_ok {P : Program} {w : World} {H : Hp} {h : Heap} {a C d : Addr} {oe : Obj} {vs : Array Value} (e : h.get? a = some oe) (z : Zc (.ref C) (some d) oe) (k : oe.data = .fields vs) : ObjOk P w H h a (exw a C d) :=
  ⟨⟨oe, vs, e, z, k⟩, ⟨oe, e⟩, fun _ _ ⟨o, v, q, r⟩ st => ⟨o, v, st o q, r⟩⟩
theorem exw_at {P : Program} {w : World} {H : Hp} {h : Heap} {a C d : Addr} (ok : HOk P w H h) (e : H a = some (exw a C d)) : ∃ (oe : Obj) (vs : Array Value), h.get? a = some oe ∧ Zc (.ref C) (some d) oe ∧ oe.data = .fields vs := (ok a _ e).1
/-- C(..) as a value, C's own __init__ keeping sp -/
def tMkV (C : Addr) (sp : Sp) (dvs : List V) (ta : TA) : TE := fun σ H Q => ta σ H fun vs H1 => vs.length ≤ 1000 ∧ ∀ a, H1 a = none →
  sp (.ref a :: (vs ++ dvs)) (upd H1 a (exo a C none))
    (fun v H2 => v = .non ∧ ∃ (d : Addr) (fs : List (Str × V)), H2 a = some (exo a C (some d)) ∧ H2 d = some (exd d fs) ∧ Q (.ref a) (upd (upd H2 d (.xd fs)) a (exw a C d))) fun _ _ _ => False
section
variable {X : Cx}
theorem mkv_end {pins : List (Addr × Obj)} {σ : L2.St} {H1 H2 : Hp} {hp hp2 h2 : Heap} {g1 g2 : Array GenState} {d1 d2 : Drawn} {t1 t2 : Nat} {os1 os2 : OsState} {a C d : Addr} {fs : List (Str × V)} (I1 : Inv X pins σ H1 ⟨hp, g1, d1, t1, os1⟩)
    (ha : hp.objs.size ≤ a) (k : ∀ b o, hp.get? b = some o → hp2.get? b = some o) (un : Un (frs X.stack) [] (upd H1 a (exo a C none)) H2 hp2 h2) (hok : HOk X.prog X.w H2 h2) (ho : os2 = os1) (hb : AllBare g2)
    (ea : H2 a = some (exo a C (some d))) (ed : H2 d = some (exd d fs)) : Inv X pins σ (upd (upd H2 d (.xd fs)) a (exw a C d)) ⟨h2, g2, d2, t2, os2⟩ := by
  obtain ⟨t0, hoe⟩ := exo_at hok ea
  obtain ⟨mA, hns, rel⟩ := exd_at hok ed
  have hn : H1 a = none := I1.hok.fresh ha
  have nha : ∀ {b : Addr} {o : Obj}, hp.get? b = some o → b ≠ a := fun {b o} z => Nat.ne_of_lt (Nat.lt_of_lt_of_le (Heap.lt_size z) ha)
  have hda : d ≠ a := fun z => by
    obtain ⟨o, es, ep, q1, q2, _⟩ := hns
    rw [z, hoe] at q1
    have z2 := Option.some.inj q1
    subst z2
    cases q2
  have lift : ∀ {b : Addr} {o : Obj}, hp.get? b = some o → H1 b = none → upd H1 a (exo a C none) b = none := fun {b o} z n => by rw [upd_ne (nha z), n]
  have nd : ∀ {b : Addr} {o : Obj}, hp.get? b = some o → H1 b = none → b ≠ d := fun {b o} z n e => by
    have y := un.free b o (k b o z) (lift z n) (by simp)
    rw [e, ed] at y
    cases y
  have back : ∀ {b : Addr}, b ≠ a → b ≠ d → upd (upd H2 d (.xd fs)) a (exw a C d) b = H2 b := fun {b} n m => by rw [upd_ne n, upd_ne m]
  have U : Un (frs X.stack) [] H1 (upd (upd H2 d (.xd fs)) a (exw a C d)) hp h2 := {
    keep := fun b o z n f x => un.keep b o (k b o z) (lift z n) f x
    slot := fun b o z n f x => un.slot b o (k b o z) (lift z n) f x
    free := fun b o z n x => by
      rw [back (nha z) (nd z n)]
      exact un.free b o (k b o z) (lift z n) x
    there := fun b o z x => un.there b o (k b o z) x
    tups := fun b xs z => by
      have q := un.tups b xs (by rw [upd_ne (ne_of_none z hn), z])
      rw [back (at_ne ea q exo_tup) (fun e => by rw [e, ed] at q; cases q)]
      exact q
    frzs := fun b o v z => by
      have q := un.frzs b o v (by rw [upd_ne (ne_of_none z hn), z])
      rw [back (at_ne ea q exo_frz) (fun e => by rw [e, ed] at q; cases q)]
      exact q
    tbls := fun b ps z => by
      obtain ⟨m, q⟩ := un.tbls b ps (by rw [upd_ne (ne_of_none z hn), z])
      exact ⟨m, by rw [back (at_ne ea q exo_tbl) (fun e => by rw [e, ed] at q; cases q)]; exact q⟩ }
  have hok3 : HOk X.prog X.w (upd (upd H2 d (.xd fs)) a (exw a C d)) h2 := fun b o z => by
    by_cases hba : b = a
    · subst hba
      rw [upd_same] at z
      cases z
      exact exw_ok hoe ⟨rfl, rfl⟩ rfl
    · rw [upd_ne hba] at z
      by_cases hbd : b = d
      · subst hbd
        rw [upd_same] at z
        cases z
        exact ⟨mA, hns, rel⟩
      · rw [upd_ne hbd] at z
        refine (hok b o z).stay (fun c v _ y => y) (fun c q => ?_) fun c xs q => ?_
        · rw [back (at_ne ea q exo_own) (fun e => by rw [e, ed] at q; cases q)]
          exact q
        · rw [back (at_ne ea q exo_tup) (fun e => by rw [e, ed] at q; cases q)]
          exact q
  exact I1.call' (ch := []) ho U hok3 hb fun b z => absurd z (by simp)
theorem pe_oexV {CX : CXT} {x : Str} {C fI : Addr} {k : Nat} {fd : FuncData} {ps : List Str} {sp : Sp} {ds : List Value} {dvs : List V} {e : Expr} {es : List Expr} {ta : TA} {p pos : Pos} (T : OexC X.K C)
    (iC : PySem.W.findIn X.K (.ref C) "__init__" = some (some (.ref fI))) (tI : PySem.W.typeIn X.K (.ref fI) = some (.type "function")) (F1 : FnOk X.prog X.w X.K X.mg X.base CX k fI fd ps sp) (hr : Room (k + 1) X.A) (hb : Binds X.K fd ps ds)
    (hd : Vals dvs ds) (hx : Passes CX X fun _ _ _ => False) (hg : Gl X x) (hm : X.mg x = some (.ref C)) (ha : PA X (e :: es) ta) (hdb : (x == ("__debug__" : Str)) = false := by decide)
    (he : starEach (e :: es) X.env = (false, eval e X.env) :: starEach es X.env := by rfl) (hpl : (backTo pos (starEach es X.env)).any (·.1) = false := by rfl) : PE X (.Call (.Name x p) (e :: es) [] pos) (tMkV C sp dvs ta) := by
  refine ⟨fun pins s σ H Q I h => ?_⟩
  obtain ⟨nm, q, N, bs, bm, sn, sub, ab, col, dd, k0, k1, k2, k3, k5, hC, hbm⟩ := T.cls
  refine wpAny_Call_Name_kw (ld_glob I hg hm ?_ hdb)
  refine PySem.W.callWith_K (h₀ := X.base) I.ok.mod.kin T.kC (thn (ha.run pos pins s σ H _ I h) fun us s1 ⟨vs, H1, I1, r1, hz, q1⟩ => ⟨I1.kIn, ?_⟩) he hpl
  obtain ⟨hp, g, dr, tk, os⟩ := s1
  have hsz : hp.objs.size ≤ hp.objs.size + 1 := Nat.le_succ _
  have hq := q1 _ (I1.hok.fresh hsz)
  have kk : ∀ b o, hp.get? b = some o → ((hp.push (PySem.W.kdv_tup us)).push (PySem.HandSPX.excO C hp.objs.size)).get? b = some o := fun b o z => Heap.get?_push_of_some _ (Heap.get?_push_of_some _ z)
  have I2 : Inv X pins σ (upd H1 (hp.objs.size + 1) (exo (hp.objs.size + 1) C none)) ⟨(hp.push (PySem.W.kdv_tup us)).push (PySem.HandSPX.excO C hp.objs.size), g, dr, tk, os⟩ :=
    I1.laid (t' := tk) (a := hp.objs.size + 1) (o := exo (hp.objs.size + 1) C none) (h' := (hp.push (PySem.W.kdv_tup us)).push (PySem.HandSPX.excO C hp.objs.size)) kk hsz (exo_ok (by heap_get))
  have r2 : Vals (V.ref (hp.objs.size + 1) :: (vs ++ dvs)) (Value.ref (hp.objs.size + 1) :: (us ++ ds)) := Paired.cons rfl (r1.append hd)
  have hl : (Value.ref (hp.objs.size + 1) :: us ++ ds).length = ps.length := (r2.length.symm.trans (F1.len _ _ _ _ hq))
  have hus : us.length ≤ sizeLine := by rw [← Paired.length r1, sizeLine_eq]; omega
  refine wpAny_call (PySem.HandSPX.call_own F.excBase_ValueError (fun Y => PySem.HandSPX.refsVE_contains Y bm hbm) (I1.kIn _ _ hC) (PySem.W.looks_findIn I1.kIn iC) (fun self => PySem.W.bind_fn I1.kIn self tI) hus
    (codeAny_mono (F1.run _ X.stack _ _ ⟨Value.ref (hp.objs.size + 1) :: us, []⟩ (Value.ref (hp.objs.size + 1) :: (us ++ ds)) _ _ (fun _ _ _ => False) (hr.make C us []) (I2.env0.make C us []) (hb _ (Value.ref (hp.objs.size + 1) :: us) I2.kIn hl) r2 hq) fun r s' hq' => ?_))
  cases r with
  | error er => exact hx pins σ _ _ er s' I2 hq'
  | ok fl =>
    cases fl with
    | ret u =>
      obtain ⟨v, H2, os2, bare2, un2, hok2, rv, ev, d, fs, ea, ed, q2⟩ := hq'
      subst ev
      obtain ⟨h2, g2, d2, t2, os'⟩ := s'
      exact ⟨rv, .ref (hp.objs.size + 1), _, mkv_end I1 hsz kk un2 hok2 os2 bare2 ea ed, rfl, q2⟩
    | next => exact hq'.elim
    | brk => exact hq'.elim
    | cont => exact hq'.elim
/-- e.f, e an own exception that is tracked -/
def tXfV (K : PySem.W.Frag) (n : Str) (te : TE) : TE := fun σ H Q => te σ H fun x H1 => ∃ (a C d : Addr) (fs : List (Str × V)) (v : V), x = .ref a ∧ XfC K C ∧ PySem.W.findIn K (.ref C) n = some none ∧ H1 a = some (exw a C d) ∧ H1 d = some (.xd fs) ∧ fs.lookup n = some v ∧ Q v H1
theorem inst_at {pins : List (Addr × Obj)} {σ : L2.St} {H : Hp} {s : Shared} {a C d : Addr} {fs : List (Str × V)} (I : Inv X pins σ H s) (e1 : H a = some (exw a C d)) (e2 : H d = some (.xd fs)) :
    ∃ (oe od : Obj), PySem.W.InstAt s.heap a oe C (some od) ∧ ∃ mA : Str → Option Value, (∀ n, PySem.W.lookIn n od = some (mA n)) ∧ ∀ f, RelO (fs.lookup f) (mA f) := by
  obtain ⟨oe, vs, h1, h2, h3⟩ := exw_at I.hok e1
  obtain ⟨mA, hns, hr⟩ := (show ObjOk X.prog X.w H s.heap d (.xd fs) from I.hok d _ e2)
  obtain ⟨od, ho, hl⟩ := lookIn_ns hns
  exact ⟨oe, od, ⟨h1, h2.1, by unfold PySem.W.notCls; rw [h3] <;> rfl, by rw [h2.2]; exact ho⟩, mA, hl, hr⟩
theorem pe_xfV {e : Expr} {te : TE} {pos : Pos} {n : Str} (he : PE X e te) (hb : attributeBase e n X.env (eval e X.env) = eval e X.env := by rfl) : PE X (.Attribute e n pos) (tXfV X.K n te) := by
  refine ⟨fun pins s σ H Q I h => attr_of hb (thn (he.run pins s σ H _ I h) fun u s1 hh => ?_)⟩
  obtain ⟨x, H1, I1, rx, a, C, d, fs, v, ex, T, hno, ea, ed, l, q⟩ := hh
  subst ex
  obtain rfl : u = Value.ref a := rx
  obtain ⟨oe, od, J, mA, hl, hr⟩ := inst_at I1 ea ed
  obtain ⟨u, hu, ru⟩ := RelO.some_of (v := v) (o := mA n) (by rw [← l]; exact hr n)
  exact HandSPX.exc_get I1.kIn J T.ga T.gg T.exC (PySem.W.findObj_own T.hdC hno rfl (by rw [hl, hu])) (handed_of ru) ⟨v, H1, I1.tok _, ru, q⟩
end
end DatE
namespace DatW
open PySem PySem.W PySem.Spec PySem.Calls PyProof.Rows
section
variable {prog : Program} {w : World} {A : Around} {E : Value → Shared → Prop} {s : Shared} {K : Frag} {x D : Addr}
/-- an exception with its dict, in which no __class__ stands -/
def DatExc (x D : Addr) (h : Heap) : Prop := ∃ ox od, InstAt h x ox D (some od) ∧ lookIn "__class__" od = some none
theorem dat_find {od : Obj} (C : L2.ExcC K D) (hcl : lookIn "__class__" od = some none) : findObj K D (some od) "__class__" = some (.bind (.builtin "getset_descriptor.__get__") (.builtin "object.__class__")) := by
  obtain ⟨cd, hc, _⟩ := any_some C.hd
  unfold findObj
  rw [hc, Option.bind_some, C.ha, Option.bind_some]
  simp [C.hn, C.ht, hcl]
theorem dat_class {Q : Option Value → Shared → Prop} {ox od : Obj} (C : L2.ExcC K D) (Y : K.In s.heap) (I : InstAt s.heap x ox D (some od)) (hcl : lookIn "__class__" od = some none) (h : Q (some (.ref D)) { s with toks := s.toks + 1 }) :
    wpAny (model prog w) A (getAttr? (.ref x) "__class__") Q E s := by
  obtain ⟨hp, g, d, t, os⟩ := s
  have l0 := I.type (M := model prog w)
  have l1 := looks_findIn (M := model prog w) Y C.hg
  have l2 := looks_findIn (M := model prog w) Y C.hk
  have l3 := looks_find (M := model prog w) Y I (dat_find C hcl)
  have sb : Looks (model prog w) hp (isInstance (.ref x) (.type "BaseException")) true := l0.andThen (looks_subIn Y C.hs)
  have nb : (Value.builtin "BaseException.__getattribute__" == Value.builtin "object.__getattribute__") = false := by decide +kernel
  unfold getAttr? getAttrBy? getAttrBy
  refine wpAny_bind (wpAny_mkText (wpAny_bind (wpAny_attempt (wpAny_holding (wpAny_bind (l0.at (wpAny_bind (l1.at ?_))))))))
  dsimp only
  rw [if_neg (by show ¬((onTheHeap (Value.ref D) && Value.builtin "BaseException.__getattribute__" == Value.builtin "object.__getattribute__") = true); rw [nb]; exact Bool.false_ne_true)]
  unfold getAttrByItsOwn hookBefore
  refine wpAny_bind ?_
  rw [if_pos (show onTheHeap (Value.ref D) = true from rfl)]
  refine l2.at (wpAny_bind (wpAny_attempt (wpAny_holding ?_)))
  unfold callGetattribute
  dsimp only
  rw [if_neg (by show ¬((false && onTheHeap (Value.builtin "BaseException.__getattribute__")) = true); exact Bool.false_ne_true)]
  unfold boundAndCalled
  rw [PySem.F.excAttr_ValueError.ga.bind (.ref x)]
  refine wpAny_bind (wpAny_pure (wpAny_call (codeAny_call_builtin PySem.F.excAttr_ValueError.ga.plain PySem.F.entry_bexc_ga ?_)))
  refine @check_slot (model prog w) _ _ ⟨hp, g, d, t + 1, os⟩ _ "BaseException" "__getattribute__" (.ref x) [.str "__class__" t] [] _ (by decide +kernel) (by decide +kernel) sb (PySem.F.args_bexc_ga (.ref x) (.str "__class__" t)) ?_
  unfold Builtin.«object.__getattribute__»
  refine wpAny_bind (wpAny_of_eq (a := ((Value.ref x : Value), [Value.str "__class__" t])) (by first | rfl | (simp only [slotArgs]; rfl)) (wpAny_bind (wpAny_pure (wpAny_bind (l0.at (wpAny_bind (l3.at ?_)))))))
  refine wpAny_bind (wpAny_holding (wpAny_call (class_get (s := ⟨hp, g, d, t + 1, os⟩) (ox := ox) (od := some od) Y I C.hm (wpAny_pure ?_))))
  show wpAny _ _ (handedOut (.ref D)) _ _ _
  rw [handedOut_of (v := .ref D) rfl]
  first
    | exact wpAny_pure (wpAny_pure h)
    | exact wpAny_pure h
    | exact wpAny_pure (wpAny_bind (wpAny_pure (wpAny_pure h)))
theorem dat_kit (C : L2.ExcC K D) : KitX K (.ref x) (.ref D) (DatExc x D) := by
  obtain ⟨cdD, hcD, _⟩ := any_some C.hd
  have there : ∃ o : Obj, K.lookup D = some o ∧ o.data = .cls cdD := by
    unfold clsIn at hcD
    split at hcD
    · rename_i ho
      exact ⟨_, ho, by rw [Option.some.inj hcD]⟩
    · cases hcD
  obtain ⟨oD, hoD, hdD⟩ := there
  refine { ty := fun _ _ _ ⟨ox, od, I, _⟩ => I.type, it := fun _ _ Y _ => ?_, ne := fun h tp dd its n sl Y htp => ?_, ca := ?_ }
  · intro A' Q' E' s' k q
    unfold isType loadHead
    refine wpAny_bind (wpAny_loadPart (k _ _ (Y _ _ hoD)) ?_)
    rw [hdD]
    exact wpAny_pure q
  · refine Bool.eq_false_iff.mpr fun q => ?_
    obtain rfl : D = tp := Value.ref.inj (beq_iff_eq.mp q)
    have z := (Y _ _ hoD).symm.trans htp
    rw [Option.some.inj z] at hdD
    cases hdD
  · intro prog w A E Q s Y ⟨ox, od, I, hcl⟩ h
    exact dat_class C Y I hcl h
end
end DatW
namespace DatE
open PySem PySem.Spec PyProof.Rows L2
/-- isinstance(e, c), e an own exception that is tracked -/
def rIsV (K : PySem.W.Frag) : List V → Hp → VK → Prop := fun xs H Q => ∃ (a D d : Addr) (fs : List (Str × V)) (c : V) (u : Value) (b : Bool), xs = [.ref a, c] ∧ ClsV c u ∧ H a = some (exw a D d) ∧ H d = some (.xd fs) ∧ fs.lookup (Str.ofString "__class__") = none ∧ ExcC K D ∧
  PySem.W.kitOne K (.ref D) u = some b ∧ Q (.bl b) H
/-- isinstance(e, (c1, c2, ..)) -/
def rIsVT (K : PySem.W.Frag) : List V → Hp → VK → Prop := fun xs H Q => ∃ (a D d tp : Addr) (fs : List (Str × V)) (cs : List V) (us : List Value) (b : Bool), xs = [.ref a, .ref tp] ∧ H tp = some (.tup cs) ∧ Paired ClsV cs us ∧ H a = some (exw a D d) ∧ H d = some (.xd fs) ∧
  fs.lookup (Str.ofString "__class__") = none ∧ ExcC K D ∧ PySem.W.kitAny K (.ref D) us = some b ∧ Q (.bl b) H
section
variable {X : Cx}
theorem exc_kit {pins : List (Addr × Obj)} {σ : L2.St} {H : Hp} {s : Shared} {a D d : Addr} {fs : List (Str × V)} (I : Inv X pins σ H s) (e1 : H a = some (exw a D d)) (e2 : H d = some (.xd fs)) (e3 : fs.lookup (Str.ofString "__class__") = none) : DatW.DatExc a D s.heap := by
  obtain ⟨oe, od, J, mA, hl, hr⟩ := inst_at I e1 e2
  refine ⟨oe, od, J, ?_⟩
  rw [hl]
  have q := hr (Str.ofString "__class__")
  rw [e3] at q
  cases z : mA (Str.ofString "__class__") with
  | none => rfl
  | some v => rw [z] at q; exact q.elim
theorem call_isV : CallR X (.builtin "isinstance") (rIsV X.K) := by
  intro pins s σ H xs us Q I r h
  obtain ⟨a, D, d, fs, c, u, b, rfl, k, e1, e2, e3, C, e, q⟩ := h
  obtain ⟨u1, u2, rfl, r1, r2⟩ := vals2 r
  obtain rfl := k.eq r2
  cases (show u1 = Value.ref a from r1)
  exact PySem.W.kia_one (DatW.dat_kit C) I.kIn (exc_kit I e1 e2 e3) e (fun z => nomatch z) fun tk => ⟨.bl b, H, I.tok tk, rfl, q⟩
theorem call_isVT : CallR X (.builtin "isinstance") (rIsVT X.K) := by
  intro pins s σ H xs us Q I r h
  obtain ⟨a, D, d, tp, fs, cs, ws, b, rfl, hT, k, e1, e2, e3, C, e, q⟩ := h
  obtain ⟨u1, u2, rfl, r1, r2⟩ := vals2 r
  cases (show u2 = Value.ref tp from r2)
  cases (show u1 = Value.ref a from r1)
  obtain ⟨_, its, rv, ⟨oc, od, dt, sl⟩, h1, h2, n, h3⟩ := (show ObjOk X.prog X.w H s.heap tp (.tup cs) from I.hok tp _ hT)
  obtain rfl := ClsV.all k rv
  simp only at h2 h3
  subst h2 h3
  exact PySem.W.kia_tup (DatW.dat_kit C) I.kIn (exc_kit I e1 e2 e3) h1 e (fun z => nomatch z) fun tk => ⟨.bl b, H, I.tok tk, rfl, q⟩
end
end DatE
/-! Dat0: frozen data D, owned trees O, the state of a frame over both, and its steps. -/
namespace Dat
open PySem PySem.Spec PyProof.Rows L2 DatE
inductive D where
  | v (x : V)
  | scr (ns : List Int)
  | lst (ds : List D)
  | tup (ds : List D)
  | dk (ks : List Key) (ds : List D)
  | ins (C : Addr) (fs : List Str) (ds : List D)
  | exc (C : Addr) (f : Str) (d : D)
inductive O where
  | d (x : D)
  | lst (os : List O)
  | dk (ks : List Key) (os : List O)
  | ins (C : Addr) (fs : List Str) (os : List O)
mutual
def Fr (K : PySem.W.Frag) (Z : Hp) : D → V → Prop
  | .v x, v => v = x
  | .scr ns, v => ∃ a, v = .ref a ∧ SqL K Z a (ns.map V.int)
  | .lst ds, v => ∃ a xs, v = .ref a ∧ Z a = some (.lst xs) ∧ FrL K Z ds xs
  | .tup ds, v => ∃ a xs, v = .ref a ∧ SqT K Z a xs ∧ FrL K Z ds xs
  | .dk ks ds, v => ∃ a kvs, v = .ref a ∧ Z a = some (.dK kvs) ∧ kvs.map (·.1) = ks ∧ ks.Nodup ∧ FrL K Z ds (kvs.map (·.2))
  | .ins C fs ds, v => ∃ a dx fvs, v = .ref a ∧ Z a = some (.ins C dx fvs) ∧ fvs.map (·.1) = fs ∧ FrL K Z ds (fvs.map (·.2))
  | .exc C f d, v => ∃ a dx x, v = .ref a ∧ Z a = some (exw a C dx) ∧ Z dx = some (.xd [(f, x)]) ∧ Fr K Z d x
def FrL (K : PySem.W.Frag) (Z : Hp) : List D → List V → Prop
  | [], xs => xs = []
  | d :: ds, xs => ∃ x r, xs = x :: r ∧ Fr K Z d x ∧ FrL K Z ds r
end
theorem same_tup {K : PySem.W.Frag} {H H' : Hp} {a : Addr} {xs : List V} (e : Same H H') (h : SqT K H a xs) : SqT K H' a xs := by
  rcases h with (h | ⟨o, h⟩) | h
  · exact .inl (.inl (e _ _ h))
  · exact .inl (.inr ⟨o, e _ _ h⟩)
  · exact .inr h
mutual
theorem Fr.mono {K : PySem.W.Frag} {Z Z' : Hp} (e : Same Z Z') : ∀ {d : D} {v : V}, Fr K Z d v → Fr K Z' d v
  | .v _, _, h => by unfold Fr at h ⊢; exact h
  | .scr ns, _, h => by
    unfold Fr at h ⊢
    obtain ⟨a, h1, h2⟩ := h
    exact ⟨a, h1, e.seq h2⟩
  | .lst ds, _, h => by
    unfold Fr at h ⊢
    obtain ⟨a, xs, h1, h2, h3⟩ := h
    exact ⟨a, xs, h1, e _ _ h2, FrL.mono e h3⟩
  | .tup ds, _, h => by
    unfold Fr at h ⊢
    obtain ⟨a, xs, h1, h2, h3⟩ := h
    exact ⟨a, xs, h1, same_tup e h2, FrL.mono e h3⟩
  | .dk ks ds, _, h => by
    unfold Fr at h ⊢
    obtain ⟨a, xs, h1, h2, h3, hn, h4⟩ := h
    exact ⟨a, xs, h1, e _ _ h2, h3, hn, FrL.mono e h4⟩
  | .ins C fs ds, _, h => by
    unfold Fr at h ⊢
    obtain ⟨a, dx, xs, h1, h2, h3, h4⟩ := h
    exact ⟨a, dx, xs, h1, e _ _ h2, h3, FrL.mono e h4⟩
  | .exc C f d, _, h => by
    unfold Fr at h ⊢
    obtain ⟨a, dx, x, h1, h2, h3, h4⟩ := h
    exact ⟨a, dx, x, h1, e _ _ h2, e _ _ h3, Fr.mono e h4⟩
theorem FrL.mono {K : PySem.W.Frag} {Z Z' : Hp} (e : Same Z Z') : ∀ {ds : List D} {xs : List V}, FrL K Z ds xs → FrL K Z' ds xs
  | [], _, h => by unfold FrL at h ⊢; exact h
  | d :: ds, _, h => by
    unfold FrL at h ⊢
    obtain ⟨x, r, h1, h2, h3⟩ := h
    exact ⟨x, r, h1, Fr.mono e h2, FrL.mono e h3⟩
end
section
variable {K : PySem.W.Frag} {Z H : Hp}
theorem Fr.v_iff {x v : V} : Fr K Z (.v x) v ↔ v = x := by unfold Fr; exact Iff.rfl
theorem Fr.scr_iff {ns : List Int} {v : V} : Fr K Z (.scr ns) v ↔ ∃ a, v = .ref a ∧ SqL K Z a (ns.map V.int) := by
  constructor
  · intro h; unfold Fr at h; exact h
  · intro h; unfold Fr; exact h
theorem Fr.lst_iff {ds : List D} {v : V} : Fr K Z (.lst ds) v ↔ ∃ a xs, v = .ref a ∧ Z a = some (.lst xs) ∧ FrL K Z ds xs := by
  constructor
  · intro h; unfold Fr at h; exact h
  · intro h; unfold Fr; exact h
theorem Fr.tup_iff {ds : List D} {v : V} : Fr K Z (.tup ds) v ↔ ∃ a xs, v = .ref a ∧ SqT K Z a xs ∧ FrL K Z ds xs := by
  constructor
  · intro h; unfold Fr at h; exact h
  · intro h; unfold Fr; exact h
theorem Fr.dk_iff {ks : List Key} {ds : List D} {v : V} : Fr K Z (.dk ks ds) v ↔ ∃ a kvs, v = .ref a ∧ Z a = some (.dK kvs) ∧ kvs.map (·.1) = ks ∧ ks.Nodup ∧ FrL K Z ds (kvs.map (·.2)) := by
  constructor
  · intro h; unfold Fr at h; exact h
  · intro h; unfold Fr; exact h
theorem Fr.ins_iff {C : Addr} {fs : List Str} {ds : List D} {v : V} : Fr K Z (.ins C fs ds) v ↔ ∃ a dx fvs, v = .ref a ∧ Z a = some (.ins C dx fvs) ∧ fvs.map (·.1) = fs ∧ FrL K Z ds (fvs.map (·.2)) := by
  constructor
  · intro h; unfold Fr at h; exact h
  · intro h; unfold Fr; exact h
theorem Fr.exc_iff {C : Addr} {f : Str} {d : D} {v : V} : Fr K Z (.exc C f d) v ↔ ∃ a dx x, v = .ref a ∧ Z a = some (exw a C dx) ∧ Z dx = some (.xd [(f, x)]) ∧ Fr K Z d x := by
  constructor
  · intro h; unfold Fr at h; exact h
  · intro h; unfold Fr; exact h
theorem FrL.nil_iff {xs : List V} : FrL K Z [] xs ↔ xs = [] := by unfold FrL; exact Iff.rfl
theorem FrL.cons_iff {d : D} {ds : List D} {xs : List V} : FrL K Z (d :: ds) xs ↔ ∃ x r, xs = x :: r ∧ Fr K Z d x ∧ FrL K Z ds r := by
  constructor
  · intro h; unfold FrL at h; exact h
  · intro h; unfold FrL; exact h
theorem FrL.nil : FrL K Z [] [] := FrL.nil_iff.mpr rfl
theorem FrL.cons {d : D} {ds : List D} {x : V} {xs : List V} (h : Fr K Z d x) (t : FrL K Z ds xs) : FrL K Z (d :: ds) (x :: xs) := FrL.cons_iff.mpr ⟨x, xs, rfl, h, t⟩
theorem FrL.length : ∀ {ds : List D} {xs : List V}, FrL K Z ds xs → xs.length = ds.length
  | [], _, h => by rw [FrL.nil_iff.mp h]; rfl
  | d :: ds, _, h => by
    obtain ⟨x, r, rfl, _, t⟩ := FrL.cons_iff.mp h
    rw [List.length_cons, List.length_cons, FrL.length t]
theorem FrL.get : ∀ {ds : List D} {xs : List V} {i : Nat} {d : D}, FrL K Z ds xs → ds[i]? = some d → ∃ x, xs[i]? = some x ∧ Fr K Z d x
  | [], _, i, d, _, e => by simp at e
  | d' :: ds, _, 0, d, h, e => by
    obtain ⟨x, r, rfl, hx, _⟩ := FrL.cons_iff.mp h
    simp at e
    exact ⟨x, rfl, e ▸ hx⟩
  | d' :: ds, _, i + 1, d, h, e => by
    obtain ⟨x, r, rfl, _, t⟩ := FrL.cons_iff.mp h
    obtain ⟨y, hy, q⟩ := FrL.get (i := i) t (by simpa using e)
    exact ⟨y, by simpa using hy, q⟩
theorem FrL.at : ∀ {ds : List D} {xs : List V} {i : Nat} {x : V}, FrL K Z ds xs → xs[i]? = some x → ∃ d, ds[i]? = some d ∧ Fr K Z d x
  | [], xs, i, x, h, e => by rw [FrL.nil_iff.mp h] at e; simp at e
  | d' :: ds, _, 0, y, h, e => by
    obtain ⟨x, r, rfl, hx, _⟩ := FrL.cons_iff.mp h
    simp at e
    exact ⟨d', rfl, e ▸ hx⟩
  | d' :: ds, _, i + 1, y, h, e => by
    obtain ⟨x, r, rfl, _, t⟩ := FrL.cons_iff.mp h
    obtain ⟨d, hy, q⟩ := FrL.at (i := i) t (by simpa using e)
    exact ⟨d, by simpa using hy, q⟩
theorem FrL.append : ∀ {ds es : List D} {xs ys : List V}, FrL K Z ds xs → FrL K Z es ys → FrL K Z (ds ++ es) (xs ++ ys)
  | [], es, xs, ys, h, g => by rw [FrL.nil_iff.mp h]; exact g
  | d :: ds, es, _, ys, h, g => by
    obtain ⟨x, r, rfl, hx, t⟩ := FrL.cons_iff.mp h
    exact FrL.cons hx (FrL.append t g)
theorem FrL.take : ∀ {ds : List D} {xs : List V} (n : Nat), FrL K Z ds xs → FrL K Z (ds.take n) (xs.take n)
  | _, _, 0, _ => FrL.nil
  | [], _, n + 1, h => by rw [FrL.nil_iff.mp h]; exact FrL.nil
  | d :: ds, _, n + 1, h => by
    obtain ⟨x, r, rfl, hx, t⟩ := FrL.cons_iff.mp h
    exact FrL.cons hx (FrL.take n t)
theorem FrL.drop : ∀ {ds : List D} {xs : List V} (n : Nat), FrL K Z ds xs → FrL K Z (ds.drop n) (xs.drop n)
  | _, _, 0, h => h
  | [], _, n + 1, h => by rw [FrL.nil_iff.mp h]; exact FrL.nil
  | d :: ds, _, n + 1, h => by
    obtain ⟨x, r, rfl, hx, t⟩ := FrL.cons_iff.mp h
    exact FrL.drop n t
theorem FrL.reverse : ∀ {ds : List D} {xs : List V}, FrL K Z ds xs → FrL K Z ds.reverse xs.reverse
  | [], _, h => by rw [FrL.nil_iff.mp h]; exact FrL.nil
  | d :: ds, _, h => by
    obtain ⟨x, r, rfl, hx, t⟩ := FrL.cons_iff.mp h
    rw [List.reverse_cons, List.reverse_cons]
    exact (FrL.reverse t).append (FrL.cons hx FrL.nil)
theorem FrL.of_map {α : Type} (f : α → D) (g : α → V) : ∀ {l : List α}, (∀ a ∈ l, Fr K Z (f a) (g a)) → FrL K Z (l.map f) (l.map g)
  | [], _ => FrL.nil
  | a :: l, h => FrL.cons (h a List.mem_cons_self) (FrL.of_map f g fun b hb => h b (List.mem_cons_of_mem _ hb))
end
/-! ### owned trees -/
mutual
def O.toD : O → D
  | .d x => x
  | .lst os => .lst (O.toDL os)
  | .dk ks os => .dk ks (O.toDL os)
  | .ins C fs os => .ins C fs (O.toDL os)
def O.toDL : List O → List D
  | [] => []
  | o :: os => O.toD o :: O.toDL os
end
theorem O.toDL_map : ∀ os : List O, O.toDL os = os.map O.toD
  | [] => by unfold O.toDL; rfl
  | o :: os => by unfold O.toDL; rw [O.toDL_map os]; rfl
mutual
def Ow (K : PySem.W.Frag) (Z H : Hp) : O → V → List Addr → Prop
  | .d x, v, F => F = [] ∧ Fr K Z x v
  | .lst os, v, F => ∃ a xs F', v = .ref a ∧ H a = some (.lst xs) ∧ Z a = none ∧ F = a :: F' ∧ OwL K Z H os xs F'
  | .dk ks os, v, F => ∃ a kvs F', v = .ref a ∧ H a = some (.dK kvs) ∧ Z a = none ∧ F = a :: F' ∧ kvs.map (·.1) = ks ∧ ks.Nodup ∧ OwL K Z H os (kvs.map (·.2)) F'
  | .ins C fs os, v, F => ∃ a dx fvs F', v = .ref a ∧ H a = some (.ins C dx fvs) ∧ Z a = none ∧ F = a :: F' ∧ fvs.map (·.1) = fs ∧ OwL K Z H os (fvs.map (·.2)) F'
def OwL (K : PySem.W.Frag) (Z H : Hp) : List O → List V → List Addr → Prop
  | [], xs, F => xs = [] ∧ F = []
  | o :: os, xs, F => ∃ x r F1 F2, xs = x :: r ∧ F = F1 ++ F2 ∧ Ow K Z H o x F1 ∧ OwL K Z H os r F2
end
section
variable {K : PySem.W.Frag} {Z H Z' H' : Hp}
theorem Ow.d_iff {x : D} {v : V} {F : List Addr} : Ow K Z H (.d x) v F ↔ F = [] ∧ Fr K Z x v := by
  constructor
  · intro h; unfold Ow at h; exact h
  · intro h; unfold Ow; exact h
theorem Ow.lst_iff {os : List O} {v : V} {F : List Addr} : Ow K Z H (.lst os) v F ↔ ∃ a xs F', v = .ref a ∧ H a = some (.lst xs) ∧ Z a = none ∧ F = a :: F' ∧ OwL K Z H os xs F' := by
  constructor
  · intro h; unfold Ow at h; exact h
  · intro h; unfold Ow; exact h
theorem Ow.dk_iff {ks : List Key} {os : List O} {v : V} {F : List Addr} : Ow K Z H (.dk ks os) v F ↔ ∃ a kvs F', v = .ref a ∧ H a = some (.dK kvs) ∧ Z a = none ∧ F = a :: F' ∧ kvs.map (·.1) = ks ∧ ks.Nodup ∧ OwL K Z H os (kvs.map (·.2)) F' := by
  constructor
  · intro h; unfold Ow at h; exact h
  · intro h; unfold Ow; exact h
theorem Ow.ins_iff {C : Addr} {fs : List Str} {os : List O} {v : V} {F : List Addr} : Ow K Z H (.ins C fs os) v F ↔ ∃ a dx fvs F', v = .ref a ∧ H a = some (.ins C dx fvs) ∧ Z a = none ∧ F = a :: F' ∧ fvs.map (·.1) = fs ∧ OwL K Z H os (fvs.map (·.2)) F' := by
  constructor
  · intro h; unfold Ow at h; exact h
  · intro h; unfold Ow; exact h
theorem OwL.nil_iff {xs : List V} {F : List Addr} : OwL K Z H [] xs F ↔ xs = [] ∧ F = [] := by
  constructor
  · intro h; unfold OwL at h; exact h
  · intro h; unfold OwL; exact h
theorem OwL.cons_iff {o : O} {os : List O} {xs : List V} {F : List Addr} : OwL K Z H (o :: os) xs F ↔ ∃ x r F1 F2, xs = x :: r ∧ F = F1 ++ F2 ∧ Ow K Z H o x F1 ∧ OwL K Z H os r F2 := by
  constructor
  · intro h; unfold OwL at h; exact h
  · intro h; unfold OwL; exact h
theorem OwL.nil : OwL K Z H [] [] [] := OwL.nil_iff.mpr ⟨rfl, rfl⟩
theorem OwL.cons {o : O} {os : List O} {x : V} {xs : List V} {F G : List Addr} (h : Ow K Z H o x F) (t : OwL K Z H os xs G) : OwL K Z H (o :: os) (x :: xs) (F ++ G) := OwL.cons_iff.mpr ⟨x, xs, F, G, rfl, rfl, h, t⟩
mutual
/-- the objects at F as they were, the frozen ones still there -/
theorem Ow.mono (e : Same Z Z') : ∀ {o : O} {v : V} {F : List Addr}, (∀ b ∈ F, H' b = H b ∧ Z' b = none) → Ow K Z H o v F → Ow K Z' H' o v F
  | .d x, v, F, _, h => by
    obtain ⟨h1, h2⟩ := Ow.d_iff.mp h
    exact Ow.d_iff.mpr ⟨h1, h2.mono e⟩
  | .lst os, v, F, hF, h => by
    obtain ⟨a, xs, F', h1, h2, h3, rfl, h5⟩ := Ow.lst_iff.mp h
    obtain ⟨p, q⟩ := hF a List.mem_cons_self
    exact Ow.lst_iff.mpr ⟨a, xs, F', h1, p.trans h2, q, rfl, OwL.mono e (fun b hb => hF b (List.mem_cons_of_mem _ hb)) h5⟩
  | .dk ks os, v, F, hF, h => by
    obtain ⟨a, xs, F', h1, h2, h3, rfl, h5, hn, h6⟩ := Ow.dk_iff.mp h
    obtain ⟨p, q⟩ := hF a List.mem_cons_self
    exact Ow.dk_iff.mpr ⟨a, xs, F', h1, p.trans h2, q, rfl, h5, hn, OwL.mono e (fun b hb => hF b (List.mem_cons_of_mem _ hb)) h6⟩
  | .ins C fs os, v, F, hF, h => by
    obtain ⟨a, dx, xs, F', h1, h2, h3, rfl, h5, h6⟩ := Ow.ins_iff.mp h
    obtain ⟨p, q⟩ := hF a List.mem_cons_self
    exact Ow.ins_iff.mpr ⟨a, dx, xs, F', h1, p.trans h2, q, rfl, h5, OwL.mono e (fun b hb => hF b (List.mem_cons_of_mem _ hb)) h6⟩
theorem OwL.mono (e : Same Z Z') : ∀ {os : List O} {xs : List V} {F : List Addr}, (∀ b ∈ F, H' b = H b ∧ Z' b = none) → OwL K Z H os xs F → OwL K Z' H' os xs F
  | [], xs, F, _, h => OwL.nil_iff.mpr (OwL.nil_iff.mp h)
  | o :: os, xs, F, hF, h => by
    obtain ⟨x, r, F1, F2, h1, rfl, h3, h4⟩ := OwL.cons_iff.mp h
    exact OwL.cons_iff.mpr ⟨x, r, F1, F2, h1, rfl, Ow.mono e (fun b hb => hF b (List.mem_append_left _ hb)) h3, OwL.mono e (fun b hb => hF b (List.mem_append_right _ hb)) h4⟩
end
mutual
/-- what is owned stands, and is not frozen -/
theorem Ow.stands : ∀ {o : O} {v : V} {F : List Addr}, Ow K Z H o v F → ∀ b ∈ F, Z b = none ∧ ∃ u, H b = some u
  | .d x, v, F, h, b, hb => by
    obtain ⟨rfl, h2⟩ := Ow.d_iff.mp h
    exact absurd hb (by simp)
  | .lst os, v, F, h, b, hb => by
    obtain ⟨a, xs, F', h1, h2, h3, rfl, h5⟩ := Ow.lst_iff.mp h
    rcases List.mem_cons.mp hb with rfl | hb
    · exact ⟨h3, _, h2⟩
    · exact OwL.stands h5 b hb
  | .dk ks os, v, F, h, b, hb => by
    obtain ⟨a, xs, F', h1, h2, h3, rfl, h5, hn, h6⟩ := Ow.dk_iff.mp h
    rcases List.mem_cons.mp hb with rfl | hb
    · exact ⟨h3, _, h2⟩
    · exact OwL.stands h6 b hb
  | .ins C fs os, v, F, h, b, hb => by
    obtain ⟨a, dx, xs, F', h1, h2, h3, rfl, h5, h6⟩ := Ow.ins_iff.mp h
    rcases List.mem_cons.mp hb with rfl | hb
    · exact ⟨h3, _, h2⟩
    · exact OwL.stands h6 b hb
theorem OwL.stands : ∀ {os : List O} {xs : List V} {F : List Addr}, OwL K Z H os xs F → ∀ b ∈ F, Z b = none ∧ ∃ u, H b = some u
  | [], xs, F, h, b, hb => by
    obtain ⟨_, rfl⟩ := OwL.nil_iff.mp h
    exact absurd hb (by simp)
  | o :: os, xs, F, h, b, hb => by
    obtain ⟨x, r, F1, F2, h1, rfl, h3, h4⟩ := OwL.cons_iff.mp h
    rcases List.mem_append.mp hb with hb | hb
    · exact Ow.stands h3 b hb
    · exact OwL.stands h4 b hb
end
mutual
/-- an owned tree is data where its objects are frozen -/
theorem Ow.froz (e : Same Z Z') : ∀ {o : O} {v : V} {F : List Addr}, (∀ b ∈ F, Z' b = H b) → Ow K Z H o v F → Fr K Z' o.toD v
  | .d x, v, F, _, h => by
    unfold O.toD
    exact (Ow.d_iff.mp h).2.mono e
  | .lst os, v, F, hF, h => by
    obtain ⟨a, xs, F', h1, h2, h3, rfl, h5⟩ := Ow.lst_iff.mp h
    unfold O.toD
    exact Fr.lst_iff.mpr ⟨a, xs, h1, (hF a List.mem_cons_self).trans h2, OwL.froz e (fun b hb => hF b (List.mem_cons_of_mem _ hb)) h5⟩
  | .dk ks os, v, F, hF, h => by
    obtain ⟨a, xs, F', h1, h2, h3, rfl, h5, hn, h6⟩ := Ow.dk_iff.mp h
    unfold O.toD
    exact Fr.dk_iff.mpr ⟨a, xs, h1, (hF a List.mem_cons_self).trans h2, h5, hn, OwL.froz e (fun b hb => hF b (List.mem_cons_of_mem _ hb)) h6⟩
  | .ins C fs os, v, F, hF, h => by
    obtain ⟨a, dx, xs, F', h1, h2, h3, rfl, h5, h6⟩ := Ow.ins_iff.mp h
    unfold O.toD
    exact Fr.ins_iff.mpr ⟨a, dx, xs, h1, (hF a List.mem_cons_self).trans h2, h5, OwL.froz e (fun b hb => hF b (List.mem_cons_of_mem _ hb)) h6⟩
theorem OwL.froz (e : Same Z Z') : ∀ {os : List O} {xs : List V} {F : List Addr}, (∀ b ∈ F, Z' b = H b) → OwL K Z H os xs F → FrL K Z' (O.toDL os) xs
  | [], xs, F, _, h => by
    unfold O.toDL
    exact FrL.nil_iff.mpr (OwL.nil_iff.mp h).1
  | o :: os, xs, F, hF, h => by
    obtain ⟨x, r, F1, F2, h1, rfl, h3, h4⟩ := OwL.cons_iff.mp h
    unfold O.toDL
    exact FrL.cons_iff.mpr ⟨x, r, h1, Ow.froz e (fun b hb => hF b (List.mem_append_left _ hb)) h3, OwL.froz e (fun b hb => hF b (List.mem_append_right _ hb)) h4⟩
end
theorem OwL.length : ∀ {os : List O} {xs : List V} {F : List Addr}, OwL K Z H os xs F → xs.length = os.length
  | [], _, _, h => by rw [(OwL.nil_iff.mp h).1]; rfl
  | o :: os, _, _, h => by
    obtain ⟨x, r, F1, F2, rfl, _, _, t⟩ := OwL.cons_iff.mp h
    rw [List.length_cons, List.length_cons, OwL.length t]
theorem OwL.append : ∀ {os ps : List O} {xs ys : List V} {F G : List Addr}, OwL K Z H os xs F → OwL K Z H ps ys G → OwL K Z H (os ++ ps) (xs ++ ys) (F ++ G)
  | [], ps, xs, ys, F, G, h, g => by
    obtain ⟨rfl, rfl⟩ := OwL.nil_iff.mp h
    exact g
  | o :: os, ps, xs, ys, F, G, h, g => by
    obtain ⟨x, r, F1, F2, rfl, rfl, h3, t⟩ := OwL.cons_iff.mp h
    rw [List.append_assoc]
    exact OwL.cons h3 (OwL.append t g)
/-- a place in a row of owned trees -/
theorem OwL.split : ∀ {os : List O} {xs : List V} {F : List Addr} {i : Nat} {o : O}, OwL K Z H os xs F → os[i]? = some o → ∃ x A F' B, xs[i]? = some x ∧ F = A ++ F' ++ B ∧ Ow K Z H o x F' ∧
    ∀ {Z' H' : Hp} {o' : O} {x' : V} {F'' : List Addr}, Same Z Z' → (∀ b, b ∈ A ∨ b ∈ B → H' b = H b ∧ Z' b = none) → Ow K Z' H' o' x' F'' → OwL K Z' H' (os.set i o') (xs.set i x') (A ++ F'' ++ B)
  | [], xs, F, i, o, h, e => by simp at e
  | p :: os, xs, F, 0, o, h, e => by
    obtain ⟨x, r, F1, F2, rfl, rfl, h3, t⟩ := OwL.cons_iff.mp h
    simp at e
    subst e
    refine ⟨x, [], F1, F2, rfl, by simp, h3, fun {Z' H' o' x' F''} e hk g => ?_⟩
    exact OwL.cons g (t.mono e fun b hb => hk b (.inr hb))
  | p :: os, xs, F, i + 1, o, h, e => by
    obtain ⟨x, r, F1, F2, rfl, rfl, h3, t⟩ := OwL.cons_iff.mp h
    obtain ⟨y, A, F', B, h4, rfl, h6, h7⟩ := OwL.split (i := i) (o := o) t (by simpa using e)
    refine ⟨y, F1 ++ A, F', B, by simpa using h4, by simp [List.append_assoc], h6, fun {Z' H' o' x' F''} e hk g => ?_⟩
    have q := OwL.cons (h3.mono e fun b hb => hk b (.inl (List.mem_append_left _ hb))) (h7 e (fun b hb => hk b (hb.imp (List.mem_append_right _) id)) g)
    simpa [List.append_assoc] using q
end
end Dat
/-! Dat1: places in owned trees; a frame's state S, what it stands for (Rep), a step of it (Nx). -/
namespace Dat
open PySem PySem.Spec PyProof.Rows L2
/-- a step into a tree: a place in a list (from the end where it is negative), a key, an attribute -/
inductive Pt where
  | ix (i : Int)
  | ky (k : Key)
  | fd (f : Str)
def O.kids : O → List O
  | .d _ => []
  | .lst os => os
  | .dk _ os => os
  | .ins _ _ os => os
def O.setKid : O → Nat → O → O
  | .d x, _, _ => .d x
  | .lst os, i, o => .lst (os.set i o)
  | .dk ks os, i, o => .dk ks (os.set i o)
  | .ins C fs os, i, o => .ins C fs (os.set i o)
def O.kidAt : O → Pt → Option Nat
  | .lst os, .ix i => ixN os.length i
  | .dk ks _, .ky k => ks.findIdx? (fun x => decide (x = k))
  | .ins _ fs _, .fd f => fs.findIdx? (fun x => decide (x = f))
  | _, _ => none
def O.get : O → List Pt → Option O
  | o, [] => some o
  | o, p :: π => (o.kidAt p).bind fun i => (o.kids[i]?).bind fun c => c.get π
termination_by structural _ π => π
def O.put : O → List Pt → O → Option O
  | _, [], n => some n
  | o, p :: π, n => (o.kidAt p).bind fun i => (o.kids[i]?).bind fun c => (c.put π n).map fun c' => o.setKid i c'
termination_by structural _ π _ => π
/-- the way of places in the heap -/
inductive Way (H : Hp) : V → List Pt → V → Prop
  | nil (v : V) : Way H v [] v
  | ix {a : Addr} {xs : List V} {i : Int} {x v : V} {π : List Pt} : H a = some (.lst xs) → atI xs i = some x → Way H x π v → Way H (.ref a) (.ix i :: π) v
  | ky {a : Addr} {kvs : List (Key × V)} {k : Key} {x v : V} {π : List Pt} : H a = some (.dK kvs) → valV kvs k = some x → Way H x π v → Way H (.ref a) (.ky k :: π) v
  | fd {a dx C : Addr} {fs : List (Str × V)} {f : Str} {x v : V} {π : List Pt} : H a = some (.ins C dx fs) → fs.lookup f = some x → Way H x π v → Way H (.ref a) (.fd f :: π) v
theorem valV_at {kvs : List (Key × V)} {k : Key} : ∀ {n : Nat} {x : V}, (kvs.map (·.1)).findIdx? (fun y => decide (y = k)) = some n → (kvs.map (·.2))[n]? = some x → valV kvs k = some x := by
  induction kvs with
  | nil => intro n x h; simp at h
  | cons p r ih =>
    intro n x h e
    by_cases hp : p.1 = k
    · rw [List.map_cons, List.findIdx?_cons, if_pos (by simp [hp])] at h
      cases h
      simp at e
      rw [valV_pos hp, e]
    · rw [List.map_cons, List.findIdx?_cons, if_neg (by simp [hp])] at h
      obtain ⟨m, hm, rfl⟩ := Option.map_eq_some_iff.mp h
      rw [valV_neg hp]
      exact ih hm (by simpa using e)
theorem look_at {fs : List (Str × V)} {k : Str} : ∀ {n : Nat} {x : V}, (fs.map (·.1)).findIdx? (fun y => decide (y = k)) = some n → (fs.map (·.2))[n]? = some x → fs.lookup k = some x := by
  induction fs with
  | nil => intro n x h; simp at h
  | cons p r ih =>
    intro n x h e
    obtain ⟨g, y⟩ := p
    by_cases hp : g = k
    · rw [List.map_cons, List.findIdx?_cons, if_pos (by simp [hp])] at h
      cases h
      simp at e
      have hb : (k == g) = true := beq_iff_eq.mpr hp.symm
      simp only [List.lookup, hb, e]
    · rw [List.map_cons, List.findIdx?_cons, if_neg (by simp [hp])] at h
      obtain ⟨m, hm, rfl⟩ := Option.map_eq_some_iff.mp h
      have hb : (k == g) = false := beq_eq_false_iff_ne.mpr fun z => hp z.symm
      simp only [List.lookup, hb]
      exact ih hm (by simpa using e)
section
variable {K : PySem.W.Frag} {Z H : Hp}
theorem set_self {α : Type} {xs : List α} {i : Nat} {x : α} (h : xs[i]? = some x) : xs.set i x = xs := by
  apply List.ext_getElem?
  intro j
  by_cases hj : i = j
  · subst hj
    rw [List.getElem?_set_self (List.getElem?_eq_some_iff.mp h).1, h]
  · rw [List.getElem?_set_ne hj]
/-- a place in an owned tree: what stands there, and the tree with another thing in its place -/
theorem Ow.focus : ∀ {π : List Pt} {o n : O} {v : V} {F : List Addr}, Ow K Z H o v F → o.get π = some n → ∃ v' A F' B, Way H v π v' ∧ F = A ++ F' ++ B ∧ Ow K Z H n v' F' ∧
    ∀ {Z' H' : Hp} {n' : O} {F'' : List Addr}, Same Z Z' → (∀ b, b ∈ A ∨ b ∈ B → H' b = H b ∧ Z' b = none) → Ow K Z' H' n' v' F'' → ∃ o', o.put π n' = some o' ∧ Ow K Z' H' o' v (A ++ F'' ++ B)
  | [], o, n, v, F, h, e => by
    cases e
    exact ⟨v, [], F, [], .nil v, by simp, h, fun {Z' H' n' F''} _ _ g => ⟨n', rfl, by simpa using g⟩⟩
  | p :: π, o, n, v, F, h, e => by
    have e : ((o.kidAt p).bind fun i => (o.kids[i]?).bind fun c => c.get π) = some n := e
    obtain ⟨i, hi, e2⟩ := Option.bind_eq_some_iff.mp e
    obtain ⟨c, hc, e3⟩ := Option.bind_eq_some_iff.mp e2
    have pt : ∀ n', o.put (p :: π) n' = (c.put π n').map fun c' => o.setKid i c' := fun n' => by
      show ((o.kidAt p).bind fun i => (o.kids[i]?).bind fun c => (c.put π n').map fun c' => o.setKid i c') = _
      rw [hi, Option.bind_some, hc, Option.bind_some]
    cases o with
    | d x => cases p <;> cases hi
    | lst os =>
      cases p with
      | ix j =>
        obtain ⟨a, xs, F0, rfl, h2, h3, rfl, h5⟩ := Ow.lst_iff.mp h
        obtain ⟨x, A, F1, B, hx, rfl, hox, hk⟩ := h5.split (i := i) (o := c) hc
        obtain ⟨v', A', F', B', w, rfl, hn, hput⟩ := Ow.focus hox e3
        refine ⟨v', a :: (A ++ A'), F', B' ++ B, .ix h2 ?_ w, by simp [List.append_assoc], hn, fun {Z' H' n' F''} ez hb g => ?_⟩
        · have hi : ixN os.length j = some i := hi
          unfold atI
          rw [h5.length, hi]
          exact hx
        · obtain ⟨c', hc', hoc⟩ := hput ez (fun b hb' => hb b (hb'.imp (fun q => by simp [q]) fun q => by simp [q])) g
          refine ⟨.lst (os.set i c'), by rw [pt, hc']; rfl, ?_⟩
          have q := hk (x' := x) ez (fun b hb' => hb b (hb'.imp (fun q => by simp [q]) fun q => by simp [q])) hoc
          rw [set_self hx] at q
          obtain ⟨p1, p2⟩ := hb a (.inl (by simp))
          exact Ow.lst_iff.mpr ⟨a, xs, _, rfl, p1.trans h2, p2, by simp [List.append_assoc], q⟩
      | ky _ => cases hi
      | fd _ => cases hi
    | dk ks os =>
      cases p with
      | ky k =>
        obtain ⟨a, kvs, F0, rfl, h2, h3, rfl, h5, hnd, h6⟩ := Ow.dk_iff.mp h
        obtain ⟨x, A, F1, B, hx, rfl, hox, hk⟩ := h6.split (i := i) (o := c) hc
        obtain ⟨v', A', F', B', w, rfl, hn, hput⟩ := Ow.focus hox e3
        refine ⟨v', a :: (A ++ A'), F', B' ++ B, .ky h2 ?_ w, by simp [List.append_assoc], hn, fun {Z' H' n' F''} ez hb g => ?_⟩
        · have hi : ks.findIdx? (fun y => decide (y = k)) = some i := hi
          rw [← h5] at hi
          exact valV_at hi hx
        · obtain ⟨c', hc', hoc⟩ := hput ez (fun b hb' => hb b (hb'.imp (fun q => by simp [q]) fun q => by simp [q])) g
          refine ⟨.dk ks (os.set i c'), by rw [pt, hc']; rfl, ?_⟩
          have q := hk (x' := x) ez (fun b hb' => hb b (hb'.imp (fun q => by simp [q]) fun q => by simp [q])) hoc
          rw [set_self hx] at q
          obtain ⟨p1, p2⟩ := hb a (.inl (by simp))
          exact Ow.dk_iff.mpr ⟨a, kvs, _, rfl, p1.trans h2, p2, by simp [List.append_assoc], h5, hnd, q⟩
      | ix _ => cases hi
      | fd _ => cases hi
    | ins C fs os =>
      cases p with
      | fd k =>
        obtain ⟨a, dx, kvs, F0, rfl, h2, h3, rfl, h5, h6⟩ := Ow.ins_iff.mp h
        obtain ⟨x, A, F1, B, hx, rfl, hox, hk⟩ := h6.split (i := i) (o := c) hc
        obtain ⟨v', A', F', B', w, rfl, hn, hput⟩ := Ow.focus hox e3
        refine ⟨v', a :: (A ++ A'), F', B' ++ B, .fd h2 ?_ w, by simp [List.append_assoc], hn, fun {Z' H' n' F''} ez hb g => ?_⟩
        · have hi : fs.findIdx? (fun y => decide (y = k)) = some i := hi
          rw [← h5] at hi
          exact look_at hi hx
        · obtain ⟨c', hc', hoc⟩ := hput ez (fun b hb' => hb b (hb'.imp (fun q => by simp [q]) fun q => by simp [q])) g
          refine ⟨.ins C fs (os.set i c'), by rw [pt, hc']; rfl, ?_⟩
          have q := hk (x' := x) ez (fun b hb' => hb b (hb'.imp (fun q => by simp [q]) fun q => by simp [q])) hoc
          rw [set_self hx] at q
          obtain ⟨p1, p2⟩ := hb a (.inl (by simp))
          exact Ow.ins_iff.mpr ⟨a, dx, kvs, _, rfl, p1.trans h2, p2, by simp [List.append_assoc], h5, q⟩
      | ix _ => cases hi
      | ky _ => cases hi
end
/-! ### a frame's state -/
abbrev Env := List (Option O)
structure S where
  Z : Hp
  H : Hp
  σ : L2.St
  ρ : Env
  Fs : Nat → List Addr
structure Rep (K : PySem.W.Frag) (s : S) : Prop where
  zh : Same s.Z s.H
  len : s.σ.length = s.ρ.length
  own : ∀ (i : Nat) (o : O), s.ρ[i]? = some (some o) → ∃ v, s.σ[i]? = some (some v) ∧ Ow K s.Z s.H o v (s.Fs i)
  emp : ∀ i : Nat, (∀ o, s.ρ[i]? ≠ some (some o)) → s.Fs i = []
  nd : ∀ i, (s.Fs i).Nodup
  dj : ∀ i j b, i ≠ j → b ∈ s.Fs i → b ∉ s.Fs j
theorem Rep.st {K : PySem.W.Frag} {s : S} (R : Rep K s) {i : Nat} {b : Addr} (h : b ∈ s.Fs i) : s.Z b = none ∧ ∃ u, s.H b = some u := by
  cases e : s.ρ[i]? with
  | none => rw [R.emp i (by rw [e]; intro o q; cases q)] at h; cases h
  | some x =>
    cases x with
    | none => rw [R.emp i (by rw [e]; intro o q; cases q)] at h; cases h
    | some o =>
      obtain ⟨v, _, w⟩ := R.own i o e
      exact w.stands b h
/-- a step: P tells the slots whose trees may change -/
structure Nx (K : PySem.W.Frag) (P : Nat → Prop) (s s' : S) : Prop where
  rep : Rep K s'
  zz : Same s.Z s'.Z
  keep : ∀ b o, s.H b = some o → (∀ i, P i → b ∉ s.Fs i) → s'.H b = some o
  fix : ∀ i, ¬ P i → s'.Fs i = s.Fs i ∧ s'.ρ[i]? = s.ρ[i]?
  new : ∀ i b, b ∈ s'.Fs i → (∃ j, P j ∧ b ∈ s.Fs j) ∨ b ∈ s.Fs i ∨ s.H b = none
  znew : ∀ b, s.Z b = none → s'.Z b ≠ none → (∃ j, P j ∧ b ∈ s.Fs j) ∨ s.H b = none
section
variable {K : PySem.W.Frag} {P P' : Nat → Prop} {s s1 s2 : S}
theorem Nx.refl (R : Rep K s) : Nx K P s s := ⟨R, Same.refl _, fun _ _ h _ => h, fun _ _ => ⟨rfl, rfl⟩, fun _ _ h => .inr (.inl h), fun b h h' => absurd h h'⟩
theorem Nx.mono (n : Nx K P s s1) (h : ∀ i, P i → P' i) : Nx K P' s s1 :=
  ⟨n.rep, n.zz, fun b o e q => n.keep b o e fun i hi => q i (h i hi), fun i hi => n.fix i fun z => hi (h i z), fun i b e => (n.new i b e).imp (fun ⟨j, a, c⟩ => ⟨j, h j a, c⟩) id, fun b e e' => (n.znew b e e').imp (fun ⟨j, a, c⟩ => ⟨j, h j a, c⟩) id⟩
theorem Nx.none_back (n : Nx K P s s1) {b : Addr} (h : s1.H b = none) : (∃ j, P j ∧ b ∈ s.Fs j) ∨ s.H b = none := by
  by_cases q : ∃ j, P j ∧ b ∈ s.Fs j
  · exact .inl q
  · refine .inr ?_
    cases e : s.H b with
    | none => rfl
    | some o =>
      have := n.keep b o e fun i hi z => q ⟨i, hi, z⟩
      rw [h] at this; cases this
theorem Nx.trans (n : Nx K P s s1) (m : Nx K P s1 s2) : Nx K P s s2 where
  rep := m.rep
  zz := n.zz.trans m.zz
  keep := fun b o e q => m.keep b o (n.keep b o e q) fun i hi z => by
    rcases n.new i b z with ⟨j, hj, w⟩ | w | w
    · exact q j hj w
    · exact q i hi w
    · rw [e] at w; cases w
  fix := fun i hi => ⟨(m.fix i hi).1.trans (n.fix i hi).1, (m.fix i hi).2.trans (n.fix i hi).2⟩
  new := fun i b e => by
    rcases m.new i b e with ⟨j, hj, w⟩ | w | w
    · rcases n.new j b w with q | q | q
      · exact .inl q
      · exact .inl ⟨j, hj, q⟩
      · exact .inr (.inr q)
    · exact n.new i b w
    · rcases n.none_back w with q | q
      · exact .inl q
      · exact .inr (.inr q)
  znew := fun b e e' => by
    by_cases z : s1.Z b = none
    · rcases m.znew b z e' with ⟨j, hj, w⟩ | w
      · rcases n.new j b w with q | q | q
        · exact .inl q
        · exact .inl ⟨j, hj, q⟩
        · exact .inr q
      · exact n.none_back w
    · exact n.znew b e z
/-- what was unknown is unknown still, or of the changed -/
theorem Nx.own_fix (n : Nx K P s s1) (R : Rep K s) {i : Nat} (hi : ¬ P i) : ∀ b ∈ s.Fs i, s1.H b = s.H b ∧ s1.Z b = none := fun b hb => by
  have q : b ∈ s1.Fs i := by rw [(n.fix i hi).1]; exact hb
  obtain ⟨_, u, hu⟩ := R.st hb
  exact ⟨(n.keep b u hu fun j hj => R.dj i j b (fun e => hi (e ▸ hj)) hb).trans hu.symm, (n.rep.st q).1⟩
end
end Dat
/-! Dat2: the steps (new things, stored names, changed places), the judgements. -/
namespace Dat
open PySem PySem.Spec PyProof.Rows L2
section
variable {K : PySem.W.Frag} {P : Nat → Prop} {s s1 s2 : S}
theorem same_upd {H : Hp} {p : Addr} {u : HO} (h : H p = none) : Same H (upd H p u) := fun b o e => by rw [upd_ne (ne_of_none e h)]; exact e
theorem Rep.zn (R : Rep K s) {p : Addr} (h : s.H p = none) : s.Z p = none := R.zh.free h
theorem Rep.fn (R : Rep K s) {p : Addr} (h : s.H p = none) (i : Nat) : p ∉ s.Fs i := fun z => by
  obtain ⟨_, u, hu⟩ := R.st z
  rw [h] at hu; cases hu
/-- a new frozen thing -/
theorem Nx.alloc (R : Rep K s) {p : Addr} (u : HO) (hp : s.H p = none) : Nx K P s { s with Z := upd s.Z p u, H := upd s.H p u } where
  rep := by
    refine ⟨fun b o e => ?_, R.len, fun i o e => ?_, R.emp, R.nd, R.dj⟩
    · have e : upd s.Z p u b = some o := e
      show upd s.H p u b = some o
      by_cases h : b = p
      · subst h; rw [upd_same] at e ⊢; exact e
      · rw [upd_ne h] at e ⊢; exact R.zh b o e
    · obtain ⟨v, h1, h2⟩ := R.own i o e
      refine ⟨v, h1, h2.mono (same_upd (R.zn hp)) fun b hb => ?_⟩
      have nb : b ≠ p := fun z => R.fn hp i (z ▸ hb)
      exact ⟨upd_ne nb, by rw [upd_ne nb]; exact (R.st hb).1⟩
  zz := same_upd (R.zn hp)
  keep := fun b o e _ => same_upd hp b o e
  fix := fun _ _ => ⟨rfl, rfl⟩
  new := fun _ _ h => .inr (.inl h)
  znew := fun b e e' => by
    by_cases h : b = p
    · subst h; exact .inr hp
    · have e' : upd s.Z p u b ≠ none := e'
      rw [upd_ne h] at e'
      exact absurd e e'
/-- a new thing, not frozen -/
theorem Nx.allocO (R : Rep K s) {p : Addr} (u : HO) (hp : s.H p = none) : Nx K P s { s with H := upd s.H p u } where
  rep := by
    refine ⟨fun b o e => ?_, R.len, fun i o e => ?_, R.emp, R.nd, R.dj⟩
    · exact same_upd hp b o (R.zh b o e)
    · obtain ⟨v, h1, h2⟩ := R.own i o e
      refine ⟨v, h1, h2.mono (Same.refl _) fun b hb => ?_⟩
      have nb : b ≠ p := fun z => R.fn hp i (z ▸ hb)
      exact ⟨upd_ne nb, (R.st hb).1⟩
  zz := Same.refl _
  keep := fun b o e _ => same_upd hp b o e
  fix := fun _ _ => ⟨rfl, rfl⟩
  new := fun _ _ h => .inr (.inl h)
  znew := fun b e e' => absurd e e'
/-- an owned thing in hand, made on the way from s to s' -/
structure Tmp (K : PySem.W.Frag) (P : Nat → Prop) (s s' : S) (o : O) (v : V) (F : List Addr) : Prop where
  ow : Ow K s'.Z s'.H o v F
  nd : F.Nodup
  dj : ∀ i b, b ∈ F → b ∉ s'.Fs i
  new : ∀ b, b ∈ F → (∃ j, P j ∧ b ∈ s.Fs j) ∨ s.H b = none
theorem Tmp.d {d : D} {v : V} (h : Fr K s1.Z d v) : Tmp K P s s1 (.d d) v [] := ⟨Ow.d_iff.mpr ⟨rfl, h⟩, List.nodup_nil, fun _ _ h => absurd h (by simp), fun _ h => absurd h (by simp)⟩
theorem Nx.z_of (n : Nx K P s s1) {b : Addr} (h1 : s.Z b = none) (h2 : ∃ u, s.H b = some u) (h3 : ∀ i, b ∉ s.Fs i) : s1.H b = s.H b ∧ s1.Z b = none := by
  obtain ⟨u, hu⟩ := h2
  refine ⟨(n.keep b u hu fun i _ => h3 i).trans hu.symm, ?_⟩
  cases e : s1.Z b with
  | none => rfl
  | some q =>
    rcases n.znew b h1 (by rw [e]; intro z; cases z) with ⟨j, _, w⟩ | w
    · exact absurd w (h3 j)
    · rw [hu] at w; cases w
theorem Tmp.go {o : O} {v : V} {F : List Addr} (t : Tmp K P s s1 o v F) (n : Nx K P s1 s2) (m : Nx K P s s1) : Tmp K P s s2 o v F := by
  have hs := t.ow.stands
  refine ⟨t.ow.mono n.zz fun b hb => n.z_of (hs b hb).1 (hs b hb).2 fun i => t.dj i b hb, t.nd, fun i b hb z => ?_, t.new⟩
  rcases n.new i b z with ⟨j, _, w⟩ | w | w
  · exact t.dj j b hb w
  · exact t.dj i b hb w
  · obtain ⟨_, u, hu⟩ := hs b hb
    rw [hu] at w; cases w
theorem Tmp.base {o : O} {v : V} {F : List Addr} (t : Tmp K P s1 s2 o v F) (n : Nx K P s s1) : Tmp K P s s2 o v F := by
  refine ⟨t.ow, t.nd, t.dj, fun b hb => ?_⟩
  rcases t.new b hb with ⟨j, hj, w⟩ | w
  · rcases n.new j b w with q | q | q
    · exact .inl q
    · exact .inl ⟨j, hj, q⟩
    · exact .inr q
  · exact n.none_back w
theorem Tmp.mono {P' : Nat → Prop} {o : O} {v : V} {F : List Addr} (t : Tmp K P s s1 o v F) (h : ∀ i, P i → P' i) : Tmp K P' s s1 o v F := ⟨t.ow, t.nd, t.dj, fun b hb => (t.new b hb).imp (fun ⟨j, a, c⟩ => ⟨j, h j a, c⟩) id⟩
/-- a thing in hand is frozen -/
theorem Tmp.froz {o : O} {v : V} {F : List Addr} (R : Rep K s) (n : Nx K P s s1) (t : Tmp K P s s1 o v F) : ∃ s', Nx K P s s' ∧ s'.H = s1.H ∧ s'.σ = s1.σ ∧ s'.ρ = s1.ρ ∧ s'.Fs = s1.Fs ∧ Same s1.Z s'.Z ∧ Fr K s'.Z o.toD v := by
  have hs := t.ow.stands
  have R1 := n.rep
  let Z' : Hp := fun b => if b ∈ F then s1.H b else s1.Z b
  have zi : ∀ b ∈ F, Z' b = s1.H b := fun b hb => if_pos hb
  have zo : ∀ b, b ∉ F → Z' b = s1.Z b := fun b hb => if_neg hb
  have zz : Same s1.Z Z' := fun b u e => by
    by_cases hb : b ∈ F
    · rw [(hs b hb).1] at e; cases e
    · rw [zo b hb]; exact e
  refine ⟨{ s1 with Z := Z' }, ⟨⟨fun b u e => ?_, R1.len, fun i o' e => ?_, R1.emp, R1.nd, R1.dj⟩, n.zz.trans zz, n.keep, n.fix, n.new, fun b e e' => ?_⟩, rfl, rfl, rfl, rfl, zz, t.ow.froz zz zi⟩
  · have e : Z' b = some u := e
    by_cases hb : b ∈ F
    · rw [zi b hb] at e; exact e
    · rw [zo b hb] at e; exact R1.zh b u e
  · obtain ⟨w, h1, h2⟩ := R1.own i o' e
    refine ⟨w, h1, h2.mono zz fun b hb => ⟨rfl, ?_⟩⟩
    have nb : b ∉ F := fun z => t.dj i b z hb
    show Z' b = none
    rw [zo b nb]
    exact (R1.st hb).1
  · by_cases hb : b ∈ F
    · exact t.new b hb
    · have e' : Z' b ≠ none := e'
      rw [zo b hb] at e'
      exact n.znew b e e'
def setF (Fs : Nat → List Addr) (i : Nat) (F : List Addr) : Nat → List Addr := fun j => if j = i then F else Fs j
theorem setF_same {Fs : Nat → List Addr} {i : Nat} {F : List Addr} : setF Fs i F i = F := if_pos rfl
theorem setF_ne {Fs : Nat → List Addr} {i j : Nat} {F : List Addr} (h : j ≠ i) : setF Fs i F j = Fs j := if_neg h
/-- a name is given the thing in hand -/
theorem Nx.set {o : O} {v : V} {F : List Addr} {i : Nat} (n : Nx K P s s1) (t : Tmp K P s s1 o v F) (hP : P i) (hi : i < s1.ρ.length) :
    Nx K P s { s1 with σ := s1.σ.set i (some v), ρ := s1.ρ.set i (some o), Fs := setF s1.Fs i F } := by
  have R1 := n.rep
  have hi' : i < s1.σ.length := by rw [R1.len]; exact hi
  refine ⟨⟨R1.zh, by simp [R1.len], fun j o' e => ?_, fun j h => ?_, fun j => ?_, fun j k b hjk h1 h2 => ?_⟩, n.zz, n.keep, fun j hj => ?_, fun j b hb => ?_, n.znew⟩
  · have e : (s1.ρ.set i (some o))[j]? = some (some o') := e
    by_cases hj : j = i
    · subst hj
      rw [List.getElem?_set_self hi] at e
      cases e
      refine ⟨v, List.getElem?_set_self hi', ?_⟩
      show Ow K s1.Z s1.H o v (setF s1.Fs j F j)
      rw [setF_same]; exact t.ow
    · rw [List.getElem?_set_ne (Ne.symm hj)] at e
      obtain ⟨w, h1, h2⟩ := R1.own j o' e
      refine ⟨w, (List.getElem?_set_ne (Ne.symm hj)).trans h1, ?_⟩
      show Ow K s1.Z s1.H o' w (setF s1.Fs i F j)
      rw [setF_ne hj]; exact h2
  · by_cases hj : j = i
    · subst hj
      exact absurd (List.getElem?_set_self hi) (h o)
    · show setF s1.Fs i F j = []
      rw [setF_ne hj]
      exact R1.emp j fun o' e => h o' ((List.getElem?_set_ne (Ne.symm hj)).trans e)
  · show (setF s1.Fs i F j).Nodup
    by_cases hj : j = i
    · subst hj; rw [setF_same]; exact t.nd
    · rw [setF_ne hj]; exact R1.nd j
  · have g1 : b ∈ setF s1.Fs i F j := h1
    have g2 : b ∈ setF s1.Fs i F k := h2
    by_cases hj : j = i
    · subst hj
      rw [setF_same] at g1
      rw [setF_ne (Ne.symm hjk)] at g2
      exact t.dj k b g1 g2
    · rw [setF_ne hj] at g1
      by_cases hk : k = i
      · subst hk
        rw [setF_same] at g2
        exact t.dj j b g2 g1
      · rw [setF_ne hk] at g2
        exact R1.dj j k b hjk g1 g2
  · have hji : j ≠ i := fun z => hj (z ▸ hP)
    exact ⟨(setF_ne hji).trans (n.fix j hj).1, (List.getElem?_set_ne (Ne.symm hji)).trans (n.fix j hj).2⟩
  · have hb : b ∈ setF s1.Fs i F j := hb
    by_cases hj : j = i
    · subst hj
      rw [setF_same] at hb
      rcases t.new b hb with q | q
      · exact .inl q
      · exact .inr (.inr q)
    · rw [setF_ne hj] at hb
      exact n.new j b hb
/-- a place in a slot's tree: what stands there, and a step that puts another thing there -/
theorem Rep.focus (R : Rep K s) {i : Nat} {o n : O} {π : List Pt} (hi : P i) (ho : s.ρ[i]? = some (some o)) (hg : o.get π = some n) :
    ∃ v v' F', s.σ[i]? = some (some v) ∧ Way s.H v π v' ∧ Ow K s.Z s.H n v' F' ∧ F'.Nodup ∧ (∀ b ∈ F', b ∈ s.Fs i) ∧
      ∀ {Z' H' : Hp} {n' : O} {F'' : List Addr}, Same s.Z Z' → Same Z' H' → (∀ b u, s.H b = some u → b ∉ F' → H' b = some u) → (∀ b, s.Z b = none → Z' b ≠ none → b ∈ F' ∨ s.H b = none) →
        Ow K Z' H' n' v' F'' → F''.Nodup → (∀ b ∈ F'', b ∈ F' ∨ s.H b = none) → ∃ o' F, o.put π n' = some o' ∧ Nx K P s { Z := Z', H := H', σ := s.σ, ρ := s.ρ.set i (some o'), Fs := setF s.Fs i F } := by
  obtain ⟨v, hv, w⟩ := R.own i o ho
  obtain ⟨v', A, F', B, hw, hF, hn, hput⟩ := w.focus hg
  have hnd := R.nd i
  rw [hF] at hnd
  have hlt : i < s.ρ.length := (List.getElem?_eq_some_iff.mp ho).1
  have d1 := List.nodup_append.mp hnd
  have d2 := List.nodup_append.mp d1.1
  have inA : ∀ b, b ∈ A ∨ b ∈ B → b ∈ s.Fs i ∧ b ∉ F' := fun b hb => by
    rcases hb with hb | hb
    · exact ⟨by rw [hF]; simp [hb], fun z => d2.2.2 b hb b z rfl⟩
    · exact ⟨by rw [hF]; simp [hb], fun z => d1.2.2 b (List.mem_append_right _ z) b hb rfl⟩
  refine ⟨v, v', F', hv, hw, hn, d2.2.1, fun b hb => by rw [hF]; simp [hb], fun {Z' H' n' F''} zz zh keep znew g nd'' new'' => ?_⟩
  have stay : ∀ b j, b ∈ s.Fs j → b ∉ F' → H' b = s.H b ∧ Z' b = none := fun b j hb nb => by
    obtain ⟨z, u, hu⟩ := R.st hb
    refine ⟨(keep b u hu nb).trans hu.symm, ?_⟩
    cases e : Z' b with
    | none => rfl
    | some q =>
      rcases znew b z (by rw [e]; intro h; cases h) with h | h
      · exact absurd h nb
      · rw [hu] at h; cases h
  obtain ⟨o', ho', q⟩ := hput zz (fun b hb => stay b i (inA b hb).1 (inA b hb).2) g
  have inF : ∀ j b, j ≠ i → b ∈ s.Fs j → b ∉ F' := fun j b hj hb z => R.dj j i b hj hb (by rw [hF]; simp [z])
  have newF : ∀ b, b ∈ A ++ F'' ++ B → b ∈ s.Fs i ∨ s.H b = none := fun b hb => by
    rcases List.mem_append.mp hb with hb | hb
    · rcases List.mem_append.mp hb with hb | hb
      · exact .inl (inA b (.inl hb)).1
      · rcases new'' b hb with h | h
        · exact .inl (by rw [hF]; simp [h])
        · exact .inr h
    · exact .inl (inA b (.inr hb)).1
  refine ⟨o', A ++ F'' ++ B, ho', ⟨⟨zh, by simp [R.len], fun j p e => ?_, fun j h => ?_, fun j => ?_, fun j k b hjk h1 h2 => ?_⟩, zz, fun b u e hb => ?_, fun j hj => ?_, fun j b hb => ?_, fun b e e' => ?_⟩⟩
  · have e : (s.ρ.set i (some o'))[j]? = some (some p) := e
    by_cases hj : j = i
    · subst hj
      rw [List.getElem?_set_self hlt] at e
      cases e
      refine ⟨v, hv, ?_⟩
      show Ow K Z' H' o' v (setF s.Fs j (A ++ F'' ++ B) j)
      rw [setF_same]; exact q
    · rw [List.getElem?_set_ne (Ne.symm hj)] at e
      obtain ⟨w', h1, h2⟩ := R.own j p e
      refine ⟨w', h1, ?_⟩
      show Ow K Z' H' p w' (setF s.Fs i (A ++ F'' ++ B) j)
      rw [setF_ne hj]; exact h2.mono zz fun b hb => stay b j hb (inF j b hj hb)
  · by_cases hj : j = i
    · subst hj
      exact absurd (List.getElem?_set_self hlt) (h o')
    · show setF s.Fs i (A ++ F'' ++ B) j = []
      rw [setF_ne hj]
      exact R.emp j fun p e => h p ((List.getElem?_set_ne (Ne.symm hj)).trans e)
  · show (setF s.Fs i (A ++ F'' ++ B) j).Nodup
    by_cases hj : j = i
    · subst hj
      rw [setF_same]
      have nf : ∀ b, b ∈ A ∨ b ∈ B → b ∉ F'' := fun b hb z => by
        rcases new'' b z with h | h
        · exact (inA b hb).2 h
        · exact R.fn h j (inA b hb).1
      refine List.nodup_append.mpr ⟨List.nodup_append.mpr ⟨d2.1, nd'', fun a ha b hb e => nf a (.inl ha) (e ▸ hb)⟩, d1.2.1, fun a ha b hb e => ?_⟩
      rcases List.mem_append.mp ha with ha | ha
      · exact d1.2.2 a (List.mem_append_left _ ha) b hb e
      · exact nf b (.inr hb) (e ▸ ha)
    · rw [setF_ne hj]; exact R.nd j
  · have key : ∀ m l, m ≠ l → l = i → b ∈ setF s.Fs i (A ++ F'' ++ B) m → b ∈ setF s.Fs i (A ++ F'' ++ B) l → False := fun m l hml hl m1 m2 => by
      subst hl
      rw [setF_ne hml] at m1
      rw [setF_same] at m2
      rcases newF b m2 with h | h
      · exact R.dj m l b hml m1 h
      · exact R.fn h m m1
    by_cases hj : j = i
    · exact key k j (Ne.symm hjk) hj h2 h1
    · by_cases hk : k = i
      · exact key j k hjk hk h1 h2
      · have h1 : b ∈ setF s.Fs i (A ++ F'' ++ B) j := h1
        have h2 : b ∈ setF s.Fs i (A ++ F'' ++ B) k := h2
        rw [setF_ne hj] at h1
        rw [setF_ne hk] at h2
        exact R.dj j k b hjk h1 h2
  · exact keep b u e fun z => hb i hi (by rw [hF]; simp [z])
  · have hj' : j ≠ i := fun z => hj (z ▸ hi)
    exact ⟨setF_ne hj', List.getElem?_set_ne (Ne.symm hj')⟩
  · have hb : b ∈ setF s.Fs i (A ++ F'' ++ B) j := hb
    by_cases hj : j = i
    · subst hj
      rw [setF_same] at hb
      rcases newF b hb with h | h
      · exact .inl ⟨j, hi, h⟩
      · exact .inr (.inr h)
    · rw [setF_ne hj] at hb
      exact .inr (.inl hb)
  · rcases znew b e e' with h | h
    · exact .inl ⟨i, hi, by rw [hF]; simp [h]⟩
    · exact .inr h
/-- a place in a slot's tree: what stands there, and a step that puts another thing there -/
theorem Rep.focusT {s0 : S} {G : Addr → Prop} (nx : Nx K P s0 s) (hG : ∀ b, G b → (∀ i, b ∉ s.Fs i) ∧ ((∃ j, P j ∧ b ∈ s0.Fs j) ∨ s0.H b = none)) {i : Nat} {o n : O} {π : List Pt} (hi : P i) (ho : s.ρ[i]? = some (some o)) (hg : o.get π = some n) :
    ∃ v v' F', s.σ[i]? = some (some v) ∧ Way s.H v π v' ∧ Ow K s.Z s.H n v' F' ∧ F'.Nodup ∧ (∀ b ∈ F', b ∈ s.Fs i) ∧
      ∀ {Z' H' : Hp} {n' : O} {F'' : List Addr}, Same s.Z Z' → Same Z' H' → (∀ b u, s.H b = some u → b ∉ F' → ¬ G b → H' b = some u) → (∀ b, s.Z b = none → Z' b ≠ none → b ∈ F' ∨ s.H b = none ∨ G b) →
        Ow K Z' H' n' v' F'' → F''.Nodup → (∀ b ∈ F'', b ∈ F' ∨ s.H b = none ∨ G b) → ∃ o' F, o.put π n' = some o' ∧ Nx K P s0 { Z := Z', H := H', σ := s.σ, ρ := s.ρ.set i (some o'), Fs := setF s.Fs i F } := by
  have R := nx.rep
  obtain ⟨v, hv, w⟩ := R.own i o ho
  obtain ⟨v', A, F', B, hw, hF, hn, hput⟩ := w.focus hg
  have hnd := R.nd i
  rw [hF] at hnd
  have hlt : i < s.ρ.length := (List.getElem?_eq_some_iff.mp ho).1
  have d1 := List.nodup_append.mp hnd
  have d2 := List.nodup_append.mp d1.1
  have inA : ∀ b, b ∈ A ∨ b ∈ B → b ∈ s.Fs i ∧ b ∉ F' := fun b hb => by
    rcases hb with hb | hb
    · exact ⟨by rw [hF]; simp [hb], fun z => d2.2.2 b hb b z rfl⟩
    · exact ⟨by rw [hF]; simp [hb], fun z => d1.2.2 b (List.mem_append_right _ z) b hb rfl⟩
  refine ⟨v, v', F', hv, hw, hn, d2.2.1, fun b hb => by rw [hF]; simp [hb], fun {Z' H' n' F''} zz zh keep znew g nd'' new'' => ?_⟩
  have stay : ∀ b j, b ∈ s.Fs j → b ∉ F' → H' b = s.H b ∧ Z' b = none := fun b j hb nb => by
    obtain ⟨z, u, hu⟩ := R.st hb
    refine ⟨(keep b u hu nb fun g => (hG b g).1 j hb).trans hu.symm, ?_⟩
    cases e : Z' b with
    | none => rfl
    | some q =>
      rcases znew b z (by rw [e]; intro h; cases h) with h | h | h
      · exact absurd h nb
      · rw [hu] at h; cases h
      · exact absurd hb ((hG b h).1 j)
  obtain ⟨o', ho', q⟩ := hput zz (fun b hb => stay b i (inA b hb).1 (inA b hb).2) g
  have inF : ∀ j b, j ≠ i → b ∈ s.Fs j → b ∉ F' := fun j b hj hb z => R.dj j i b hj hb (by rw [hF]; simp [z])
  have newF : ∀ b, b ∈ A ++ F'' ++ B → b ∈ s.Fs i ∨ s.H b = none ∨ G b := fun b hb => by
    rcases List.mem_append.mp hb with hb | hb
    · rcases List.mem_append.mp hb with hb | hb
      · exact .inl (inA b (.inl hb)).1
      · rcases new'' b hb with h | h
        · exact .inl (by rw [hF]; simp [h])
        · exact .inr h
    · exact .inl (inA b (.inr hb)).1
  refine ⟨o', A ++ F'' ++ B, ho', ⟨⟨zh, by simp [R.len], fun j p e => ?_, fun j h => ?_, fun j => ?_, fun j k b hjk h1 h2 => ?_⟩, nx.zz.trans zz, fun b u e hb => ?_, fun j hj => ?_, fun j b hb => ?_, fun b e e' => ?_⟩⟩
  · have e : (s.ρ.set i (some o'))[j]? = some (some p) := e
    by_cases hj : j = i
    · subst hj
      rw [List.getElem?_set_self hlt] at e
      cases e
      refine ⟨v, hv, ?_⟩
      show Ow K Z' H' o' v (setF s.Fs j (A ++ F'' ++ B) j)
      rw [setF_same]; exact q
    · rw [List.getElem?_set_ne (Ne.symm hj)] at e
      obtain ⟨w', h1, h2⟩ := R.own j p e
      refine ⟨w', h1, ?_⟩
      show Ow K Z' H' p w' (setF s.Fs i (A ++ F'' ++ B) j)
      rw [setF_ne hj]; exact h2.mono zz fun b hb => stay b j hb (inF j b hj hb)
  · by_cases hj : j = i
    · subst hj
      exact absurd (List.getElem?_set_self hlt) (h o')
    · show setF s.Fs i (A ++ F'' ++ B) j = []
      rw [setF_ne hj]
      exact R.emp j fun p e => h p ((List.getElem?_set_ne (Ne.symm hj)).trans e)
  · show (setF s.Fs i (A ++ F'' ++ B) j).Nodup
    by_cases hj : j = i
    · subst hj
      rw [setF_same]
      have nf : ∀ b, b ∈ A ∨ b ∈ B → b ∉ F'' := fun b hb z => by
        rcases new'' b z with h | h | h
        · exact (inA b hb).2 h
        · exact R.fn h j (inA b hb).1
        · exact (hG b h).1 j (inA b hb).1
      refine List.nodup_append.mpr ⟨List.nodup_append.mpr ⟨d2.1, nd'', fun a ha b hb e => nf a (.inl ha) (e ▸ hb)⟩, d1.2.1, fun a ha b hb e => ?_⟩
      rcases List.mem_append.mp ha with ha | ha
      · exact d1.2.2 a (List.mem_append_left _ ha) b hb e
      · exact nf b (.inr hb) (e ▸ ha)
    · rw [setF_ne hj]; exact R.nd j
  · have key : ∀ m l, m ≠ l → l = i → b ∈ setF s.Fs i (A ++ F'' ++ B) m → b ∈ setF s.Fs i (A ++ F'' ++ B) l → False := fun m l hml hl m1 m2 => by
      subst hl
      rw [setF_ne hml] at m1
      rw [setF_same] at m2
      rcases newF b m2 with h | h | h
      · exact R.dj m l b hml m1 h
      · exact R.fn h m m1
      · exact (hG b h).1 m m1
    by_cases hj : j = i
    · exact key k j (Ne.symm hjk) hj h2 h1
    · by_cases hk : k = i
      · exact key j k hjk hk h1 h2
      · have h1 : b ∈ setF s.Fs i (A ++ F'' ++ B) j := h1
        have h2 : b ∈ setF s.Fs i (A ++ F'' ++ B) k := h2
        rw [setF_ne hj] at h1
        rw [setF_ne hk] at h2
        exact R.dj j k b hjk h1 h2
  · have hk := nx.keep b u e hb
    refine keep b u hk (fun z => ?_) fun g => ?_
    · rcases nx.new i b (by rw [hF]; simp [z]) with ⟨j, hj, w⟩ | w | w
      · exact hb j hj w
      · exact hb i hi w
      · rw [e] at w; cases w
    · rcases (hG b g).2 with ⟨j, hj, w⟩ | w
      · exact hb j hj w
      · rw [e] at w; cases w
  · have hj' : j ≠ i := fun z => hj (z ▸ hi)
    exact ⟨(setF_ne hj').trans (nx.fix j hj).1, (List.getElem?_set_ne (Ne.symm hj')).trans (nx.fix j hj).2⟩
  · have hb : b ∈ setF s.Fs i (A ++ F'' ++ B) j := hb
    by_cases hj : j = i
    · subst hj
      rw [setF_same] at hb
      rcases newF b hb with h | h | h
      · exact nx.new j b h
      · rcases nx.none_back h with q | q
        · exact .inl q
        · exact .inr (.inr q)
      · rcases (hG b h).2 with q | q
        · exact .inl q
        · exact .inr (.inr q)
    · rw [setF_ne hj] at hb
      exact nx.new j b hb
  · by_cases z : s.Z b = none
    · rcases znew b z e' with h | h | h
      · rcases nx.new i b (by rw [hF]; simp [h]) with q | q | q
        · exact .inl q
        · exact .inl ⟨i, hi, q⟩
        · exact .inr q
      · exact nx.none_back h
      · exact (hG b h).2
    · exact nx.znew b e z
end
end Dat
/-! Dat3: what an expression does to slots, as a function; that its reading follows. -/
namespace Dat
open PySem PySem.Spec PyProof.Rows L2
/-- an error: its class, what it is made with -/
structure Xc where
  C : Addr
  what : D
abbrev Mo (α : Type) := Env → Option (Except Xc α × Env)
def rPure {α : Type} (a : α) : Mo α := fun ρ => some (.ok a, ρ)
def rBind {α β : Type} (m : Mo α) (f : α → Mo β) : Mo β := fun ρ => match m ρ with
  | none => none
  | some (.error x, ρ1) => some (.error x, ρ1)
  | some (.ok a, ρ1) => f a ρ1
def rOpt {α : Type} (a : Option α) : Mo α := fun ρ => match a with
  | none => none
  | some d => some (.ok d, ρ)
section
variable (K : PySem.W.Frag) (E : XK)
def ExEv (P : Nat → Prop) (s : S) (x : Xc) (ρ' : Env) : Prop :=
  ∀ v dx s', Nx K P s s' → s'.σ = s.σ → s'.ρ = ρ' → s'.Z dx = some (.xd [("what", v)]) → Fr K s'.Z x.what v → E (.ref x.C) (some dx) s'.H
def SimAt {α β : Type} (ms : List Nat) (Rel : S → α → β → Prop) (t : L2.St → Hp → (β → Hp → Prop) → Prop) (m : Mo α) (s : S) : Prop :=
  ∀ r ρ', m s.ρ = some (r, ρ') → ∀ Q : β → Hp → Prop, (∀ a, r = .ok a → ∀ b s', Nx K (· ∈ ms) s s' → s'.σ = s.σ → s'.ρ = ρ' → Rel s' a b → Q b s'.H) →
    (∀ x, r = .error x → ExEv K E (· ∈ ms) s x ρ') → t s.σ s.H Q
def SimG {α β : Type} (ms : List Nat) (Rel : S → α → β → Prop) (t : L2.St → Hp → (β → Hp → Prop) → Prop) (m : Mo α) : Prop := ∀ s, Rep K s → SimAt K E ms Rel t m s
def RelE (s : S) (d : D) (v : V) : Prop := Fr K s.Z d v
def RelL (s : S) (ds : List D) (vs : List V) : Prop := FrL K s.Z ds vs
abbrev SimE (ms : List Nat) (t : TE) (m : Mo D) : Prop := SimG K E ms (RelE K) t m
abbrev SimL (ms : List Nat) (t : TA) (m : Mo (List D)) : Prop := SimG K E ms (RelL K) t m
abbrev SimT (ms : List Nat) (t : TT) (m : Mo Bool) : Prop := SimG K E ms (fun _ a b => a = b) t m
/-- what may be read as data: frozen, or an owned list or dict of frozen things -/
def Sh (Z H : Hp) (d : D) (v : V) : Prop := Fr K Z d v ∨ (∃ a xs ds, v = .ref a ∧ d = .lst ds ∧ H a = some (.lst xs) ∧ FrL K Z ds xs) ∨
  (∃ a kvs ks ds, v = .ref a ∧ d = .dk ks ds ∧ H a = some (.dK kvs) ∧ kvs.map (·.1) = ks ∧ ks.Nodup ∧ FrL K Z ds (kvs.map (·.2)))
def RelV' (s : S) (d : D) (v : V) : Prop := Sh K s.Z s.H d v
abbrev SimV (ms : List Nat) (t : TE) (m : Mo D) : Prop := SimG K E ms (RelV' K) t m
/-- only new things -/
structure Ext (Z H Z' H' : Hp) : Prop where
  zz : Same Z Z'
  zh : Same Z' H'
  hh : Same H H'
  new : ∀ b, Z b = none → Z' b ≠ none → H b = none
end
theorem Ext.refl {Z H : Hp} (h : Same Z H) : Ext Z H Z H := ⟨Same.refl _, h, Same.refl _, fun b a c => absurd a c⟩
theorem Ext.alloc {Z H : Hp} (h : Same Z H) {p : Addr} (u : HO) (hp : H p = none) : Ext Z H (upd Z p u) (upd H p u) := by
  refine ⟨same_upd (h.free hp), fun b o e => ?_, same_upd hp, fun b e e' => ?_⟩
  · by_cases hb : b = p
    · subst hb; rw [upd_same] at e ⊢; exact e
    · rw [upd_ne hb] at e ⊢; exact h b o e
  · by_cases hb : b = p
    · subst hb; exact hp
    · rw [upd_ne hb] at e'; exact absurd e e'
theorem Ext.trans {Z H Z1 H1 Z2 H2 : Hp} (a : Ext Z H Z1 H1) (b : Ext Z1 H1 Z2 H2) : Ext Z H Z2 H2 := by
  refine ⟨a.zz.trans b.zz, b.zh, a.hh.trans b.hh, fun c e e' => ?_⟩
  by_cases h : Z1 c = none
  · exact a.hh.free (b.new c h e')
  · exact a.new c e h
theorem Ext.nx {K : PySem.W.Frag} {P : Nat → Prop} {s : S} (R : Rep K s) {Z' H' : Hp} (x : Ext s.Z s.H Z' H') : Nx K P s { s with Z := Z', H := H' } where
  rep := by
    refine ⟨x.zh, R.len, fun i o e => ?_, R.emp, R.nd, R.dj⟩
    obtain ⟨v, h1, h2⟩ := R.own i o e
    refine ⟨v, h1, h2.mono x.zz fun b hb => ?_⟩
    obtain ⟨z, u, hu⟩ := R.st hb
    refine ⟨(x.hh b u hu).trans hu.symm, ?_⟩
    cases e : Z' b with
    | none => rfl
    | some q =>
      have := x.new b z (by rw [e]; intro h; cases h)
      rw [hu] at this; cases this
  zz := x.zz
  keep := fun b o e _ => x.hh b o e
  fix := fun _ _ => ⟨rfl, rfl⟩
  new := fun _ _ h => .inr (.inl h)
  znew := fun b e e' => .inr (x.new b e e')
section
variable {K : PySem.W.Frag} {E : XK} {ms ms1 ms2 : List Nat}
theorem ExEv.base {P : Nat → Prop} {s s1 : S} {x : Xc} {ρ' : Env} (n : Nx K P s s1) (hs : s1.σ = s.σ) (h : ExEv K E P s x ρ') : ExEv K E P s1 x ρ' := fun v dx s' m q e z w => h v dx s' (n.trans m) (q.trans hs) e z w
theorem ExEv.mono {P P' : Nat → Prop} {s : S} {x : Xc} {ρ' : Env} (h : ExEv K E P' s x ρ') (hp : ∀ i, P i → P' i) : ExEv K E P s x ρ' := fun v dx s' m q e z w => h v dx s' (m.mono hp) q e z w
theorem SimAt.mono {α β : Type} {Rel : S → α → β → Prop} {t : L2.St → Hp → (β → Hp → Prop) → Prop} {m : Mo α} {s : S} (h : SimAt K E ms1 Rel t m s) (hm : ∀ i ∈ ms1, i ∈ ms2) : SimAt K E ms2 Rel t m s :=
  fun r ρ' e Q hq hx => h r ρ' e Q (fun a ha b s' n hs hr rel => hq a ha b s' (n.mono hm) hs hr rel) fun x ex => (hx x ex).mono hm
theorem SimG.mono {α β : Type} {Rel : S → α → β → Prop} {t : L2.St → Hp → (β → Hp → Prop) → Prop} {m : Mo α} (h : SimG K E ms1 Rel t m) (hm : ∀ i ∈ ms1, i ∈ ms2) : SimG K E ms2 Rel t m := fun s R => (h s R).mono hm
theorem SimAt.rel {α β : Type} {Rel Rel' : S → α → β → Prop} {t : L2.St → Hp → (β → Hp → Prop) → Prop} {m : Mo α} {s : S} (h : SimAt K E ms Rel t m s) (hr : ∀ s a b, Rel s a b → Rel' s a b) : SimAt K E ms Rel' t m s :=
  fun r ρ' e Q hq hx => h r ρ' e Q (fun a ha b s' n hs hρ rel => hq a ha b s' n hs hρ (hr _ _ _ rel)) hx
/-- one behind the other -/
theorem SimAt.bind {α β γ δ : Type} {Rel1 : S → α → β → Prop} {Rel2 : S → γ → δ → Prop} {t1 : L2.St → Hp → (β → Hp → Prop) → Prop} {t2 : β → L2.St → Hp → (δ → Hp → Prop) → Prop} {m1 : Mo α} {m2 : α → Mo γ} {s : S}
    (h1 : SimAt K E ms1 Rel1 t1 m1 s) (h2 : ∀ s1 a b, Rep K s1 → Nx K (· ∈ ms1) s s1 → s1.σ = s.σ → Rel1 s1 a b → SimAt K E ms2 Rel2 (t2 b) (m2 a) s1) :
    SimAt K E (ms1 ++ ms2) Rel2 (fun σ H Q => t1 σ H fun b H1 => t2 b σ H1 Q) (rBind m1 m2) s := by
  intro r ρ' e Q hq hx
  unfold rBind at e
  cases e1 : m1 s.ρ with
  | none => rw [e1] at e; cases e
  | some p =>
    obtain ⟨r1, ρ1⟩ := p
    rw [e1] at e
    refine h1 r1 ρ1 e1 _ (fun a ha b s1 n hs hρ rel => ?_) fun x ex => ?_
    · subst ha
      have e : m2 a ρ1 = some (r, ρ') := e
      have k := h2 s1 a b n.rep n hs rel r ρ' (by rw [hρ]; exact e) Q (fun c hc d s2 n2 hs2 hρ2 rel2 => hq c hc d s2 ((n.mono fun i hi => List.mem_append_left _ hi).trans (n2.mono fun i hi => List.mem_append_right _ hi)) (hs2.trans hs) hρ2 rel2)
        fun x ex => (((hx x ex).base (n.mono fun i hi => List.mem_append_left _ hi) hs).mono fun i hi => List.mem_append_right _ hi)
      rw [hs] at k
      exact k
    · subst ex
      have e : some ((Except.error x : Except Xc γ), ρ1) = some (r, ρ') := e
      cases e
      exact (hx x rfl).mono fun i hi => List.mem_append_left _ hi
/-- a thing that is known, nothing done -/
theorem SimAt.pure {α β : Type} {Rel : S → α → β → Prop} {a : α} {b : β} {s : S} (R : Rep K s) (h : Rel s a b) : SimAt K E ms Rel (fun _ H Q => Q b H) (rPure a) s := by
  intro r ρ' e Q hq hx
  cases e
  exact hq a rfl b s (Nx.refl R) rfl rfl h
/-! ### names, constants -/
def xVar (i : Nat) : Mo D := fun ρ => match ρ[i]? with
  | some (some (.d x)) => some (.ok x, ρ)
  | _ => none
theorem se_var (i : Nat) : SimE K E [] (tVar i) (xVar i) := by
  intro s R r ρ' e Q hq hx
  unfold xVar at e
  split at e
  · rename_i x hi
    cases e
    obtain ⟨v, hv, w⟩ := R.own i _ hi
    exact ⟨v, hv, hq x rfl v s (Nx.refl R) rfl rfl (Ow.d_iff.mp w).2⟩
  · cases e
def xC (x : V) : Mo D := rPure (.v x)
theorem se_c (x : V) : SimE K E [] (tC x) (xC x) := fun s R => SimAt.pure R (Fr.v_iff.mpr rfl)
/-! ### what is read: frozen, or owned with frozen things in it -/
theorem sv_of {t : TE} {m : Mo D} (h : SimE K E ms t m) : SimV K E ms t m := fun s R => (h s R).rel fun _ _ _ q => .inl q
def O.allD : List O → Bool
  | [] => true
  | .d _ :: os => O.allD os
  | _ :: _ => false
theorem OwL.allD {Z H : Hp} : ∀ {os : List O} {xs : List V} {F : List Addr}, O.allD os = true → OwL K Z H os xs F → FrL K Z (O.toDL os) xs
  | [], xs, F, _, h => by unfold O.toDL; exact FrL.nil_iff.mpr (OwL.nil_iff.mp h).1
  | .d x :: os, xs, F, e, h => by
    obtain ⟨y, r, F1, F2, h1, rfl, h3, h4⟩ := OwL.cons_iff.mp h
    unfold O.toDL
    have : O.toD (.d x) = x := by unfold O.toD; rfl
    rw [this]
    exact FrL.cons_iff.mpr ⟨y, r, h1, (Ow.d_iff.mp h3).2, OwL.allD (by simpa [O.allD] using e) h4⟩
  | .lst _ :: _, _, _, e, _ => by simp [O.allD] at e
  | .dk _ _ :: _, _, _, e, _ => by simp [O.allD] at e
  | .ins _ _ _ :: _, _, _, e, _ => by simp [O.allD] at e
/-- an owned thing to be looked at -/
def O.view : O → Option D
  | .d x => some x
  | .lst os => if O.allD os = true then some (.lst (O.toDL os)) else none
  | .dk ks os => if O.allD os = true then some (.dk ks (O.toDL os)) else none
  | .ins _ _ _ => none
theorem Ow.view {Z H : Hp} {o : O} {v : V} {F : List Addr} {d : D} (h : Ow K Z H o v F) (e : o.view = some d) : Sh K Z H d v := by
  cases o with
  | d x =>
    cases e
    exact .inl (Ow.d_iff.mp h).2
  | lst os =>
    have e : (if O.allD os = true then some (D.lst (O.toDL os)) else none) = some d := e
    split at e
    · rename_i ha
      cases e
      obtain ⟨a, xs, F', h1, h2, h3, rfl, h5⟩ := Ow.lst_iff.mp h
      exact .inr (.inl ⟨a, xs, _, h1, rfl, h2, OwL.allD ha h5⟩)
    · cases e
  | dk ks os =>
    have e : (if O.allD os = true then some (D.dk ks (O.toDL os)) else none) = some d := e
    split at e
    · rename_i ha
      cases e
      obtain ⟨a, xs, F', h1, h2, h3, rfl, h5, h6, h7⟩ := Ow.dk_iff.mp h
      exact .inr (.inr ⟨a, xs, _, _, h1, rfl, h2, h5, h6, OwL.allD ha h7⟩)
    · cases e
  | ins C fs os => cases e
theorem Way.det {H : Hp} : ∀ {π : List Pt} {v a b : V}, Way H v π a → Way H v π b → a = b
  | [], _, _, _, .nil _, .nil _ => rfl
  | _ :: π, _, _, _, .ix h1 h2 h3, .ix g1 g2 g3 => by
    rw [h1] at g1; cases g1
    rw [h2] at g2; cases g2
    exact Way.det h3 g3
  | _ :: π, _, _, _, .ky h1 h2 h3, .ky g1 g2 g3 => by
    rw [h1] at g1; cases g1
    rw [h2] at g2; cases g2
    exact Way.det h3 g3
  | _ :: π, _, _, _, .fd h1 h2 h3, .fd g1 g2 g3 => by
    rw [h1] at g1; cases g1
    rw [h2] at g2; cases g2
    exact Way.det h3 g3
theorem Way.mono {H H' : Hp} (e : Same H H') : ∀ {π : List Pt} {v a : V}, Way H v π a → Way H' v π a
  | _, _, _, .nil v => .nil v
  | _, _, _, .ix h1 h2 h3 => .ix (e _ _ h1) h2 (Way.mono e h3)
  | _, _, _, .ky h1 h2 h3 => .ky (e _ _ h1) h2 (Way.mono e h3)
  | _, _, _, .fd h1 h2 h3 => .fd (e _ _ h1) h2 (Way.mono e h3)
theorem Way.snoc {H : Hp} {p : Pt} {b : V} : ∀ {π : List Pt} {v a : V}, Way H v π a → Way H a [p] b → Way H v (π ++ [p]) b
  | _, _, _, .nil _, w => w
  | _, _, _, .ix h1 h2 h3, w => .ix h1 h2 (Way.snoc h3 w)
  | _, _, _, .ky h1 h2 h3, w => .ky h1 h2 (Way.snoc h3 w)
  | _, _, _, .fd h1 h2 h3, w => .fd h1 h2 (Way.snoc h3 w)
theorem Nx.same {s s' : S} {P : Nat → Prop} (n : Nx K P s s') (h : ∀ i, ¬ P i) : Same s.H s'.H := fun b o e => n.keep b o e fun i hi => absurd hi (h i)
/-- a place in a slot's tree, by an expression -/
def SimB (K : PySem.W.Frag) (i : Nat) (t : TE) (p : Env → Option (List Pt)) : Prop :=
  ∀ s, Rep K s → ∀ π, p s.ρ = some π → ∀ o n v0, s.ρ[i]? = some (some o) → s.σ[i]? = some (some v0) → o.get π = some n →
    ∀ Q : VK, (∀ v s', Nx K (· ∈ ([] : List Nat)) s s' → s'.σ = s.σ → s'.ρ = s.ρ → Way s'.H v0 π v → Q v s'.H) → t s.σ s.H Q
def pVar : Env → Option (List Pt) := fun _ => some []
theorem sb_var (i : Nat) : SimB K i (tVar i) pVar := by
  intro s R π e o n v0 ho hv hg Q hq
  cases e
  exact ⟨v0, hv, hq v0 s (Nx.refl R) rfl rfl (.nil v0)⟩
theorem O.get_snoc (p : Pt) : ∀ (π : List Pt) (o : O), o.get (π ++ [p]) = (o.get π).bind fun n => n.get [p]
  | [], o => rfl
  | q :: π, o => by
    show ((o.kidAt q).bind fun i => (o.kids[i]?).bind fun c => c.get (π ++ [p])) = ((o.kidAt q).bind fun i => (o.kids[i]?).bind fun c => c.get π).bind fun n => n.get [p]
    cases o.kidAt q with
    | none => rfl
    | some i =>
      show ((o.kids[i]?).bind fun c => c.get (π ++ [p])) = ((o.kids[i]?).bind fun c => c.get π).bind fun n => n.get [p]
      cases o.kids[i]? with
      | none => rfl
      | some c => exact O.get_snoc p π c
/-- one place further -/
theorem way_step {s : S} (R : Rep K s) {i : Nat} {o n c : O} {v0 v : V} {π : List Pt} {p : Pt} (ho : s.ρ[i]? = some (some o)) (hv : s.σ[i]? = some (some v0)) (hg : o.get π = some n) (hc : n.get [p] = some c) (w : Way s.H v0 π v) : ∃ u, Way s.H v [p] u := by
  obtain ⟨v1, v', F', h1, h2, h3, _⟩ := R.focus (P := fun _ => True) trivial ho hg
  rw [hv] at h1; cases h1
  have := Way.det w h2
  subst this
  obtain ⟨u, A, F1, B, hw, _⟩ := h3.focus hc
  exact ⟨u, hw⟩
def pFld (C : Addr) (f : Str) (i : Nat) (p : Env → Option (List Pt)) : Env → Option (List Pt) := fun ρ => match p ρ, ρ[i]? with
  | some π, some (some o) => match o.get π with
    | some (.ins c _ _) => if c = C then some (π ++ [.fd f]) else none
    | _ => none
  | _, _ => none
/-- o.f, o owned, of the class at C -/
theorem sb_fld {i : Nat} {t : TE} {p : Env → Option (List Pt)} {f : Str} {C : Addr} (hc : Cls K C) (hn : NoAttr K C f) (h : SimB K i t p) : SimB K i (tFld K t f) (pFld C f i p) := by
  intro s R π e o n v0 ho hv hg Q hq
  unfold pFld at e
  split at e
  · rename_i π0 o0 e0 ho0
    rw [ho] at ho0; cases ho0
    split at e
    · rename_i c fs os hn0
      split at e
      · rename_i hcc
        subst hcc
        cases e
        rw [O.get_snoc, hn0] at hg
        have hc0 : (O.ins c fs os).get [.fd f] = some n := hg
        refine h s R π0 e0 o _ v0 ho hv hn0 _ fun v s' nx hs hρ w => ?_
        obtain ⟨u, hu⟩ := way_step nx.rep (by rw [hρ]; exact ho) (by rw [hs]; exact hv) hn0 hc0 w
        obtain ⟨v1, v', F', h1, h2, h3, _⟩ := nx.rep.focus (P := fun _ => True) trivial (by rw [hρ]; exact ho) hn0
        rw [hs, hv] at h1; cases h1
        have := Way.det w h2
        subst this
        obtain ⟨a, dx, fvs, F1, rfl, g2, _⟩ := Ow.ins_iff.mp h3
        cases hu with
        | fd k1 k2 k3 =>
          rw [g2] at k1; cases k1
          cases k3
          exact ⟨a, _, dx, _, _, rfl, g2, hc, hn, k2, hq _ s' nx hs hρ (w.snoc (.fd g2 k2 (.nil _)))⟩
      · cases e
    · cases e
  · cases e
def xRd (i : Nat) (p : Env → Option (List Pt)) : Mo D := fun ρ => match p ρ, ρ[i]? with
  | some π, some (some o) => match o.get π with
    | some (.d x) => some (.ok x, ρ)
    | _ => none
  | _, _ => none
/-- what stands at a place, where that is frozen -/
theorem se_rd {i : Nat} {t : TE} {p : Env → Option (List Pt)} (h : SimB K i t p) : SimE K E [] t (xRd i p) := by
  intro s R r ρ' e Q hq hx
  unfold xRd at e
  split at e
  · rename_i π o e1 e2
    split at e
    · rename_i x e3
      cases e
      obtain ⟨v0, hv, w0⟩ := R.own i o e2
      refine h s R π e1 o _ v0 e2 hv e3 Q fun v s' nx hs hρ w => ?_
      obtain ⟨v1, v', F', h1, h2, h3, _⟩ := nx.rep.focus (P := fun _ => True) trivial (by rw [hρ]; exact e2) e3
      rw [hs, hv] at h1; cases h1
      have := Way.det w h2
      subst this
      exact hq x rfl v s' nx hs hρ (Ow.d_iff.mp h3).2
    · cases e
  · cases e
def xView (i : Nat) (p : Env → Option (List Pt)) : Mo D := fun ρ => match p ρ, ρ[i]? with
  | some π, some (some o) => match o.get π with
    | some n => match n.view with
      | some d => some (.ok d, ρ)
      | none => none
    | none => none
  | _, _ => none
theorem sv_view {i : Nat} {t : TE} {p : Env → Option (List Pt)} (h : SimB K i t p) : SimV K E [] t (xView i p) := by
  intro s R r ρ' e Q hq hx
  unfold xView at e
  split at e
  · rename_i π o e1 e2
    split at e
    · rename_i n e3
      split at e
      · rename_i d e4
        cases e
        obtain ⟨v0, hv, w0⟩ := R.own i o e2
        refine h s R π e1 o n v0 e2 hv e3 Q fun v s' nx hs hρ w => ?_
        obtain ⟨v1, v', F', h1, h2, h3, _⟩ := nx.rep.focus (P := fun _ => True) trivial (by rw [hρ]; exact e2) e3
        rw [hs, hv] at h1; cases h1
        have := Way.det w h2
        subst this
        exact hq d rfl v s' nx hs hρ (h3.view e4)
      · cases e
    · cases e
  · cases e
/-! ### operations upon values -/
def OpSh (K : PySem.W.Frag) (r : R2) (f : D → D → Option D) : Prop := ∀ Z H, Same Z H → ∀ x y v w d, Sh K Z H x v → Sh K Z H y w → f x y = some d → ∀ Q : VK, (∀ u Z' H', Ext Z H Z' H' → Fr K Z' d u → Q u H') → r v w H Q
def UnSh (K : PySem.W.Frag) (r : V → Hp → VK → Prop) (f : D → Option D) : Prop := ∀ Z H, Same Z H → ∀ x v d, Sh K Z H x v → f x = some d → ∀ Q : VK, (∀ u Z' H', Ext Z H Z' H' → Fr K Z' d u → Q u H') → r v H Q
theorem Sh.ext {Z H Z' H' : Hp} {d : D} {v : V} (x : Same Z Z') (y : Same H H') (h : Sh K Z H d v) : Sh K Z' H' d v := by
  rcases h with h | ⟨a, xs, ds, h1, h2, h3, h4⟩ | ⟨a, xs, ks, ds, h1, h2, h3, h4, h5, h6⟩
  · exact .inl (h.mono x)
  · exact .inr (.inl ⟨a, xs, ds, h1, h2, y _ _ h3, h4.mono x⟩)
  · exact .inr (.inr ⟨a, xs, ks, ds, h1, h2, y _ _ h3, h4, h5, h6.mono x⟩)
theorem OpSh.at {r : R2} {f : D → D → Option D} (h : OpSh K r f) {s : S} (R : Rep K s) {x y : D} {v w : V} (hx : Sh K s.Z s.H x v) (hy : Sh K s.Z s.H y w) : SimAt K E ms (RelE K) (fun _ H Q => r v w H Q) (rOpt (f x y)) s := by
  intro q ρ' e Q hq _
  unfold rOpt at e
  split at e
  · cases e
  · rename_i d hd
    cases e
    exact h s.Z s.H R.zh x y v w d hx hy hd Q fun u Z' H' ex fr => hq d rfl u { s with Z := Z', H := H' } (ex.nx R) rfl rfl fr
theorem UnSh.at {r : V → Hp → VK → Prop} {f : D → Option D} (h : UnSh K r f) {s : S} (R : Rep K s) {x : D} {v : V} (hx : Sh K s.Z s.H x v) : SimAt K E ms (RelE K) (fun _ H Q => r v H Q) (rOpt (f x)) s := by
  intro q ρ' e Q hq _
  unfold rOpt at e
  split at e
  · cases e
  · rename_i d hd
    cases e
    exact h s.Z s.H R.zh x v d hx hd Q fun u Z' H' ex fr => hq d rfl u { s with Z := Z', H := H' } (ex.nx R) rfl rfl fr
def xOp (f : D → D → Option D) (ma mb : Mo D) : Mo D := rBind ma fun x => rBind mb fun y => rOpt (f x y)
theorem se_op {r : R2} {f : D → D → Option D} {ta tb : TE} {ma mb : Mo D} (hr : OpSh K r f) (ha : SimE K E ms1 ta ma) (hb : SimV K E ms2 tb mb) : SimE K E (ms1 ++ ms2) (tOp r ta tb) (xOp f ma mb) := fun s R =>
  ((ha s R).bind fun s1 x v R1 _ _ hx => (((hb s1 R1).bind (ms2 := []) fun s2 y w R2' n _ hy => hr.at R2' (.inl (hx.mono n.zz)) hy)).mono (by simp))
/-- the left one looked at, the right one changes nothing -/
theorem se_opV {r : R2} {f : D → D → Option D} {ta tb : TE} {ma mb : Mo D} (hr : OpSh K r f) (ha : SimV K E ms1 ta ma) (hb : SimV K E [] tb mb) : SimE K E (ms1 ++ []) (tOp r ta tb) (xOp f ma mb) := fun s R =>
  ((ha s R).bind fun s1 x v R1 _ _ hx => (((hb s1 R1).bind (ms2 := []) fun s2 y w R2' n _ hy => hr.at R2' (Sh.ext n.zz (n.same (by simp)) hx) hy)).mono (by simp))
def xUn (f : D → Option D) (ma : Mo D) : Mo D := rBind ma fun x => rOpt (f x)
theorem se_un {r : V → Hp → VK → Prop} {f : D → Option D} {ta : TE} {ma : Mo D} (hr : UnSh K r f) (ha : SimV K E ms1 ta ma) : SimE K E (ms1 ++ []) (tUn r ta) (xUn f ma) := fun s R =>
  (ha s R).bind fun s1 x v R1 _ _ hx => hr.at R1 hx
end
end Dat
/-! Dat4: the operations upon data. -/
namespace Dat
open PySem PySem.Spec PyProof.Rows L2
section
variable {K : PySem.W.Frag} {Z H : Hp}
theorem Sh.v {x v : V} (h : Sh K Z H (.v x) v) : v = x := by
  rcases h with h | ⟨_, _, _, _, h, _⟩ | ⟨_, _, _, _, _, h, _⟩
  · exact Fr.v_iff.mp h
  · cases h
  · cases h
theorem Sh.lst {ds : List D} {v : V} (zh : Same Z H) (h : Sh K Z H (.lst ds) v) : ∃ a xs, v = .ref a ∧ H a = some (.lst xs) ∧ FrL K Z ds xs := by
  rcases h with h | ⟨a, xs, es, h1, h, h2, h3⟩ | ⟨_, _, _, _, _, h, _⟩
  · obtain ⟨a, xs, h1, h2, h3⟩ := Fr.lst_iff.mp h
    exact ⟨a, xs, h1, zh _ _ h2, h3⟩
  · cases h; exact ⟨a, xs, h1, h2, h3⟩
  · cases h
theorem Sh.tup {ds : List D} {v : V} (zh : Same Z H) (h : Sh K Z H (.tup ds) v) : ∃ a xs, v = .ref a ∧ SqT K H a xs ∧ FrL K Z ds xs := by
  rcases h with h | ⟨_, _, _, _, h, _⟩ | ⟨_, _, _, _, _, h, _⟩
  · obtain ⟨a, xs, h1, h2, h3⟩ := Fr.tup_iff.mp h
    exact ⟨a, xs, h1, same_tup zh h2, h3⟩
  · cases h
  · cases h
theorem Sh.dk {ks : List Key} {ds : List D} {v : V} (zh : Same Z H) (h : Sh K Z H (.dk ks ds) v) : ∃ a kvs, v = .ref a ∧ H a = some (.dK kvs) ∧ kvs.map (·.1) = ks ∧ ks.Nodup ∧ FrL K Z ds (kvs.map (·.2)) := by
  rcases h with h | ⟨_, _, _, _, h, _⟩ | ⟨a, kvs, ks', ds', h1, h, h2, h3, h4, h5⟩
  · obtain ⟨a, kvs, h1, h2, h3, h4, h5⟩ := Fr.dk_iff.mp h
    exact ⟨a, kvs, h1, zh _ _ h2, h3, h4, h5⟩
  · cases h
  · cases h; exact ⟨a, kvs, h1, h2, h3, h4, h5⟩
theorem Sh.scr {ns : List Int} {v : V} (zh : Same Z H) (h : Sh K Z H (.scr ns) v) : ∃ a, v = .ref a ∧ SqL K H a (ns.map V.int) := by
  rcases h with h | ⟨_, _, _, _, h, _⟩ | ⟨_, _, _, _, _, h, _⟩
  · obtain ⟨a, h1, h2⟩ := Fr.scr_iff.mp h
    exact ⟨a, h1, zh.seq h2⟩
  · cases h
  · cases h
/-! ### whole numbers, texts -/
def dI2 (C : Int → Int → Bool) (g : Int → Int → V) : D → D → Option D
  | .v (.int i), .v (.int j) => if C i j = true then some (.v (g i j)) else none
  | _, _ => none
theorem os_rI {C : Int → Int → Prop} {Cb : Int → Int → Bool} {g : Int → Int → V} (hC : ∀ i j, Cb i j = true → C i j) : OpSh K (rI C g) (dI2 Cb g) := by
  intro Z H zh x y v w d hx hy e Q hq
  unfold dI2 at e
  split at e
  · rename_i i j
    split at e
    · rename_i hc
      cases e
      exact ⟨i, j, hx.v, hy.v, hC i j hc, hq _ Z H (.refl zh) (Fr.v_iff.mpr rfl)⟩
    · cases e
  · cases e
theorem os_rI0 {g : Int → Int → V} : OpSh K (rI0 g) (dI2 (fun _ _ => true) g) := by
  intro Z H zh x y v w d hx hy e Q hq
  unfold dI2 at e
  split at e
  · rename_i i j
    cases e
    exact ⟨i, j, hx.v, hy.v, hq _ Z H (.refl zh) (Fr.v_iff.mpr rfl)⟩
  · cases e
theorem OpSh.orL {r r' : R2} {f : D → D → Option D} (h : OpSh K r f) : OpSh K (fun x y H Q => r x y H Q ∨ r' x y H Q) f := fun Z H zh x y v w d hx hy e Q hq => .inl (h Z H zh x y v w d hx hy e Q hq)
theorem OpSh.orR {r r' : R2} {f : D → D → Option D} (h : OpSh K r' f) : OpSh K (fun x y H Q => r x y H Q ∨ r' x y H Q) f := fun Z H zh x y v w d hx hy e Q hq => .inr (h Z H zh x y v w d hx hy e Q hq)
/-- one of two, whichever is served -/
theorem OpSh.or {r r' : R2} {f f' g : D → D → Option D} (h : OpSh K r f) (h' : OpSh K r' f') (hg : ∀ x y d, g x y = some d → f x y = some d ∨ f' x y = some d) : OpSh K (fun x y H Q => r x y H Q ∨ r' x y H Q) g := fun Z H zh x y v w d hx hy e Q hq => by
  rcases hg x y d e with q | q
  · exact .inl (h Z H zh x y v w d hx hy q Q hq)
  · exact .inr (h' Z H zh x y v w d hx hy q Q hq)
def rAddS : R2 := fun x y H Q => ∃ i j, x = .str i ∧ y = .str j ∧ i.length + j.length ≤ sizeLine ∧ Q (.str (i ++ j)) H
def dAddS : D → D → Option D
  | .v (.str i), .v (.str j) => if i.length + j.length ≤ sizeLine then some (.v (.str (i ++ j))) else none
  | _, _ => none
theorem os_addS : OpSh K rAddS dAddS := by
  intro Z H zh x y v w d hx hy e Q hq
  unfold dAddS at e
  split at e
  · rename_i i j
    split at e
    · rename_i hc
      cases e
      exact ⟨i, j, hx.v, hy.v, hc, hq _ Z H (.refl zh) (Fr.v_iff.mpr rfl)⟩
    · cases e
  · cases e
def dCat : D → D → Option D
  | .lst xs, .lst ys => if xs.length + ys.length ≤ sizeLine then some (.lst (xs ++ ys)) else none
  | _, _ => none
theorem Fr.lst_new {p : Addr} {ds : List D} {xs : List V} (zp : Z p = none) (h : FrL K Z ds xs) : Fr K (upd Z p (.lst xs)) (.lst ds) (.ref p) := Fr.lst_iff.mpr ⟨p, xs, rfl, upd_same, h.mono (same_upd zp)⟩
theorem Fr.tup_new {p : Addr} {ds : List D} {xs : List V} (zp : Z p = none) (h : FrL K Z ds xs) : Fr K (upd Z p (.tup xs)) (.tup ds) (.ref p) := Fr.tup_iff.mpr ⟨p, xs, rfl, SqT.of upd_same, h.mono (same_upd zp)⟩
theorem Fr.dk_new {p : Addr} {ks : List Key} {ds : List D} {kvs : List (Key × V)} (zp : Z p = none) (hk : kvs.map (·.1) = ks) (hn : ks.Nodup) (h : FrL K Z ds (kvs.map (·.2))) : Fr K (upd Z p (.dK kvs)) (.dk ks ds) (.ref p) :=
  Fr.dk_iff.mpr ⟨p, kvs, rfl, upd_same, hk, hn, h.mono (same_upd zp)⟩
theorem os_cat : OpSh K rCat dCat := by
  intro Z H zh x y v w d hx hy e Q hq
  unfold dCat at e
  split at e
  · rename_i xs ys
    split at e
    · rename_i hc
      cases e
      obtain ⟨a, us, rfl, h1, h2⟩ := hx.lst zh
      obtain ⟨b, ws, rfl, g1, g2⟩ := hy.lst zh
      exact ⟨a, b, us, ws, rfl, rfl, h1, g1, by rw [h2.length, g2.length]; exact hc, fun p hp => hq _ _ _ (.alloc zh _ hp) (Fr.lst_new (zh.free hp) (h2.append g2))⟩
    · cases e
  · cases e
def dAdd : D → D → Option D
  | .v (.int i), .v (.int j) => some (.v (.int (i + j)))
  | .v (.str i), .v (.str j) => if i.length + j.length ≤ sizeLine then some (.v (.str (i ++ j))) else none
  | .lst xs, .lst ys => if xs.length + ys.length ≤ sizeLine then some (.lst (xs ++ ys)) else none
  | _, _ => none
theorem op_addU {X : Cx} : OpR X (binaryOp .Add) (fun x y H Q => (rI0 fun i j => .int (i + j)) x y H Q ∨ (fun x y H Q => rAddS x y H Q ∨ rCat x y H Q) x y H Q) := op_add.or (op_add_str.or op_cat)
theorem os_add : OpSh K (fun x y H Q => (rI0 fun i j => .int (i + j)) x y H Q ∨ (fun x y H Q => rAddS x y H Q ∨ rCat x y H Q) x y H Q) dAdd := by
  refine OpSh.or os_rI0 (OpSh.or (g := fun x y => match dAddS x y with | some d => some d | none => dCat x y) os_addS os_cat fun x y d e => ?_) fun x y d e => ?_
  · split at e
    · rename_i q; cases e; exact .inl q
    · exact .inr e
  · unfold dAdd at e
    split at e
    · exact .inl (by simpa [dI2] using e)
    · exact .inr (by simp [dAddS]; simp at e; simp [e])
    · exact .inr (by simp [dAddS, dCat]; simpa using e)
    · cases e
def dSub := dI2 (fun _ _ => true) fun i j => .int (i - j)
theorem os_sub : OpSh K (rI0 fun i j => .int (i - j)) dSub := os_rI0
def dMul : D → D → Option D := dI2 (fun i j => decide ((-(2 ^ 64) < i ∧ i < 2 ^ 64) ∨ (-(2 ^ 64) < j ∧ j < 2 ^ 64))) fun i j => .int (i * j)
theorem os_mul : OpSh K (rI CMul fun i j => .int (i * j)) dMul := os_rI (C := CMul) fun i j h => (of_decide_eq_true h : (-(2 ^ 64) < i ∧ i < 2 ^ 64) ∨ (-(2 ^ 64) < j ∧ j < 2 ^ 64))
def dDiv : D → D → Option D := dI2 (fun i j => decide (0 < j ∧ j < 1073741824)) fun i j => .int (i / j)
theorem os_div : OpSh K (rI CDiv fun i j => .int (i / j)) dDiv := os_rI (C := CDiv) fun i j h => (of_decide_eq_true h : 0 < j ∧ j < 1073741824)
def dMod : D → D → Option D := dI2 (fun i j => decide (0 < j)) fun i j => .int (i % j)
theorem os_mod : OpSh K (rI (fun _ j => 0 < j) fun i j => .int (i % j)) dMod := os_rI fun i j h => of_decide_eq_true h
def dPow : D → D → Option D := dI2 (fun i j => decide (0 ≤ j ∧ j ≤ 1000000 ∧ i.natAbs < 2 ^ 64)) fun i j => .int (i ^ j.toNat)
theorem os_pow : OpSh K (rI CPow fun i j => .int (i ^ j.toNat)) dPow := os_rI (C := CPow) fun i j h => (of_decide_eq_true h : 0 ≤ j ∧ j ≤ 1000000 ∧ i.natAbs < 2 ^ 64)
def dLt := dI2 (fun _ _ => true) fun i j => .bl (decide (i < j))
theorem os_lt : OpSh K (rI0 fun i j => .bl (decide (i < j))) dLt := os_rI0
def dLe := dI2 (fun _ _ => true) fun i j => .bl (decide (i ≤ j))
theorem os_le : OpSh K (rI0 fun i j => .bl (decide (i ≤ j))) dLe := os_rI0
def dGt := dI2 (fun _ _ => true) fun i j => .bl (decide (j < i))
theorem os_gt : OpSh K (rI0 fun i j => .bl (decide (j < i))) dGt := os_rI0
def dGe := dI2 (fun _ _ => true) fun i j => .bl (decide (j ≤ i))
theorem os_ge : OpSh K (rI0 fun i j => .bl (decide (j ≤ i))) dGe := os_rI0
def dNeg : D → Option D
  | .v (.int i) => some (.v (.int (-i)))
  | _ => none
theorem us_neg : UnSh K (rU fun i => .int (-i)) dNeg := by
  intro Z H zh x v d hx e Q hq
  unfold dNeg at e
  split at e
  · rename_i i
    cases e
    exact ⟨i, hx.v, hq _ Z H (.refl zh) (Fr.v_iff.mpr rfl)⟩
  · cases e
/-- is None, is not None -/
def dNone? : D → Bool
  | .v .non => true
  | _ => false
theorem Sh.non {d : D} {v : V} (h : Sh K Z H d v) (hd : ∀ a, d ≠ .v (.ref a)) : decide (v = .non) = dNone? d := by
  rcases h with h | ⟨a, _, _, rfl, rfl, _⟩ | ⟨a, _, _, _, rfl, rfl, _⟩
  · cases d with
    | v x =>
      rw [Fr.v_iff.mp h]
      cases x <;> rfl
    | scr ns => obtain ⟨a, rfl, _⟩ := Fr.scr_iff.mp h; rfl
    | lst ds => obtain ⟨a, xs, rfl, _⟩ := Fr.lst_iff.mp h; rfl
    | tup ds => obtain ⟨a, xs, rfl, _⟩ := Fr.tup_iff.mp h; rfl
    | dk ks ds => obtain ⟨a, xs, rfl, _⟩ := Fr.dk_iff.mp h; rfl
    | ins C fs ds => obtain ⟨a, dx, xs, rfl, _⟩ := Fr.ins_iff.mp h; rfl
    | exc C f d => obtain ⟨a, dx, x, rfl, _⟩ := Fr.exc_iff.mp h; rfl
  · rfl
  · rfl
theorem Sh.non' {d : D} {v : V} (h : Sh K Z H d v) : decide (v = .non) = dNone? d := by
  cases d with
  | v x => rw [h.v]; cases x <;> rfl
  | _ => exact h.non fun a q => nomatch q
def dIsN : D → D → Option D
  | d, .v .non => some (.v (.bl (dNone? d)))
  | _, _ => none
def dNotN : D → D → Option D
  | d, .v .non => some (.v (.bl (!dNone? d)))
  | _, _ => none
theorem os_isN : OpSh K (fun x y H Q => y = .non ∧ Q (.bl (decide (x = .non))) H) dIsN := by
  intro Z H zh x y v w d hx hy e Q hq
  unfold dIsN at e
  split at e
  · cases e
    exact ⟨hy.v, hq _ Z H (.refl zh) (Fr.v_iff.mpr (by rw [hx.non']))⟩
  · cases e
theorem os_notN : OpSh K (fun x y H Q => y = .non ∧ Q (.bl (!decide (x = .non))) H) dNotN := by
  intro Z H zh x y v w d hx hy e Q hq
  unfold dNotN at e
  split at e
  · cases e
    exact ⟨hy.v, hq _ Z H (.refl zh) (Fr.v_iff.mpr (by rw [hx.non']))⟩
  · cases e
/-! ### == -/
mutual
def D.pd : D → Option PyData
  | .v .non => some .none
  | .v (.bl b) => some (.bool b)
  | .v (.int i) => some (.int i)
  | .v (.str x) => some (.str x)
  | .v _ => none
  | .scr _ => none
  | .lst ds => (D.pdL ds).map .list
  | .tup ds => (D.pdL ds).map .tuple
  | .dk _ _ => none
  | .ins _ _ _ => none
  | .exc _ _ _ => none
def D.pdL : List D → Option (List PyData)
  | [] => some []
  | d :: ds => (D.pd d).bind fun p => (D.pdL ds).map fun ps => p :: ps
end
mutual
theorem Fr.dp (zh : Same Z H) : ∀ {d : D} {v : V} {p : PyData}, Fr K Z d v → d.pd = some p → Dp K H v p
  | .v .non, v, p, h, e => by
    rw [Fr.v_iff.mp h]; unfold D.pd at e; cases e; exact .non
  | .v (.bl b), v, p, h, e => by
    rw [Fr.v_iff.mp h]; unfold D.pd at e; cases e; exact .bl b
  | .v (.int b), v, p, h, e => by
    rw [Fr.v_iff.mp h]; unfold D.pd at e; cases e; exact .int b
  | .v (.str b), v, p, h, e => by
    rw [Fr.v_iff.mp h]; unfold D.pd at e; cases e; exact .str b
  | .v (.byt b), v, p, h, e => by unfold D.pd at e; cases e
  | .v (.flt b), v, p, h, e => by unfold D.pd at e; cases e
  | .v (.ref b), v, p, h, e => by unfold D.pd at e; cases e
  | .v (.ty b), v, p, h, e => by unfold D.pd at e; cases e
  | .scr _, v, p, h, e => by unfold D.pd at e; cases e
  | .lst ds, v, p, h, e => by
    unfold D.pd at e
    obtain ⟨ps, e1, rfl⟩ := Option.map_eq_some_iff.mp e
    obtain ⟨a, xs, rfl, h1, h2⟩ := Fr.lst_iff.mp h
    exact .lst (SqL.of (zh _ _ h1)) (FrL.dp zh h2 e1)
  | .tup ds, v, p, h, e => by
    unfold D.pd at e
    obtain ⟨ps, e1, rfl⟩ := Option.map_eq_some_iff.mp e
    obtain ⟨a, xs, rfl, h1, h2⟩ := Fr.tup_iff.mp h
    exact .tup (same_tup zh h1) (FrL.dp zh h2 e1)
  | .dk _ _, v, p, h, e => by unfold D.pd at e; cases e
  | .ins _ _ _, v, p, h, e => by unfold D.pd at e; cases e
  | .exc _ _ _, v, p, h, e => by unfold D.pd at e; cases e
theorem FrL.dp (zh : Same Z H) : ∀ {ds : List D} {xs : List V} {ps : List PyData}, FrL K Z ds xs → D.pdL ds = some ps → DpAll K H xs ps
  | [], xs, ps, h, e => by
    rw [FrL.nil_iff.mp h]; unfold D.pdL at e; cases e; exact .nil
  | d :: ds, xs, ps, h, e => by
    unfold D.pdL at e
    obtain ⟨x, r, rfl, h1, h2⟩ := FrL.cons_iff.mp h
    obtain ⟨p, e1, e⟩ := Option.bind_eq_some_iff.mp e
    obtain ⟨qs, e2, rfl⟩ := Option.map_eq_some_iff.mp e
    exact .cons (Fr.dp zh h1 e1) (FrL.dp zh h2 e2)
end
theorem Sh.dp (zh : Same Z H) {d : D} {v : V} {p : PyData} (h : Sh K Z H d v) (e : d.pd = some p) : Dp K H v p := by
  rcases h with h | ⟨a, xs, ds, rfl, rfl, h1, h2⟩ | ⟨a, xs, ks, ds, rfl, rfl, _⟩
  · exact h.dp zh e
  · unfold D.pd at e
    obtain ⟨ps, e1, rfl⟩ := Option.map_eq_some_iff.mp e
    exact .lst (SqL.of h1) (FrL.dp zh h2 e1)
  · unfold D.pd at e; cases e
def dEqB (x y : D) : Option Bool := match x.pd, y.pd with
  | some p, some q => if SeqAt.shaped p && SeqAt.shaped q then some (PyData.eqv p q) else none
  | _, _ => none
def dEq (x y : D) : Option D := (dEqB x y).map fun b => .v (.bl b)
def dNe (x y : D) : Option D := (dEqB x y).map fun b => .v (.bl !b)
theorem dEqB_some {x y : D} {b : Bool} (h : dEqB x y = some b) : ∃ p q, x.pd = some p ∧ y.pd = some q ∧ SeqAt.shaped p = true ∧ SeqAt.shaped q = true ∧ PyData.eqv p q = b := by
  unfold dEqB at h
  split at h
  · rename_i p q e1 e2
    split at h
    · rename_i hs
      cases h
      obtain ⟨a, c⟩ := Bool.and_eq_true_iff.mp hs
      exact ⟨p, q, e1, e2, a, c, rfl⟩
    · cases h
  · cases h
theorem os_eq : OpSh K (rEqD K) dEq := by
  intro Z H zh x y v w d hx hy e Q hq
  obtain ⟨b, e0, rfl⟩ := Option.map_eq_some_iff.mp e
  obtain ⟨p, q, e1, e2, s1, s2, rfl⟩ := dEqB_some e0
  exact ⟨p, q, hx.dp zh e1, hy.dp zh e2, s1, s2, hq _ Z H (.refl zh) (Fr.v_iff.mpr rfl)⟩
theorem os_ne : OpSh K (rNeD K) dNe := by
  intro Z H zh x y v w d hx hy e Q hq
  obtain ⟨b, e0, rfl⟩ := Option.map_eq_some_iff.mp e
  obtain ⟨p, q, e1, e2, s1, s2, rfl⟩ := dEqB_some e0
  exact ⟨p, q, hx.dp zh e1, hy.dp zh e2, s1, s2, hq _ Z H (.refl zh) (Fr.v_iff.mpr rfl)⟩
/-! ### in -/
def D.flat : D → Option V
  | .v x => if flatV x then some x else none
  | _ => none
def D.flatL : List D → Option (List V)
  | [] => some []
  | d :: ds => match d.flat, D.flatL ds with
    | some x, some xs => some (x :: xs)
    | _, _ => none
theorem D.flat_some {d : D} {x : V} (h : d.flat = some x) : d = .v x ∧ flatV x = true := by
  unfold D.flat at h
  split at h
  · split at h
    · rename_i q; cases h; exact ⟨rfl, q⟩
    · cases h
  · cases h
theorem D.flatL_some : ∀ {ds : List D} {xs : List V} {us : List V}, D.flatL ds = some us → FrL K Z ds xs → xs = us ∧ us.all flatV = true
  | [], xs, us, e, h => by
    cases e; exact ⟨FrL.nil_iff.mp h, rfl⟩
  | d :: ds, xs, us, e, h => by
    obtain ⟨x, r, rfl, h1, h2⟩ := FrL.cons_iff.mp h
    unfold D.flatL at e
    split at e
    · rename_i y ys e1 e2
      cases e
      obtain ⟨rfl, hf⟩ := D.flat_some e1
      obtain ⟨rfl, ht⟩ := D.flatL_some e2 h2
      rw [Fr.v_iff.mp h1]
      exact ⟨rfl, by rw [List.all_cons, hf, ht]; rfl⟩
    · cases e
def keyOfV : V → Option Key
  | .int i => some (.inl i)
  | .str x => some (.inr x)
  | _ => none
theorem keyOfV_some {v : V} {k : Key} (h : keyOfV v = some k) : v = kV k := by
  cases v <;> cases h <;> rfl
def dInB : D → D → Option Bool
  | x, .lst ds => (x.flat).bind fun u => (D.flatL ds).map fun us => inV u us
  | x, .tup ds => (x.flat).bind fun u => (D.flatL ds).map fun us => inV u us
  | .v .non, .dk _ _ => some false
  | .v y, .dk ks _ => (keyOfV y).map fun k => ks.any fun z => decide (z = k)
  | .v (.str x), .v (.str z) => match x.cps.toList with
    | [c] => some (decide (c ∈ z.cps.toList))
    | _ => none
  | _, _ => none
def dIn (x y : D) : Option D := (dInB x y).map fun b => .v (.bl b)
def dNotIn (x y : D) : Option D := (dInB x y).map fun b => .v (.bl !b)
def rDIn (neg : Bool) : R2 := fun y x H Q => (∃ a o, x = .ref a ∧ DGet H a y o ∧ Q (.bl (if neg then !o.isSome else o.isSome)) H) ∨ ∃ a kvs, x = .ref a ∧ y = .non ∧ Rd H a (.dK kvs) ∧ Q (.bl neg) H
def rSgn (neg : Bool) : R2 := fun x y H Q => ∃ (c : Nat) (z : Str), x = .str ⟨#[c]⟩ ∧ y = .str z ∧ Q (.bl (if neg then !decide (c ∈ z.cps.toList) else decide (c ∈ z.cps.toList))) H
section
variable {X : Cx}
theorem op_in_dict (hu : X.A.units + 1 < cLine) : OpR X (compareOp .In) (rDIn false) := by
  intro pins s σ H x y v u Q I rx ry h
  rcases h with ⟨a, o, rfl, g, q⟩ | ⟨a, kvs, rfl, rfl, g, q⟩
  · obtain rfl : u = Value.ref a := ry
    exact d_in hu I g rx fun s3 I3 => ⟨.bl o.isSome, H, I3, rfl, q⟩
  · obtain rfl : u = Value.ref a := ry
    obtain rfl : v = Value.none := rx
    exact d_inNone I g fun s3 I3 => ⟨.bl false, H, I3, rfl, q⟩
theorem op_notIn_dict (hu : X.A.units + 1 < cLine) : OpR X (compareOp .NotIn) (rDIn true) := by
  intro pins s σ H x y v u Q I rx ry h
  rcases h with ⟨a, o, rfl, g, q⟩ | ⟨a, kvs, rfl, rfl, g, q⟩
  · obtain rfl : u = Value.ref a := ry
    exact d_notIn hu I g rx fun s3 I3 => ⟨.bl (!o.isSome), H, I3, rfl, q⟩
  · obtain rfl : u = Value.ref a := ry
    obtain rfl : v = Value.none := rx
    exact d_notInNone I g fun s3 I3 => ⟨.bl true, H, I3, rfl, q⟩
def rInU (K : PySem.W.Frag) (neg : Bool) : R2 := fun x y H Q => rIn K neg x y H Q ∨ (fun x y H Q => rDIn neg x y H Q ∨ rSgn neg x y H Q) x y H Q
theorem op_inU (hu : X.A.units + 1 < cLine) : OpR X (compareOp .In) (rInU X.K false) := op_in_seq.or ((op_in_dict hu).or op_in_sign)
theorem op_notInU (hu : X.A.units + 1 < cLine) : OpR X (compareOp .NotIn) (rInU X.K true) := op_notIn_seq.or ((op_notIn_dict hu).or op_notIn_sign)
end
theorem os_inG (neg : Bool) : OpSh K (rInU K neg) fun x y => (dInB x y).map fun b => .v (.bl (if neg then !b else b)) := by
  intro Z H zh x y v w d hx hy e Q hq
  obtain ⟨b, e0, rfl⟩ := Option.map_eq_some_iff.mp e
  have fin : ∀ b', b = b' → Q (.bl (if neg then !b' else b')) H := fun b' h => hq _ Z H (.refl zh) (Fr.v_iff.mpr (by rw [h]))
  unfold dInB at e0
  split at e0
  · rename_i ds
    obtain ⟨u, e1, e9⟩ := Option.bind_eq_some_iff.mp e0
    obtain ⟨us, e2, rfl⟩ := Option.map_eq_some_iff.mp e9
    obtain ⟨rfl, hf⟩ := D.flat_some e1
    obtain ⟨a, xs, rfl, h1, h2⟩ := hy.lst zh
    obtain ⟨rfl, ht⟩ := D.flatL_some e2 h2
    rw [hx.v]
    exact .inl ⟨a, _, rfl, .inl (SqL.of h1), hf, ht, fin _ rfl⟩
  · rename_i ds
    obtain ⟨u, e1, e9⟩ := Option.bind_eq_some_iff.mp e0
    obtain ⟨us, e2, rfl⟩ := Option.map_eq_some_iff.mp e9
    obtain ⟨rfl, hf⟩ := D.flat_some e1
    obtain ⟨a, xs, rfl, h1, h2⟩ := hy.tup zh
    obtain ⟨rfl, ht⟩ := D.flatL_some e2 h2
    rw [hx.v]
    exact .inl ⟨a, _, rfl, .inr h1, hf, ht, fin _ rfl⟩
  · cases e0
    obtain ⟨a, kvs, rfl, h1, _⟩ := hy.dk zh
    refine .inr (.inl (.inr ⟨a, kvs, rfl, hx.v, .inl h1, ?_⟩))
    have := fin false rfl
    cases neg <;> exact this
  · rename_i ks ds _
    obtain ⟨k, e1, rfl⟩ := Option.map_eq_some_iff.mp e0
    obtain ⟨a, kvs, rfl, h1, h2, h3, h4⟩ := hy.dk zh
    refine .inr (.inl (.inl ⟨a, valV kvs k, rfl, ?_, ?_⟩))
    · rw [hx.v, keyOfV_some e1]; exact DGet.k h1
    · refine fin _ ?_
      rw [← valV_any, ← h2, List.any_map]
      rfl
  · rename_i x z
    split at e0
    · rename_i c hc
      cases e0
      have ex : x = ⟨#[c]⟩ := by
        obtain ⟨⟨l⟩⟩ := x
        have hc : l = [c] := hc
        rw [hc]
      refine .inr (.inr ⟨c, z, by rw [hx.v, ex], hy.v, fin _ rfl⟩)
    · cases e0
  · cases e0
theorem os_in : OpSh K (rInU K false) dIn := os_inG false
theorem os_notIn : OpSh K (rInU K true) dNotIn := os_inG true
/-! ### a[i] -/
def alook (ks : List Key) (ds : List D) (k : Key) : Option D := (ks.findIdx? fun x => decide (x = k)).bind fun i => ds[i]?
def dIx : D → D → Option D
  | .lst ds, .v (.int i) => atI ds i
  | .tup ds, .v (.int i) => atI ds i
  | .v (.str z), .v (.int i) => if z.length ≤ sizeLine then (atI z.cps.toList i).map fun c => .v (.str ⟨#[c]⟩) else none
  | .dk ks ds, .v y => (keyOfV y).bind fun k => alook ks ds k
  | _, _ => none
def rDIx : R2 := fun x y H Q => ∃ a v, x = .ref a ∧ DGet H a y (some v) ∧ Q v H
theorem ix_dict {X : Cx} (hu : X.A.units + 1 < cLine) : IxR X rDIx := by
  intro value slice pins s σ H x y v u Q I rx ry h hs
  obtain ⟨a, z, rfl, g, q⟩ := h
  obtain rfl : v = Value.ref a := rx
  exact PyProof.Rows.tail_any (dict_typeIs I g) PySem.F.slot_dict_getitem.lookup (d_getItem hu I g ry fun w' s3 I3 rw' => ⟨z, H, I3, rw', q⟩) hs
def rIxU (K : PySem.W.Frag) : R2 := fun x y H Q => rIxL K x y H Q ∨ (fun x y H Q => rIxT K x y H Q ∨ (fun x y H Q => rIxS x y H Q ∨ rDIx x y H Q) x y H Q) x y H Q
theorem ix_all {X : Cx} (hu : X.A.units + 1 < cLine) : IxR X (rIxU X.K) := ix_list.or (ix_tup.or (ix_str.or (ix_dict hu)))
theorem FrL.atI {ds : List D} {xs : List V} {i : Int} {d : D} (h : FrL K Z ds xs) (e : L2.atI ds i = some d) : ∃ x, L2.atI xs i = some x ∧ Fr K Z d x := by
  unfold L2.atI at e ⊢
  obtain ⟨j, e1, e2⟩ := Option.bind_eq_some_iff.mp e
  obtain ⟨x, hx, q⟩ := h.get e2
  exact ⟨x, by rw [h.length, e1]; exact hx, q⟩
theorem os_ix : OpSh K (rIxU K) dIx := by
  intro Z H zh x y v w d hx hy e Q hq
  unfold dIx at e
  split at e
  · rename_i ds i
    obtain ⟨a, xs, rfl, h1, h2⟩ := hx.lst zh
    obtain ⟨z, hz, fr⟩ := h2.atI e
    exact .inl ⟨a, xs, i, z, rfl, hy.v, SqL.of h1, hz, hq _ Z H (.refl zh) fr⟩
  · rename_i ds i
    obtain ⟨a, xs, rfl, h1, h2⟩ := hx.tup zh
    obtain ⟨z, hz, fr⟩ := h2.atI e
    exact .inr (.inl ⟨a, xs, i, z, rfl, hy.v, h1, hz, hq _ Z H (.refl zh) fr⟩)
  · rename_i z i
    split at e
    · rename_i hl
      obtain ⟨c, hc, rfl⟩ := Option.map_eq_some_iff.mp e
      exact .inr (.inr (.inl ⟨z, i, c, hx.v, hy.v, hl, hc, hq _ Z H (.refl zh) (Fr.v_iff.mpr rfl)⟩))
    · cases e
  · rename_i ks ds y
    obtain ⟨k, e1, e2⟩ := Option.bind_eq_some_iff.mp e
    obtain ⟨a, kvs, rfl, h1, h2, h3, h4⟩ := hx.dk zh
    unfold alook at e2
    obtain ⟨i, e3, e4⟩ := Option.bind_eq_some_iff.mp e2
    obtain ⟨z, hz, fr⟩ := h4.get e4
    refine .inr (.inr (.inr ⟨a, z, rfl, ?_, hq _ Z H (.refl zh) fr⟩))
    rw [hy.v, keyOfV_some e1]
    have : valV kvs k = some z := valV_at (by rw [h2]; exact e3) hz
    rw [← this]
    exact DGet.k h1
  · cases e
end
end Dat
/-! Dat5: tests, arguments, displays, built-ins. -/
namespace Dat
open PySem PySem.Spec PyProof.Rows L2
section
variable {K : PySem.W.Frag} {E : XK} {ms ms1 ms2 ms3 : List Nat}
theorem SimAt.pureE {s : S} (R : Rep K s) {d : D} {v : V} (h : Fr K s.Z d v) : SimAt K E ms (RelE K) (fun _ H (Q : VK) => Q v H) (rPure d) s := SimAt.pure R h
/-! ### tests -/
def asB : D → Mo Bool
  | .v (.bl b) => rPure b
  | _ => fun _ => none
def xT (m : Mo D) : Mo Bool := rBind m asB
theorem asB_at {s : S} (R : Rep K s) {d : D} {v : V} (h : Fr K s.Z d v) : SimAt K E ms (fun _ a b => a = b) (fun _ H (Q : Bool → Hp → Prop) => ∃ k, v = .bl k ∧ Q k H) (asB d) s := by
  intro r ρ' e Q hq hx
  unfold asB at e
  split at e
  · rename_i b
    cases e
    exact ⟨b, Fr.v_iff.mp h, hq b rfl b s (Nx.refl R) rfl rfl rfl⟩
  · cases e
theorem st_test {t : TE} {m : Mo D} (h : SimE K E ms t m) : SimT K E (ms ++ []) (tTest t) (xT m) := fun s R => (h s R).bind fun s1 d v R1 _ _ hd => asB_at R1 hd
theorem st_B {t : TE} {m : Mo D} (h : SimE K E ms t m) : SimT K E (ms ++ []) (tB t) (xT m) := fun s R => (h s R).bind fun s1 d v R1 _ _ hd => asB_at R1 hd
def xAnd (a b : Mo Bool) : Mo Bool := rBind a fun x => if x = true then b else rPure false
def xOr (a b : Mo Bool) : Mo Bool := rBind a fun x => if x = true then rPure true else b
def xNot (a : Mo Bool) : Mo Bool := rBind a fun x => rPure (!x)
theorem st_and {t u : TT} {a b : Mo Bool} (ha : SimT K E ms1 t a) (hb : SimT K E ms2 u b) : SimT K E (ms1 ++ ms2) (tAnd t u) (xAnd a b) := fun s R =>
  (ha s R).bind (t2 := fun c σ H Q => if c = true then u σ H Q else Q false H) fun s1 x y R1 _ _ hxy => by
    subst hxy
    cases x with
    | true => exact hb s1 R1
    | false => exact SimAt.pure R1 rfl
theorem st_or {t u : TT} {a b : Mo Bool} (ha : SimT K E ms1 t a) (hb : SimT K E ms2 u b) : SimT K E (ms1 ++ ms2) (tOr t u) (xOr a b) := fun s R =>
  (ha s R).bind (t2 := fun c σ H Q => if c = true then Q true H else u σ H Q) fun s1 x y R1 _ _ hxy => by
    subst hxy
    cases x with
    | false => exact hb s1 R1
    | true => exact SimAt.pure R1 rfl
theorem st_not {t : TT} {a : Mo Bool} (ha : SimT K E ms1 t a) : SimT K E (ms1 ++ []) (tNot t) (xNot a) := fun s R =>
  (ha s R).bind (t2 := fun c _ H Q => Q (!c) H) fun s1 x y R1 _ _ hxy => by
    subst hxy
    exact SimAt.pure R1 rfl
/-- and, or, not as values -/
def xAndV (a b : Mo D) : Mo D := rBind a fun x => rBind (asB x) fun c => if c = true then b else rPure (.v (.bl false))
def xOrV (a b : Mo D) : Mo D := rBind a fun x => rBind (asB x) fun c => if c = true then rPure (.v (.bl true)) else b
def xNotV (a : Mo D) : Mo D := rBind a fun x => rBind (asB x) fun c => rPure (.v (.bl !c))
theorem asB_bind {α β : Type} {Rel : S → α → β → Prop} {s : S} (R : Rep K s) {d : D} {v : V} {f : Bool → Mo α} {t : Bool → L2.St → Hp → (β → Hp → Prop) → Prop} (h : Fr K s.Z d v) (hf : ∀ c, SimAt K E ms Rel (t c) (f c) s) :
    SimAt K E ms Rel (fun σ H Q => ∃ k, v = .bl k ∧ t k σ H Q) (rBind (asB d) f) s := by
  intro r ρ' e Q hq hx
  unfold rBind at e
  unfold asB at e
  split at e
  · cases e
  · rename_i e1
    split at e1
    · cases e1
    · cases e1
  · rename_i b ρ1 e1
    split at e1
    · rename_i k
      cases e1
      exact ⟨_, Fr.v_iff.mp h, hf _ r ρ' e Q hq hx⟩
    · cases e1
theorem se_andV {ta tb : TE} {a b : Mo D} (ha : SimE K E ms1 ta a) (hb : SimE K E ms2 tb b) : SimE K E (ms1 ++ ms2) (tAndV ta tb) (xAndV a b) := fun s R =>
  (ha s R).bind fun s1 d v R1 _ _ hd => asB_bind (t := fun c σ H Q => if c = true then tb σ H Q else Q (.bl false) H) R1 hd fun c => by
    cases c with
    | true => exact hb s1 R1
    | false => exact SimAt.pureE R1 (Fr.v_iff.mpr rfl)
theorem se_orV {ta tb : TE} {a b : Mo D} (ha : SimE K E ms1 ta a) (hb : SimE K E ms2 tb b) : SimE K E (ms1 ++ ms2) (tOrV ta tb) (xOrV a b) := fun s R =>
  (ha s R).bind fun s1 d v R1 _ _ hd => asB_bind (t := fun c σ H Q => if c = true then Q (.bl true) H else tb σ H Q) R1 hd fun c => by
    cases c with
    | false => exact hb s1 R1
    | true => exact SimAt.pureE R1 (Fr.v_iff.mpr rfl)
theorem se_notV {ta : TE} {a : Mo D} (ha : SimE K E ms1 ta a) : SimE K E (ms1 ++ []) (tNotV ta) (xNotV a) := fun s R =>
  (ha s R).bind fun s1 d v R1 _ _ hd => asB_bind (t := fun c _ H (Q : VK) => Q (.bl !c) H) R1 hd fun c => SimAt.pureE R1 (Fr.v_iff.mpr rfl)
def xIf {α : Type} (c : Mo Bool) (a b : Mo α) : Mo α := rBind c fun x => if x = true then a else b
theorem se_if {t : TT} {ta tb : TE} {c : Mo Bool} {a b : Mo D} (hc : SimT K E ms1 t c) (ha : SimE K E ms2 ta a) (hb : SimE K E ms3 tb b) : SimE K E (ms1 ++ (ms2 ++ ms3)) (tIf t ta tb) (xIf c a b) := fun s R =>
  (hc s R).bind (t2 := fun c σ H Q => if c = true then ta σ H Q else tb σ H Q) fun s1 x y R1 _ _ hxy => by
    subst hxy
    cases x with
    | true => exact (ha s1 R1).mono fun i hi => List.mem_append_left _ hi
    | false => exact (hb s1 R1).mono fun i hi => List.mem_append_right _ hi
/-- a < b < c, the first two frozen, the last changes nothing -/
def xChain (f g : D → D → Option D) (a b c : Mo D) : Mo D := rBind a fun x => rBind b fun y => rBind (rOpt (f x y)) fun z => rBind (asB z) fun k => if k = true then rBind c fun u => rOpt (g y u) else rPure (.v (.bl false))
theorem se_chain {r r' : R2} {f g : D → D → Option D} {ta tb tc : TE} {a b c : Mo D} (hr : OpSh K r f) (hr' : OpSh K r' g) (ha : SimE K E ms1 ta a) (hb : SimE K E ms2 tb b) (hc : SimE K E ms3 tc c) :
    SimE K E (ms1 ++ (ms2 ++ ([] ++ ms3))) (tChain r r' ta tb tc) (xChain f g a b c) := fun s R =>
  (ha s R).bind fun s1 x v R1 _ _ hx => (hb s1 R1).bind fun s2 y w R2' n2 _ hy =>
    (hr.at (ms := []) R2' (.inl (hx.mono n2.zz)) (.inl hy)).bind (ms2 := ms3) (t2 := fun z σ H Q => ∃ k, z = .bl k ∧ (if k = true then tc σ H fun w' H4 => r' w w' H4 Q else Q (.bl false) H)) fun s3 z u R3 n3 _ hz =>
      asB_bind (t := fun k σ H Q => if k = true then tc σ H fun w' H4 => r' w w' H4 Q else Q (.bl false) H) R3 hz fun k => by
        cases k with
        | true => exact SimAt.mono (ms1 := ms3 ++ []) ((hc s3 R3).bind (ms2 := []) fun s4 u' w' R4 n4 _ hu => hr'.at R4 (.inl ((hy.mono n3.zz).mono n4.zz)) (.inl hu)) (by simp)
        | false => exact SimAt.pureE R3 (Fr.v_iff.mpr rfl)
/-- the truth of a thing -/
def dTru : D → Option Bool
  | .v .non => some false
  | .v (.bl b) => some b
  | .v (.int i) => some (i != 0)
  | .v (.str y) => if y.length ≤ sizeLine then some ((y.length : Int) != 0) else none
  | .lst ds => some !ds.isEmpty
  | .tup ds => some !ds.isEmpty
  | .dk ks _ => some !ks.isEmpty
  | _ => none
theorem isEmpty_len {α β : Type} {xs : List α} {ys : List β} (h : xs.length = ys.length) : xs.isEmpty = ys.isEmpty := by
  cases xs <;> cases ys <;> simp_all
theorem Sh.tru {Z H : Hp} (zh : Same Z H) {d : D} {v : V} {k : Bool} (h : Sh K Z H d v) (e : dTru d = some k) : TruV K v H k := by
  unfold dTru at e
  split at e
  · cases e; rw [h.v]; exact rfl
  · cases e; rw [h.v]; exact rfl
  · cases e; rw [h.v]; exact rfl
  · split at e
    · rename_i hl; cases e; rw [h.v]; exact ⟨hl, rfl⟩
    · cases e
  · cases e
    obtain ⟨a, xs, rfl, h1, h2⟩ := h.lst zh
    exact .inl ⟨xs, SqL.of h1, by rw [isEmpty_len h2.length]⟩
  · cases e
    obtain ⟨a, xs, rfl, h1, h2⟩ := h.tup zh
    exact .inr (.inl ⟨xs, h1, by rw [isEmpty_len h2.length]⟩)
  · cases e
    obtain ⟨a, xs, rfl, h1, h2, _⟩ := h.dk zh
    refine .inr (.inr ⟨xs, h1, ?_⟩)
    rw [← h2]
    cases xs <;> rfl
  · cases e
def xTru (m : Mo D) : Mo Bool := rBind m fun d => rOpt (dTru d)
theorem st_tru {t : TE} {m : Mo D} (h : SimV K E ms t m) : SimT K E (ms ++ []) (fun σ H Q => t σ H fun x H' => ∃ k, TruV K x H' k ∧ Q k H') (xTru m) := fun s R =>
  (h s R).bind (t2 := fun (x : V) _ H (Q : Bool → Hp → Prop) => ∃ k, TruV K x H k ∧ Q k H) fun s1 d v R1 _ _ hd => by
    intro r ρ' e Q hq hx
    unfold rOpt at e
    split at e
    · cases e
    · rename_i k hk
      cases e
      exact ⟨k, hd.tru R1.zh hk, hq k rfl k s1 (Nx.refl R1) rfl rfl rfl⟩
/-! ### arguments of built-ins, displays -/
def lNil : Mo (List D) := rPure []
def lCons (a : Mo D) (b : Mo (List D)) : Mo (List D) := rBind a fun x => rBind b fun xs => rPure (x :: xs)
theorem sl_nil : SimL K E [] tNil lNil := fun s R => SimAt.pure R FrL.nil
theorem sl_cons {ta : TE} {tr : TA} {a : Mo D} {b : Mo (List D)} (ha : SimE K E ms1 ta a) (hb : SimL K E ms2 tr b) : SimL K E (ms1 ++ (ms2 ++ [])) (tCons ta tr) (lCons a b) := fun s R =>
  (ha s R).bind fun s1 x v R1 _ _ hx => (hb s1 R1).bind (t2 := fun vs _ H Q => Q (v :: vs) H) fun s2 xs vs R2' n _ hxs => SimAt.pure R2' (FrL.cons (hx.mono n.zz) hxs)
/-- a tuple, a list: new and frozen -/
def xTup (m : Mo (List D)) : Mo D := rBind m fun ds => if ds.length ≤ sizeLine then rPure (.tup ds) else fun _ => none
def xLst (m : Mo (List D)) : Mo D := rBind m fun ds => if ds.length ≤ sizeLine then rPure (.lst ds) else fun _ => none
theorem se_tup {t : TA} {m : Mo (List D)} (h : SimL K E ms t m) : SimE K E (ms ++ []) (tTup t) (xTup m) := fun s R =>
  (h s R).bind (t2 := fun (xs : List V) _ H (Q : VK) => xs.length ≤ sizeLine ∧ ∀ p, H p = none → Q (.ref p) (upd H p (.tup xs))) fun s1 ds xs R1 _ _ hd => by
    intro r ρ' e Q hq hx
    split at e
    · rename_i hl
      cases e
      refine ⟨by rw [FrL.length hd]; exact hl, fun p hp => ?_⟩
      exact hq _ rfl _ _ (Nx.alloc R1 (.tup xs) hp) rfl rfl (Fr.tup_new (R1.zn hp) hd)
    · cases e
theorem se_lst {t : TA} {m : Mo (List D)} (h : SimL K E ms t m) : SimE K E (ms ++ []) (tLst t) (xLst m) := fun s R =>
  (h s R).bind (t2 := fun (xs : List V) _ H (Q : VK) => xs.length ≤ sizeLine ∧ ∀ p, H p = none → Q (.ref p) (upd H p (.lst xs))) fun s1 ds xs R1 _ _ hd => by
    intro r ρ' e Q hq hx
    split at e
    · rename_i hl
      cases e
      refine ⟨by rw [FrL.length hd]; exact hl, fun p hp => ?_⟩
      exact hq _ rfl _ _ (Nx.alloc R1 (.lst xs) hp) rfl rfl (Fr.lst_new (R1.zn hp) hd)
    · cases e
/-! ### built-ins of one argument, which may be owned -/
def CbSh (K : PySem.W.Frag) (r : List V → Hp → VK → Prop) (f : D → Option D) : Prop := ∀ Z H, Same Z H → ∀ x v d, Sh K Z H x v → f x = some d → ∀ Q : VK, (∀ u Z' H', Ext Z H Z' H' → Fr K Z' d u → Q u H') → r [v] H Q
def CbL (K : PySem.W.Frag) (r : List V → Hp → VK → Prop) (f : List D → Option D) : Prop := ∀ Z H, Same Z H → ∀ xs vs d, FrL K Z xs vs → f xs = some d → ∀ Q : VK, (∀ u Z' H', Ext Z H Z' H' → Fr K Z' d u → Q u H') → r vs H Q
theorem se_cb1 {r : List V → Hp → VK → Prop} {f : D → Option D} {t : TE} {m : Mo D} (hr : CbSh K r f) (h : SimV K E ms t m) : SimE K E (ms ++ []) (tCB r (tCons t tNil)) (xUn f m) := fun s R =>
  (h s R).bind (t2 := fun (v : V) _ H (Q : VK) => r [v] H Q) fun s1 x v R1 _ _ hx => by
    intro q ρ' e Q hq _
    unfold rOpt at e
    split at e
    · cases e
    · rename_i d hd
      cases e
      exact hr s1.Z s1.H R1.zh x v d hx hd Q fun u Z' H' ex fr => hq d rfl u { s1 with Z := Z', H := H' } (ex.nx R1) rfl rfl fr
def xCb (f : List D → Option D) (m : Mo (List D)) : Mo D := rBind m fun ds => rOpt (f ds)
theorem se_cb {r : List V → Hp → VK → Prop} {f : List D → Option D} {t : TA} {m : Mo (List D)} (hr : CbL K r f) (h : SimL K E ms t m) : SimE K E (ms ++ []) (tCB r t) (xCb f m) := fun s R =>
  (h s R).bind (t2 := fun (vs : List V) _ H (Q : VK) => r vs H Q) fun s1 xs vs R1 _ _ hx => by
    intro q ρ' e Q hq _
    unfold rOpt at e
    split at e
    · cases e
    · rename_i d hd
      cases e
      exact hr s1.Z s1.H R1.zh xs vs d hx hd Q fun u Z' H' ex fr => hq d rfl u { s1 with Z := Z', H := H' } (ex.nx R1) rfl rfl fr
/-- len -/
def dLen : D → Option D
  | .v (.str x) => if x.length ≤ sizeLine then some (.v (.int x.length)) else none
  | .lst ds => some (.v (.int ds.length))
  | .tup ds => some (.v (.int ds.length))
  | .scr ns => some (.v (.int ns.length))
  | .dk ks _ => some (.v (.int ks.length))
  | _ => none
def rLenU (K : PySem.W.Frag) : List V → Hp → VK → Prop := fun xs H Q => (∃ x n, xs = [x] ∧ LenV K x H n ∧ Q (.int n) H) ∨ ∃ a kvs, xs = [V.ref a] ∧ H a = some (.dK kvs) ∧ Q (.int kvs.length) H
theorem CallR.or {X : Cx} {f : Value} {r r' : List V → Hp → VK → Prop} (h : CallR X f r) (h' : CallR X f r') : CallR X f (fun xs H Q => r xs H Q ∨ r' xs H Q) := by
  intro pins s σ H xs us Q I r0 q
  rcases q with q | q
  · exact h pins s σ H xs us Q I r0 q
  · exact h' pins s σ H xs us Q I r0 q
theorem call_lenU {X : Cx} : CallR X (.builtin "len") (rLenU X.K) := CallR.or call_len call_lenD
theorem cs_len : CbSh K (rLenU K) dLen := by
  intro Z H zh x v d hx e Q hq
  unfold dLen at e
  split at e
  · split at e
    · rename_i hl
      cases e
      rw [hx.v]
      exact .inl ⟨_, _, rfl, ⟨hl, rfl⟩, hq _ Z H (.refl zh) (Fr.v_iff.mpr rfl)⟩
    · cases e
  · cases e
    obtain ⟨a, xs, rfl, h1, h2⟩ := hx.lst zh
    exact .inl ⟨_, xs.length, rfl, .inl ⟨xs, SqL.of h1, rfl⟩, hq _ Z H (.refl zh) (Fr.v_iff.mpr (by rw [h2.length]))⟩
  · cases e
    obtain ⟨a, xs, rfl, h1, h2⟩ := hx.tup zh
    exact .inl ⟨_, xs.length, rfl, .inr ⟨xs, h1, rfl⟩, hq _ Z H (.refl zh) (Fr.v_iff.mpr (by rw [h2.length]))⟩
  · cases e
    obtain ⟨a, rfl, h1⟩ := hx.scr zh
    exact .inl ⟨_, _, rfl, .inl ⟨_, h1, rfl⟩, hq _ Z H (.refl zh) (Fr.v_iff.mpr (by rw [List.length_map]))⟩
  · cases e
    obtain ⟨a, kvs, rfl, h1, h2, _⟩ := hx.dk zh
    exact .inr ⟨a, kvs, rfl, h1, hq _ Z H (.refl zh) (Fr.v_iff.mpr (by rw [← h2, List.length_map]))⟩
  · cases e
/-- list(x), tuple(x) of a list or tuple -/
def dList : D → Option D
  | .lst ds => some (.lst ds)
  | .tup ds => some (.lst ds)
  | _ => none
def dTuple : D → Option D
  | .lst ds => some (.tup ds)
  | .tup ds => some (.tup ds)
  | _ => none
theorem cs_list : CbSh K (fun xs H Q => ∃ p ys, xs = [.ref p] ∧ (SqL K H p ys ∨ SqT K H p ys) ∧ ∀ l, H l = none → Q (.ref l) (upd H l (.lst ys))) dList := by
  intro Z H zh x v d hx e Q hq
  unfold dList at e
  split at e
  · cases e
    obtain ⟨a, xs, rfl, h1, h2⟩ := hx.lst zh
    exact ⟨a, xs, rfl, .inl (SqL.of h1), fun l hl => hq _ _ _ (.alloc zh _ hl) (Fr.lst_new (zh.free hl) h2)⟩
  · cases e
    obtain ⟨a, xs, rfl, h1, h2⟩ := hx.tup zh
    exact ⟨a, xs, rfl, .inr h1, fun l hl => hq _ _ _ (.alloc zh _ hl) (Fr.lst_new (zh.free hl) h2)⟩
  · cases e
theorem cs_tuple : CbSh K (fun xs H Q => ∃ p ys, xs = [.ref p] ∧ ((SqL K H p ys ∧ ∀ l, H l = none → Q (.ref l) (upd H l (.tup ys))) ∨ (SqT K H p ys ∧ Q (.ref p) H))) dTuple := by
  intro Z H zh x v d hx e Q hq
  unfold dTuple at e
  split at e
  · cases e
    obtain ⟨a, xs, rfl, h1, h2⟩ := hx.lst zh
    exact ⟨a, xs, rfl, .inl ⟨SqL.of h1, fun l hl => hq _ _ _ (.alloc zh _ hl) (Fr.tup_new (zh.free hl) h2)⟩⟩
  · cases e
    rename_i ds
    rcases hx with hx | ⟨_, _, _, _, h, _⟩ | ⟨_, _, _, _, _, h, _⟩
    · obtain ⟨a, xs, rfl, h1, h2⟩ := Fr.tup_iff.mp hx
      exact ⟨a, xs, rfl, .inr ⟨same_tup zh h1, hq _ Z H (.refl zh) hx⟩⟩
    · cases h
    · cases h
  · cases e
/-- all, any of a list of truths -/
def D.bls : List D → Option (List Bool)
  | [] => some []
  | .v (.bl b) :: ds => (D.bls ds).map fun bs => b :: bs
  | _ :: _ => none
theorem D.bls_some {Z : Hp} : ∀ {ds : List D} {xs : List V} {bs : List Bool}, D.bls ds = some bs → FrL K Z ds xs → xs = bs.map V.bl
  | [], xs, bs, e, h => by cases e; exact FrL.nil_iff.mp h
  | d :: ds, xs, bs, e, h => by
    obtain ⟨x, r, rfl, h1, h2⟩ := FrL.cons_iff.mp h
    unfold D.bls at e
    split at e
    · cases ‹_ :: _ = []›
    · rename_i b ds' heq
      cases heq
      obtain ⟨cs, e1, rfl⟩ := Option.map_eq_some_iff.mp e
      rw [D.bls_some e1 h2, Fr.v_iff.mp h1]
      rfl
    · cases e
def dAll : D → Option D
  | .lst ds => (D.bls ds).map fun bs => .v (.bl (bs.all id))
  | _ => none
def dAny : D → Option D
  | .lst ds => (D.bls ds).map fun bs => .v (.bl (bs.any id))
  | _ => none
theorem cs_all : CbSh K (rAll K) dAll := by
  intro Z H zh x v d hx e Q hq
  unfold dAll at e
  split at e
  · obtain ⟨bs, e1, rfl⟩ := Option.map_eq_some_iff.mp e
    obtain ⟨a, xs, rfl, h1, h2⟩ := hx.lst zh
    have := D.bls_some e1 h2
    subst this
    exact ⟨a, bs, rfl, SqL.of h1, hq _ Z H (.refl zh) (Fr.v_iff.mpr rfl)⟩
  · cases e
theorem cs_any : CbSh K (rAny K) dAny := by
  intro Z H zh x v d hx e Q hq
  unfold dAny at e
  split at e
  · obtain ⟨bs, e1, rfl⟩ := Option.map_eq_some_iff.mp e
    obtain ⟨a, xs, rfl, h1, h2⟩ := hx.lst zh
    have := D.bls_some e1 h2
    subst this
    exact ⟨a, bs, rfl, SqL.of h1, hq _ Z H (.refl zh) (Fr.v_iff.mpr rfl)⟩
  · cases e
/-- abs, int, min, max -/
def dAbs : D → Option D
  | .v (.int i) => some (.v (.int (if i < 0 then -i else i)))
  | _ => none
theorem cs_abs : CbSh K (fun xs H Q => ∃ i, xs = [.int i] ∧ Q (.int (if i < 0 then -i else i)) H) dAbs := by
  intro Z H zh x v d hx e Q hq
  unfold dAbs at e
  split at e
  · cases e
    exact ⟨_, by rw [hx.v], hq _ Z H (.refl zh) (Fr.v_iff.mpr rfl)⟩
  · cases e
def dInt : D → Option D
  | .v (.int i) => some (.v (.int i))
  | .v (.bl k) => some (.v (.int (if k then 1 else 0)))
  | _ => none
theorem cs_int : CbSh K (fun xs H Q => (∃ i, xs = [.int i] ∧ Q (.int i) H) ∨ ∃ k, xs = [.bl k] ∧ Q (.int (if k then 1 else 0)) H) dInt := by
  intro Z H zh x v d hx e Q hq
  unfold dInt at e
  split at e
  · cases e
    exact .inl ⟨_, by rw [hx.v], hq _ Z H (.refl zh) (Fr.v_iff.mpr rfl)⟩
  · cases e
    exact .inr ⟨_, by rw [hx.v], hq _ Z H (.refl zh) (Fr.v_iff.mpr rfl)⟩
  · cases e
def dMin2 : List D → Option D
  | [.v (.int i), .v (.int j)] => some (.v (.int (if j < i then j else i)))
  | _ => none
theorem cl_min2 : CbL K (fun xs H Q => ∃ i j, xs = [.int i, .int j] ∧ Q (.int (if j < i then j else i)) H) dMin2 := by
  intro Z H zh xs vs d hx e Q hq
  unfold dMin2 at e
  split at e
  · cases e
    obtain ⟨a, r, rfl, h1, h2⟩ := FrL.cons_iff.mp hx
    obtain ⟨b, r, rfl, h3, h4⟩ := FrL.cons_iff.mp h2
    rw [FrL.nil_iff.mp h4, Fr.v_iff.mp h1, Fr.v_iff.mp h3]
    exact ⟨_, _, rfl, hq _ Z H (.refl zh) (Fr.v_iff.mpr rfl)⟩
  · cases e
def dMax2 : List D → Option D
  | [.v (.int i), .v (.int j)] => some (.v (.int (if j > i then j else i)))
  | _ => none
theorem cl_max2 : CbL K (fun xs H Q => ∃ i j, xs = [.int i, .int j] ∧ Q (.int (if j > i then j else i)) H) dMax2 := by
  intro Z H zh xs vs d hx e Q hq
  unfold dMax2 at e
  split at e
  · cases e
    obtain ⟨a, r, rfl, h1, h2⟩ := FrL.cons_iff.mp hx
    obtain ⟨b, r, rfl, h3, h4⟩ := FrL.cons_iff.mp h2
    rw [FrL.nil_iff.mp h4, Fr.v_iff.mp h1, Fr.v_iff.mp h3]
    exact ⟨_, _, rfl, hq _ Z H (.refl zh) (Fr.v_iff.mpr rfl)⟩
  · cases e
/-! ### o.f of frozen instances; slices -/
def flook (fs : List Str) (ds : List D) (f : Str) : Option D := (fs.findIdx? fun x => decide (x = f)).bind fun i => ds[i]?
def dFld (C : Addr) (f : Str) : D → Option D
  | .ins c fs ds => if c = C then flook fs ds f else none
  | _ => none
theorem se_fld {C : Addr} {f : Str} {t : TE} {m : Mo D} (hc : Cls K C) (hn : NoAttr K C f) (h : SimE K E ms t m) : SimE K E (ms ++ []) (tFld K t f) (xUn (dFld C f) m) := fun s R =>
  (h s R).bind (t2 := fun (x : V) _ H (Q : VK) => ∃ a C dx fs v, x = .ref a ∧ H a = some (.ins C dx fs) ∧ Cls K C ∧ NoAttr K C f ∧ fs.lookup f = some v ∧ Q v H) fun s1 x v R1 _ _ hx => by
    intro q ρ' e Q hq _
    unfold rOpt at e
    split at e
    · cases e
    · rename_i d hd
      cases e
      unfold dFld at hd
      split at hd
      · rename_i c fs ds
        split at hd
        · rename_i hcc
          subst hcc
          unfold flook at hd
          obtain ⟨i, e3, e4⟩ := Option.bind_eq_some_iff.mp hd
          obtain ⟨a, dx, fvs, rfl, h1, h2, h3⟩ := Fr.ins_iff.mp hx
          obtain ⟨z, hz, fr⟩ := h3.get e4
          exact ⟨a, _, dx, fvs, z, rfl, R1.zh _ _ h1, hc, hn, look_at (by rw [h2]; exact e3) hz, hq _ rfl _ s1 (Nx.refl R1) rfl rfl fr⟩
        · cases hd
      · cases hd
abbrev SimO' (K : PySem.W.Frag) (E : XK) (ms : List Nat) (t : TO) (m : Mo (Option Int)) : Prop := SimG K E ms (fun _ a b => a = b) t m
def oNo : Mo (Option Int) := rPure none
def oPart (m : Mo D) : Mo (Option Int) := rBind m fun d => match d with
  | .v (.int i) => rPure (some i)
  | _ => fun _ => none
theorem so_none : SimO' K E [] tNoPart oNo := fun s R => SimAt.pure R rfl
theorem so_some {t : TE} {m : Mo D} (h : SimE K E ms t m) : SimO' K E (ms ++ []) (tPart t) (oPart m) := fun s R =>
  (h s R).bind (t2 := fun (x : V) _ H (Q : Option Int → Hp → Prop) => ∃ i, x = .int i ∧ Q (some i) H) fun s1 d v R1 _ _ hd => by
    intro r ρ' e Q hq hx
    split at e
    · cases e
      exact ⟨_, Fr.v_iff.mp hd, hq _ rfl _ s1 (Nx.refl R1) rfl rfl rfl⟩
    · cases e
def cutD {α : Type} (xs : List α) (lo hi : Option Int) : List α := (xs.drop (HT.sIx xs.length 0 lo)).take (HT.sIx xs.length xs.length hi - HT.sIx xs.length 0 lo)
theorem FrL.cut {Z : Hp} {ds : List D} {xs : List V} (h : FrL K Z ds xs) (lo hi : Option Int) : FrL K Z (cutD ds lo hi) (cutV xs lo hi) := by
  unfold cutD cutV
  rw [h.length]
  exact (h.drop _).take _
def dSl : D → Option Int → Option Int → Option D
  | .lst ds, lo, hi => some (.lst (cutD ds lo hi))
  | _, _, _ => none
/-- a list's slice, whatever list; what the bounds do changes nothing -/
def xSl (f : D → Option Int → Option Int → Option D) (m : Mo D) (lo hi : Mo (Option Int)) : Mo D := rBind m fun d => rBind lo fun l => rBind hi fun h => rOpt (f d l h)
theorem se_slL {t : TE} {tl th : TO} {m : Mo D} {lo hi : Mo (Option Int)} (h : SimV K E ms t m) (hl : SimO' K E [] tl lo) (hh : SimO' K E [] th hi) : SimE K E (ms ++ ([] ++ ([] ++ []))) (tSl (rSlL K) t tl th) (xSl dSl m lo hi) := fun s R =>
  (h s R).bind fun s1 d v R1 _ _ hd => (hl s1 R1).bind fun s2 l l' R2' n2 _ e2 => (hh s2 R2').bind fun s3 u u' R3 n3 _ e3 => by
    subst e2 e3
    intro r ρ' e Q hq hx
    have hd3 := (hd.ext n2.zz (n2.same (by simp))).ext n3.zz (n3.same (by simp))
    unfold rOpt at e
    split at e
    · cases e
    · rename_i d' hd'
      cases e
      unfold dSl at hd'
      split at hd'
      · cases hd'
        obtain ⟨a, xs, rfl, h1, h2⟩ := hd3.lst R3.zh
        exact ⟨a, xs, rfl, SqL.of h1, fun p hp => hq _ rfl _ _ (Nx.alloc R3 _ hp) rfl rfl (Fr.lst_new (R3.zn hp) (h2.cut l u))⟩
      · cases hd'
end
end Dat
/-! Dat6: owned results, calls of defs, what a def promises. -/
namespace Dat
open PySem PySem.Spec PyProof.Rows L2
inductive Res where
  | ret (o : O) (outs : List O)
  | exc (x : Xc) (outs : List O)
section
variable (K : PySem.W.Frag) (E : XK)
/-- a def's promise: what it does to its arguments, as a function -/
def spD (F : List O → Option Res) : Sp := fun vs H Q E => ∃ s os res, Rep K s ∧ s.H = H ∧ s.σ = vs.map some ∧ s.ρ = os.map some ∧ F os = some res ∧
  (∀ o outs, res = .ret o outs → ∀ v Fv s', Nx K (fun _ => True) s s' → s'.σ = s.σ → s'.ρ = outs.map some → Tmp K (fun _ => True) s s' o v Fv → Q v s'.H) ∧
  (∀ x outs, res = .exc x outs → ExEv K E (fun _ => True) s x (outs.map some))
/-- an expression whose value is owned, new -/
def SimO (ms : List Nat) (t : TE) (m : Mo O) : Prop := ∀ s, Rep K s → ∀ r ρ', m s.ρ = some (r, ρ') → ∀ Q : VK,
  (∀ o, r = .ok o → ∀ v F s', Nx K (· ∈ ms) s s' → s'.σ = s.σ → s'.ρ = ρ' → Tmp K (· ∈ ms) s s' o v F → Q v s'.H) → (∀ x, r = .error x → ExEv K E (· ∈ ms) s x ρ') → t s.σ s.H Q
end
inductive Arg where
  | dat (d : D)
  | ref (i : Nat)
inductive ArL (K : PySem.W.Frag) (s : S) : List Arg → List Nat → List V → Prop
  | nil : ArL K s [] [] []
  | dat {d : D} {v : V} {as : List Arg} {is : List Nat} {vs : List V} : Fr K s.Z d v → ArL K s as is vs → ArL K s (.dat d :: as) is (v :: vs)
  | ref {i : Nat} {v : V} {as : List Arg} {is : List Nat} {vs : List V} : s.σ[i]? = some (some v) → ArL K s as is vs → ArL K s (.ref i :: as) (i :: is) (v :: vs)
def Arg.o (ρ : Env) : Arg → Option O
  | .dat d => some (.d d)
  | .ref i => match ρ[i]? with
    | some (some o) => some o
    | _ => none
def argsO (ρ : Env) : List Arg → Option (List O)
  | [] => some []
  | a :: as => match a.o ρ, argsO ρ as with
    | some o, some os => some (o :: os)
    | _, _ => none
def writeB : Env → List Arg → List O → Env
  | ρ, .ref i :: as, o :: os => writeB (ρ.set i (some o)) as os
  | ρ, .dat _ :: as, _ :: os => writeB ρ as os
  | ρ, _, _ => ρ
section
variable {K : PySem.W.Frag} {E : XK} {ms ms1 ms2 : List Nat} {s s1 s2 : S}
theorem ArL.go {as : List Arg} {is : List Nat} {vs : List V} (h : ArL K s as is vs) (z : Same s.Z s1.Z) (e : s1.σ = s.σ) : ArL K s1 as is vs := by
  induction h with
  | nil => exact .nil
  | dat h _ ih => exact .dat (h.mono z) ih
  | ref h _ ih => exact .ref (by rw [e]; exact h) ih
/-- the callee's own state: its parameters -/
def calS (s : S) (as : List Arg) (os : List O) (vs : List V) : S := { Z := s.Z, H := s.H, σ := vs.map some, ρ := os.map some, Fs := fun j => match as[j]? with
  | some (.ref i) => s.Fs i
  | _ => [] }
theorem ArL.mem {as : List Arg} {is : List Nat} {vs : List V} (h : ArL K s as is vs) : ∀ {j i : Nat}, as[j]? = some (Arg.ref i) → i ∈ is := by
  induction h with
  | nil => intro j i e; simp at e
  | dat _ _ ih =>
    intro j i e
    cases j with
    | zero => simp at e
    | succ j => exact ih (by simpa using e)
  | ref _ _ ih =>
    intro j i e
    cases j with
    | zero => simp at e; subst e; exact List.mem_cons_self
    | succ j => exact List.mem_cons_of_mem _ (ih (by simpa using e))
theorem ArL.inj {as : List Arg} {is : List Nat} {vs : List V} (h : ArL K s as is vs) : is.Nodup → ∀ {j k i : Nat}, as[j]? = some (Arg.ref i) → as[k]? = some (Arg.ref i) → j = k := by
  induction h with
  | nil => intro _ j k i e; simp at e
  | dat _ _ ih =>
    intro nd j k i e1 e2
    cases j with
    | zero => simp at e1
    | succ j =>
      cases k with
      | zero => simp at e2
      | succ k => exact congrArg Nat.succ (ih nd (by simpa using e1) (by simpa using e2))
  | @ref i0 v0 as is vs _ hr ih =>
    intro nd j k i e1 e2
    have n1 := List.nodup_cons.mp nd
    cases j with
    | zero =>
      simp at e1
      subst e1
      cases k with
      | zero => rfl
      | succ k => exact absurd (hr.mem (j := k) (by simpa using e2)) n1.1
    | succ j =>
      cases k with
      | zero =>
        simp at e2
        subst e2
        exact absurd (hr.mem (j := j) (by simpa using e1)) n1.1
      | succ k => exact congrArg Nat.succ (ih n1.2 (by simpa using e1) (by simpa using e2))
theorem ArL.vals {as : List Arg} {is : List Nat} {vs : List V} (h : ArL K s as is vs) : ∀ {os : List O}, argsO s.ρ as = some os → ∀ {j : Nat} {o : O}, os[j]? = some o → ∃ v a, vs[j]? = some v ∧ as[j]? = some a ∧ a.o s.ρ = some o ∧
    (∀ i, a = .ref i → s.σ[i]? = some (some v)) ∧ (∀ d, a = .dat d → Fr K s.Z d v) := by
  induction h with
  | nil => intro os e j o eo; cases e; simp at eo
  | @dat d v as is vs hd _ ih =>
    intro os e j o eo
    unfold argsO at e
    split at e
    · rename_i o1 os1 e1 e2
      cases e
      cases j with
      | zero =>
        simp at eo; subst eo
        refine ⟨v, .dat d, rfl, rfl, e1, ?_, ?_⟩
        · intro i h; cases h
        · intro d' h; cases h; exact hd
      | succ j =>
        obtain ⟨v', a, h1, h2, h3⟩ := ih e2 (j := j) (o := o) (by simpa using eo)
        exact ⟨v', a, by simpa using h1, by simpa using h2, h3⟩
    · cases e
  | @ref i v as is vs hd _ ih =>
    intro os e j o eo
    unfold argsO at e
    split at e
    · rename_i o1 os1 e1 e2
      cases e
      cases j with
      | zero =>
        simp at eo; subst eo
        refine ⟨v, .ref i, rfl, rfl, e1, ?_, ?_⟩
        · intro i h; cases h; exact hd
        · intro d' h; cases h
      | succ j =>
        obtain ⟨v', a, h1, h2, h3⟩ := ih e2 (j := j) (o := o) (by simpa using eo)
        exact ⟨v', a, by simpa using h1, by simpa using h2, h3⟩
    · cases e
theorem ArL.len {as : List Arg} {is : List Nat} {vs : List V} (h : ArL K s as is vs) : as.length = vs.length := by
  induction h with
  | nil => rfl
  | dat _ _ ih => simp [ih]
  | ref _ _ ih => simp [ih]
theorem argsO_len {ρ : Env} : ∀ {as : List Arg} {os : List O}, argsO ρ as = some os → os.length = as.length
  | [], os, e => by cases e; rfl
  | a :: as, os, e => by
    unfold argsO at e
    split at e
    · rename_i o1 os1 e1 e2
      cases e
      simp [argsO_len e2]
    · cases e
theorem Arg.o_ref {ρ : Env} {i : Nat} {o : O} (h : (Arg.ref i).o ρ = some o) : ρ[i]? = some (some o) := by
  have h : (match ρ[i]? with | some (some o) => some o | _ => none) = some o := h
  split at h
  · cases h
    assumption
  · cases h
theorem map_some_get {α : Type} {l : List α} {i : Nat} {a : α} (h : (l.map some)[i]? = some (some a)) : l[i]? = some a := by
  rw [List.getElem?_map] at h
  cases e : l[i]? with
  | none => rw [e] at h; cases h
  | some b => rw [e] at h; cases h; rfl
theorem calS_rep (R : Rep K s) {as : List Arg} {is : List Nat} {vs : List V} {os : List O} (h : ArL K s as is vs) (nd : is.Nodup) (e : argsO s.ρ as = some os) : Rep K (calS s as os vs) where
  zh := R.zh
  len := by simp [calS, h.len ▸ argsO_len e]
  own := fun j o eo => by
    have eo : os[j]? = some o := map_some_get eo
    obtain ⟨v, a, h1, h2, h3, h4, h5⟩ := h.vals e eo
    refine ⟨v, by show (vs.map some)[j]? = _; rw [List.getElem?_map, h1]; rfl, ?_⟩
    show Ow K s.Z s.H o v (match as[j]? with | some (.ref i) => s.Fs i | _ => [])
    rw [h2]
    cases a with
    | dat d =>
      cases h3
      exact Ow.d_iff.mpr ⟨rfl, h5 d rfl⟩
    | ref i =>
      obtain ⟨w, hw, q⟩ := R.own i o (Arg.o_ref h3)
      rw [h4 i rfl] at hw
      cases hw
      exact q
  emp := fun j hj => by
    show (match as[j]? with | some (.ref i) => s.Fs i | _ => []) = []
    cases ea : as[j]? with
    | none => rfl
    | some a =>
      have hlt : j < os.length := by rw [argsO_len e]; exact (List.getElem?_eq_some_iff.mp ea).1
      exact absurd (show (os.map some)[j]? = some (some os[j]) by rw [List.getElem?_map, List.getElem?_eq_getElem hlt]; rfl) (hj _)
  nd := fun j => by
    show (match as[j]? with | some (.ref i) => s.Fs i | _ => []).Nodup
    split
    · exact R.nd _
    · exact List.nodup_nil
  dj := fun j k b hjk h1 h2 => by
    have h1 : b ∈ (match as[j]? with | some (.ref i) => s.Fs i | _ => []) := h1
    have h2 : b ∈ (match as[k]? with | some (.ref i) => s.Fs i | _ => []) := h2
    split at h1
    · rename_i i ei
      split at h2
      · rename_i l el
        refine R.dj i l b (fun z => ?_) h1 h2
        subst z
        exact hjk (h.inj nd ei el)
      · cases h2
    · cases h1
theorem writeB_ne : ∀ {as : List Arg} {os : List O} {ρ : Env} {i : Nat}, (∀ j : Nat, as[j]? ≠ some (Arg.ref i)) → (writeB ρ as os)[i]? = ρ[i]?
  | [], os, ρ, i, h => by unfold writeB; rfl
  | .dat d :: as, [], ρ, i, h => by unfold writeB; rfl
  | .ref k :: as, [], ρ, i, h => by unfold writeB; rfl
  | .dat d :: as, o :: os, ρ, i, h => by
    unfold writeB
    exact writeB_ne fun j hj => h (j + 1) (by simpa using hj)
  | .ref k :: as, o :: os, ρ, i, h => by
    unfold writeB
    rw [writeB_ne fun j hj => h (j + 1) (by simpa using hj), List.getElem?_set_ne (fun z => h 0 (by simp [z]))]
theorem writeB_len : ∀ {as : List Arg} {os : List O} {ρ : Env}, (writeB ρ as os).length = ρ.length
  | [], os, ρ => by unfold writeB; rfl
  | .dat d :: as, [], ρ => by unfold writeB; rfl
  | .ref k :: as, [], ρ => by unfold writeB; rfl
  | .dat d :: as, o :: os, ρ => by unfold writeB; exact writeB_len
  | .ref k :: as, o :: os, ρ => by unfold writeB; rw [writeB_len, List.length_set]
theorem ArL.writeB {as : List Arg} {is : List Nat} {vs : List V} (h : ArL K s as is vs) : is.Nodup → ∀ {os : List O} {ρ : Env} {j i : Nat} {o : O}, as[j]? = some (Arg.ref i) → os[j]? = some o → os.length = as.length → i < ρ.length → (Dat.writeB ρ as os)[i]? = some (some o) := by
  induction h with
  | nil => intro _ os ρ j i o e; simp at e
  | @dat d v as is vs hd hr ih =>
    intro nd os ρ j i o e1 e2 hl hi
    cases os with
    | nil => simp at e2
    | cons p os =>
      cases j with
      | zero => simp at e1
      | succ j =>
        unfold Dat.writeB
        exact ih nd (j := j) (by simpa using e1) (by simpa using e2) (by simpa using hl) hi
  | @ref i0 v as is vs hd hr ih =>
    intro nd os ρ j i o e1 e2 hl hi
    have n1 := List.nodup_cons.mp nd
    cases os with
    | nil => simp at e2
    | cons p os =>
      unfold Dat.writeB
      cases j with
      | zero =>
        simp at e1 e2
        subst e1 e2
        rw [writeB_ne fun j hj => n1.1 (hr.mem hj), List.getElem?_set_self hi]
      | succ j => exact ih n1.2 (j := j) (by simpa using e1) (by simpa using e2) (by simpa using hl) (by simpa using hi)
/-- behind a call: the caller's slots -/
theorem call_back (R : Rep K s) {as : List Arg} {is : List Nat} {vs : List V} {os outs : List O} (h : ArL K s as is vs) (nd : is.Nodup) (e : argsO s.ρ as = some os) {s' : S} (n : Nx K (fun _ => True) (calS s as os vs) s') (hs : s'.σ = (calS s as os vs).σ) (hρ : s'.ρ = outs.map some) :
    ∃ s2, Nx K (· ∈ is) s s2 ∧ s2.σ = s.σ ∧ s2.ρ = writeB s.ρ as outs ∧ s2.Z = s'.Z ∧ s2.H = s'.H ∧ (∀ i b, b ∈ s2.Fs i → i ∈ is → ∃ j, b ∈ s'.Fs j) ∧ (∀ i b, b ∈ s2.Fs i → i ∉ is → b ∈ s.Fs i) := by
  have hlen : outs.length = as.length := by
    have h1 := n.rep.len
    rw [hρ, hs] at h1
    simp only [calS, List.length_map] at h1
    rw [← h1, h.len]
  have Rc := calS_rep R h nd e
  -- the place of a slot among the arguments
  let pos : Nat → Option Nat := fun i => as.findIdx? fun (a : Arg) => match a with | .ref k => decide (k = i) | _ => false
  have pos_some : ∀ {i j}, pos i = some j → as[j]? = some (Arg.ref i) := fun {i j} hp => by
    obtain ⟨hlt, hp1, _⟩ := List.findIdx?_eq_some_iff_getElem.mp hp
    rw [List.getElem?_eq_getElem hlt]
    split at hp1
    · rename_i k hk
      rw [hk, of_decide_eq_true hp1]
    · cases hp1
  have pos_of : ∀ {i j}, as[j]? = some (Arg.ref i) → pos i = some j := fun {i j} ha => by
    cases hp : pos i with
    | none =>
      have := List.findIdx?_eq_none_iff.mp hp (.ref i) (List.mem_of_getElem? ha)
      simp at this
    | some k => rw [h.inj nd (pos_some hp) ha]
  have pos_none : ∀ {i}, pos i = none → ∀ j : Nat, as[j]? ≠ some (Arg.ref i) := fun {i} hp j ha => by rw [pos_of ha] at hp; cases hp
  have memis : ∀ {i}, i ∈ is → ∃ j : Nat, as[j]? = some (Arg.ref i) := by
    intro i hi
    clear n hs hρ hlen Rc pos pos_some pos_of pos_none e
    induction h with
    | nil => cases hi
    | dat _ _ ih =>
      obtain ⟨j, hj⟩ := ih nd hi
      exact ⟨j + 1, by simpa using hj⟩
    | ref _ _ ih =>
      rcases List.mem_cons.mp hi with rfl | hi
      · exact ⟨0, rfl⟩
      · obtain ⟨j, hj⟩ := ih (List.nodup_cons.mp nd).2 hi
        exact ⟨j + 1, by simpa using hj⟩
  have cFs : ∀ {j i}, as[j]? = some (Arg.ref i) → (calS s as os vs).Fs j = s.Fs i := fun {j i} ha => by
    show (match as[j]? with | some (.ref i) => s.Fs i | _ => []) = _
    rw [ha]
  have cIn : ∀ {j b}, b ∈ (calS s as os vs).Fs j → ∃ i, as[j]? = some (Arg.ref i) ∧ b ∈ s.Fs i := fun {j b} hb => by
    have hb : b ∈ (match as[j]? with | some (.ref i) => s.Fs i | _ => []) := hb
    split at hb
    · rename_i i hi
      exact ⟨i, hi, hb⟩
    · cases hb
  -- a slot that is no argument stays
  have stay : ∀ i b, pos i = none → b ∈ s.Fs i → s'.H b = s.H b ∧ s'.Z b = none := fun i b hp hb => by
    obtain ⟨z, u, hu⟩ := R.st hb
    have := n.z_of (b := b) z ⟨u, hu⟩ fun j hj => by
      obtain ⟨k, hk, hbk⟩ := cIn hj
      refine R.dj i k b (fun z => ?_) hb hbk
      subst z
      exact pos_none hp j hk
    exact this
  let Fs2 : Nat → List Addr := fun i => match pos i with
    | some j => s'.Fs j
    | none => s.Fs i
  have f2s : ∀ {i j}, pos i = some j → Fs2 i = s'.Fs j := fun {i j} hp => by show (match pos i with | some j => s'.Fs j | none => s.Fs i) = _; rw [hp]
  have f2n : ∀ {i}, pos i = none → Fs2 i = s.Fs i := fun {i} hp => by show (match pos i with | some j => s'.Fs j | none => s.Fs i) = _; rw [hp]
  have fresh : ∀ {j b}, b ∈ s'.Fs j → (∃ i, (∃ k : Nat, as[k]? = some (Arg.ref i)) ∧ b ∈ s.Fs i) ∨ s.H b = none := fun {j b} hb => by
    rcases n.new j b hb with ⟨k, _, w⟩ | w | w
    · obtain ⟨i, h1, h2⟩ := cIn w
      exact .inl ⟨i, ⟨k, h1⟩, h2⟩
    · obtain ⟨i, h1, h2⟩ := cIn w
      exact .inl ⟨i, ⟨j, h1⟩, h2⟩
    · exact .inr w
  have nofar : ∀ {i j b}, pos i = none → b ∈ s.Fs i → b ∉ s'.Fs j := fun {i j b} hp hb hj => by
    rcases fresh hj with ⟨k, ⟨l, hl⟩, w⟩ | w
    · refine R.dj i k b (fun z => ?_) hb w
      subst z
      exact pos_none hp l hl
    · exact R.fn w i hb
  refine ⟨{ Z := s'.Z, H := s'.H, σ := s.σ, ρ := writeB s.ρ as outs, Fs := Fs2 }, ⟨⟨n.rep.zh, by simp [writeB_len, R.len], fun i o ho => ?_, fun i hi => ?_, fun i => ?_, fun i k b hik h1 h2 => ?_⟩, n.zz, fun b o ho hb => ?_, fun i hi => ?_, fun i b hb => ?_, fun b z z' => ?_⟩, rfl, rfl, rfl, rfl, fun i b hb hi => ?_, fun i b hb hi => ?_⟩
  · have ho : (writeB s.ρ as outs)[i]? = some (some o) := ho
    cases hp : pos i with
    | none =>
      rw [writeB_ne (pos_none hp)] at ho
      obtain ⟨v, hv, w⟩ := R.own i o ho
      refine ⟨v, hv, ?_⟩
      show Ow K s'.Z s'.H o v (Fs2 i)
      rw [f2n hp]
      exact w.mono n.zz fun b hb => stay i b hp hb
    | some j =>
      have ha := pos_some hp
      have hlt : j < outs.length := by rw [hlen]; exact (List.getElem?_eq_some_iff.mp ha).1
      have hi' : i < s.ρ.length := by
        have := (List.getElem?_eq_some_iff.mp ho).1
        rwa [writeB_len] at this
      rw [h.writeB nd ha (List.getElem?_eq_getElem hlt) hlen hi'] at ho
      cases ho
      obtain ⟨v, hv, w⟩ := n.rep.own j outs[j] (by rw [hρ, List.getElem?_map, List.getElem?_eq_getElem hlt]; rfl)
      have hv : (vs.map some)[j]? = some (some v) := by rw [hs] at hv; exact hv
      have hv := map_some_get hv
      obtain ⟨v', a, h1, h2, h3, h4, h5⟩ := h.vals e (j := j) (o := os[j]'(by rw [argsO_len e, ← hlen]; exact hlt)) (List.getElem?_eq_getElem _)
      rw [ha] at h2
      cases h2
      rw [hv] at h1
      cases h1
      refine ⟨v, h4 i rfl, ?_⟩
      show Ow K s'.Z s'.H outs[j] v (Fs2 i)
      rw [f2s hp]
      exact w
  · show Fs2 i = []
    cases hp : pos i with
    | none =>
      rw [f2n hp]
      exact R.emp i fun o ho => hi o (by show (writeB s.ρ as outs)[i]? = _; rw [writeB_ne (pos_none hp)]; exact ho)
    | some j =>
      have ha := pos_some hp
      have hlt : j < outs.length := by rw [hlen]; exact (List.getElem?_eq_some_iff.mp ha).1
      by_cases hi' : i < s.ρ.length
      · exact absurd (h.writeB nd ha (List.getElem?_eq_getElem hlt) hlen hi') (hi _)
      · -- no such slot: the argument could not be read
        obtain ⟨v', a, h1, h2, h3, _⟩ := h.vals e (j := j) (o := os[j]'(by rw [argsO_len e, ← hlen]; exact hlt)) (List.getElem?_eq_getElem _)
        rw [ha] at h2
        cases h2
        exact absurd (List.getElem?_eq_some_iff.mp (Arg.o_ref h3)).1 hi'
  · show (Fs2 i).Nodup
    cases hp : pos i with
    | none => rw [f2n hp]; exact R.nd i
    | some j => rw [f2s hp]; exact n.rep.nd j
  · have h1 : b ∈ Fs2 i := h1
    have h2 : b ∈ Fs2 k := h2
    cases hp : pos i with
    | none =>
      rw [f2n hp] at h1
      cases hq : pos k with
      | none => rw [f2n hq] at h2; exact R.dj i k b hik h1 h2
      | some l => rw [f2s hq] at h2; exact nofar hp h1 h2
    | some j =>
      rw [f2s hp] at h1
      cases hq : pos k with
      | none => rw [f2n hq] at h2; exact nofar hq h2 h1
      | some l =>
        rw [f2s hq] at h2
        refine n.rep.dj j l b (fun z => hik ?_) h1 h2
        subst z
        have e1 := pos_some hp
        have e2 := pos_some hq
        rw [e1] at e2
        cases e2
        rfl
  · exact n.keep b o ho fun j _ hj => by
      obtain ⟨i, h1, h2⟩ := cIn hj
      exact hb i (h.mem h1) h2
  · have hp : pos i = none := by
      cases hp : pos i with
      | none => rfl
      | some j => exact absurd (h.mem (pos_some hp)) hi
    exact ⟨f2n hp, writeB_ne (pos_none hp)⟩
  · have hb : b ∈ Fs2 i := hb
    cases hp : pos i with
    | none => rw [f2n hp] at hb; exact .inr (.inl hb)
    | some j =>
      rw [f2s hp] at hb
      rcases fresh hb with ⟨k, ⟨l, hl⟩, w⟩ | w
      · exact .inl ⟨k, h.mem hl, w⟩
      · exact .inr (.inr w)
  · rcases n.znew b z z' with ⟨j, _, w⟩ | w
    · obtain ⟨i, h1, h2⟩ := cIn w
      exact .inl ⟨i, h.mem h1, h2⟩
    · exact .inr w
  · have hb : b ∈ Fs2 i := hb
    cases hp : pos i with
    | none =>
      obtain ⟨j, hj⟩ := memis hi
      rw [pos_of hj] at hp; cases hp
    | some j => rw [f2s hp] at hb; exact ⟨j, hb⟩
  · have hb : b ∈ Fs2 i := hb
    cases hp : pos i with
    | none => rw [f2n hp] at hb; exact hb
    | some j => exact absurd (h.mem (pos_some hp)) hi
/-! ### arguments of defs -/
abbrev SimA (K : PySem.W.Frag) (E : XK) (is ms : List Nat) (t : TA) (m : Mo (List Arg)) : Prop := SimG K E ms (fun s as vs => ArL K s as is vs) t m
def aNil : Mo (List Arg) := rPure []
def aCons (a : Mo D) (b : Mo (List Arg)) : Mo (List Arg) := rBind a fun d => rBind b fun as => rPure (.dat d :: as)
def aRef (i : Nat) (b : Mo (List Arg)) : Mo (List Arg) := fun ρ => match ρ[i]? with
  | some (some _) => (rBind b fun as => rPure (.ref i :: as)) ρ
  | _ => none
theorem sa_nil : SimA K E [] [] tNil aNil := fun s R => SimAt.pure R .nil
theorem sa_cons {is : List Nat} {ta : TE} {tr : TA} {a : Mo D} {b : Mo (List Arg)} (ha : SimE K E ms1 ta a) (hb : SimA K E is ms2 tr b) : SimA K E is (ms1 ++ (ms2 ++ [])) (tCons ta tr) (aCons a b) := fun s R =>
  (ha s R).bind fun s1 x v R1 _ _ hx => (hb s1 R1).bind (t2 := fun (vs : List V) _ H (Q : List V → Hp → Prop) => Q (v :: vs) H) fun s2 as vs R2' n _ hxs => SimAt.pure R2' (.dat (Fr.mono n.zz hx) hxs)
theorem sa_ref {is : List Nat} {i : Nat} {tr : TA} {b : Mo (List Arg)} (hb : SimA K E is ms2 tr b) : SimA K E (i :: is) (ms2 ++ []) (tCons (tVar i) tr) (aRef i b) := fun s R => by
  intro r ρ' e Q hq hx
  unfold aRef at e
  split at e
  · rename_i o ho
    obtain ⟨v, hv, w⟩ := R.own i o ho
    refine ⟨v, hv, ?_⟩
    exact ((hb s R).bind (t2 := fun (vs : List V) _ H (Q : List V → Hp → Prop) => Q (v :: vs) H) (ms2 := []) fun s2 as vs R2' n hs hxs => SimAt.pure (Rel := fun s as vs => ArL K s as (i :: is) vs) R2' (.ref (by rw [hs]; exact hv) hxs)) r ρ' e Q hq hx
  · cases e
/-! ### a call -/
def callR (F : List O → Option Res) (as : List Arg) : Mo O := fun ρ => match argsO ρ as with
  | none => none
  | some os => match F os with
    | none => none
    | some (.ret o outs) => some (.ok o, writeB ρ as outs)
    | some (.exc x outs) => some (.error x, writeB ρ as outs)
theorem call_at {F : List O → Option Res} {as : List Arg} {is : List Nat} {vs : List V} (R : Rep K s1) (hal : ArL K s1 as is vs) (nd : is.Nodup) {r : Except Xc O} {ρ' : Env} (e : callR F as s1.ρ = some (r, ρ')) {Q : VK}
    (hq : ∀ o, r = .ok o → ∀ v G s2, Nx K (· ∈ is) s1 s2 → s2.σ = s1.σ → s2.ρ = ρ' → Tmp K (· ∈ is) s1 s2 o v G → Q v s2.H) (hx : ∀ x, r = .error x → ExEv K E (· ∈ is) s1 x ρ') : spD K F vs s1.H Q E := by
  unfold callR at e
  split at e
  · cases e
  · rename_i os eo
    split at e
    · cases e
    · rename_i o outs hF
      cases e
      refine ⟨calS s1 as os vs, os, .ret o outs, calS_rep R hal nd eo, rfl, rfl, rfl, hF, fun o' outs' eq v Fv s' nx hs' hρ' tm => ?_, fun x outs' eq => nomatch eq⟩
      cases eq
      obtain ⟨s2, n2, h1, h2, h3, h4, h5, h6⟩ := call_back R hal nd eo nx hs' hρ'
      rw [← h4]
      refine hq o rfl v Fv s2 n2 h1 h2 ⟨by rw [h3, h4]; exact tm.ow, tm.nd, fun i b hb hbi => ?_, fun b hb => ?_⟩
      · by_cases hi : i ∈ is
        · obtain ⟨j, w⟩ := h5 i b hbi hi
          exact tm.dj j b hb w
        · have w := h6 i b hbi hi
          rcases tm.new b hb with ⟨j, _, w'⟩ | w'
          · have w' : b ∈ (match as[j]? with | some (.ref i) => s1.Fs i | _ => []) := w'
            split at w'
            · rename_i k hk
              refine R.dj i k b (fun z => hi ?_) w w'
              subst z
              exact hal.mem hk
            · cases w'
          · exact R.fn w' i w
      · rcases tm.new b hb with ⟨j, _, w'⟩ | w'
        · have w' : b ∈ (match as[j]? with | some (.ref i) => s1.Fs i | _ => []) := w'
          split at w'
          · rename_i k hk
            exact .inl ⟨k, hal.mem hk, w'⟩
          · cases w'
        · exact .inr w'
    · rename_i x outs hF
      cases e
      refine ⟨calS s1 as os vs, os, .exc x outs, calS_rep R hal nd eo, rfl, rfl, rfl, hF, fun o' outs' eq => (nomatch eq), fun x' outs' eq v dx s' nx hs' hρ' hz hw => ?_⟩
      cases eq
      obtain ⟨s2, n2, h1, h2, h3, h4, h5, h6⟩ := call_back R hal nd eo nx hs' hρ'
      rw [← h4]
      exact hx x rfl v dx s2 n2 h1 h2 (by rw [h3]; exact hz) (by rw [h3]; exact hw)
theorem ArL.dfl {as : List Arg} {is : List Nat} {vs : List V} {ds : List D} {ws : List V} (h : ArL K s as is vs) (g : FrL K s.Z ds ws) : ArL K s (as ++ ds.map .dat) is (vs ++ ws) := by
  induction h with
  | nil =>
    show ArL K s (ds.map .dat) [] ws
    induction ds generalizing ws with
    | nil => rw [FrL.nil_iff.mp g]; exact .nil
    | cons d ds ih =>
      obtain ⟨x, r, rfl, h1, h2⟩ := FrL.cons_iff.mp g
      exact .dat h1 (ih h2)
  | dat h _ ih => exact .dat h ih
  | ref h _ ih => exact .ref h ih
def xCallO (F : List O → Option Res) (ma : Mo (List Arg)) (dfl : List D) : Mo O := rBind ma fun as => callR F (as ++ dfl.map .dat)
/-- owned values: one behind the other -/
theorem SimO.bindAt {α β : Type} {Rel : S → α → β → Prop} {t : L2.St → Hp → (β → Hp → Prop) → Prop} {u : β → L2.St → Hp → VK → Prop} {m : Mo α} {f : α → Mo O} (R : Rep K s) (h : SimAt K E ms1 Rel t m s)
    (hf : ∀ s a b, Rep K s → Rel s a b → ∀ r ρ', f a s.ρ = some (r, ρ') → ∀ Q : VK, (∀ o, r = .ok o → ∀ v F s', Nx K (· ∈ ms2) s s' → s'.σ = s.σ → s'.ρ = ρ' → Tmp K (· ∈ ms2) s s' o v F → Q v s'.H) → (∀ x, r = .error x → ExEv K E (· ∈ ms2) s x ρ') → u b s.σ s.H Q) :
    ∀ r ρ', rBind m f s.ρ = some (r, ρ') → ∀ Q : VK, (∀ o, r = .ok o → ∀ v F s', Nx K (· ∈ ms1 ++ ms2) s s' → s'.σ = s.σ → s'.ρ = ρ' → Tmp K (· ∈ ms1 ++ ms2) s s' o v F → Q v s'.H) → (∀ x, r = .error x → ExEv K E (· ∈ ms1 ++ ms2) s x ρ') → t s.σ s.H fun b H1 => u b s.σ H1 Q := by
  intro r ρ' e Q hq hx
  have l1 : ∀ i, i ∈ ms1 → i ∈ ms1 ++ ms2 := fun i hi => List.mem_append_left _ hi
  have l2 : ∀ i, i ∈ ms2 → i ∈ ms1 ++ ms2 := fun i hi => List.mem_append_right _ hi
  cases e1 : m s.ρ with
  | none => simp only [rBind, e1] at e; cases e
  | some p =>
    obtain ⟨r1, ρ1⟩ := p
    refine h r1 ρ1 e1 _ (fun a ha b s1 n1 hs hρ rel => ?_) fun x ex => ?_
    · subst ha
      simp only [rBind, e1] at e
      rw [← hs]
      refine hf s1 a b n1.rep rel r ρ' (by rw [hρ]; exact e) Q (fun o ho v F s2 n2 hs2 hρ2 tm => ?_) fun x ex => ?_
      · exact hq o ho v F s2 ((n1.mono l1).trans (n2.mono l2)) (hs2.trans hs) hρ2 ((tm.mono l2).base (n1.mono l1))
      · exact ((hx x ex).base (n1.mono l1) hs).mono l2
    · subst ex
      simp only [rBind, e1] at e
      cases e
      exact (hx x rfl).mono l1
theorem SimO.of_bind {α β : Type} {Rel : S → α → β → Prop} {t : L2.St → Hp → (β → Hp → Prop) → Prop} {u : β → L2.St → Hp → VK → Prop} {m : Mo α} {f : α → Mo O} (h : SimG K E ms1 Rel t m)
    (hf : ∀ s a b, Rep K s → Rel s a b → ∀ r ρ', f a s.ρ = some (r, ρ') → ∀ Q : VK, (∀ o, r = .ok o → ∀ v F s', Nx K (· ∈ ms2) s s' → s'.σ = s.σ → s'.ρ = ρ' → Tmp K (· ∈ ms2) s s' o v F → Q v s'.H) → (∀ x, r = .error x → ExEv K E (· ∈ ms2) s x ρ') → u b s.σ s.H Q) :
    SimO K E (ms1 ++ ms2) (fun σ H Q => t σ H fun b H1 => u b σ H1 Q) (rBind m f) := fun s R => SimO.bindAt R (h s R) hf
theorem SimAt.zz {α β : Type} {Rel : S → α → β → Prop} {t : L2.St → Hp → (β → Hp → Prop) → Prop} {m : Mo α} (h : SimAt K E ms Rel t m s) : SimAt K E ms (fun s' a b => Rel s' a b ∧ Same s.Z s'.Z) t m s :=
  fun r ρ' e Q hq hx => h r ρ' e Q (fun a ha b s' n hs hρ rel => hq a ha b s' n hs hρ ⟨rel, n.zz⟩) hx
theorem so_call {F : List O → Option Res} {t : TA} {ma : Mo (List Arg)} {is : List Nat} {dfl : List D} {dvs : List V} (ha : SimA K E is ms t ma) (nd : is.Nodup) (hd : ∀ Z, FrL K Z dfl dvs) : SimO K E (ms ++ is) (tCall (spD K F) dvs E t) (xCallO F ma dfl) :=
  SimO.of_bind (u := fun vs _ H Q => spD K F (vs ++ dvs) H Q E) ha fun s as vs R hal r ρ' e Q hq hx => call_at R (hal.dfl (hd s.Z)) nd e hq hx
/-! ### methods of instances -/
theorem not_in_look {fs : List (Str × V)} {m : Str} (h : m ∉ fs.map (·.1)) : fs.lookup m = none := by
  induction fs with
  | nil => rfl
  | cons p r ih =>
    obtain ⟨g, x⟩ := p
    simp at h
    have hb : (m == g) = false := beq_eq_false_iff_ne.mpr h.1
    simp only [List.lookup, hb]
    exact ih (by simpa using h.2)
/-- o.m(..), o owned: a name of the def -/
def xMethO (C : Addr) (m : Str) (F : List O → Option Res) (i : Nat) (ma : Mo (List Arg)) (dfl : List D) : Mo O := fun ρ => match ρ[i]? with
  | some (some (.ins c fs _)) => if c = C ∧ m ∉ fs then xCallO F (aRef i ma) dfl ρ else none
  | _ => none
theorem so_methO {C : Addr} {m : Str} {F : List O → Option Res} {t : TA} {ma : Mo (List Arg)} {i : Nat} {is : List Nat} {dfl : List D} {dvs : List V} (ha : SimA K E is ms t ma) (nd : (i :: is).Nodup) (hd : ∀ Z, FrL K Z dfl dvs) :
    SimO K E ((ms ++ []) ++ (i :: is)) (tMeth C m (spD K F) dvs E (tVar i) t) (xMethO C m F i ma dfl) := by
  intro s R r ρ' e Q hq hx
  unfold xMethO at e
  split at e
  · rename_i c fs os ho
    split at e
    · rename_i hc
      obtain ⟨rfl, hm⟩ := hc
      obtain ⟨v, hv, w⟩ := R.own i _ ho
      obtain ⟨a, dx, fvs, F', rfl, h2, h3, _, h5, _⟩ := Ow.ins_iff.mp w
      have k := so_call (E := E) (F := F) (sa_ref ha) nd hd s R r ρ' e Q hq hx
      obtain ⟨v', hv', k⟩ := k
      rw [hv] at hv'; cases hv'
      exact ⟨_, hv, a, dx, fvs, rfl, h2, not_in_look (by rw [h5]; exact hm), k⟩
    · cases e
  · cases e
/-- o.m(..), o frozen -/
def xMethD (C : Addr) (m : Str) (F : List O → Option Res) (mo : Mo D) (ma : Mo (List Arg)) (dfl : List D) : Mo O := rBind mo fun d => match d with
  | .ins c fs ds => if c = C ∧ m ∉ fs then rBind ma fun as => callR F ((.dat (.ins c fs ds) :: as) ++ dfl.map .dat) else fun _ => none
  | _ => fun _ => none
theorem so_methD {C : Addr} {m : Str} {F : List O → Option Res} {to : TE} {mo : Mo D} {t : TA} {ma : Mo (List Arg)} {is : List Nat} {dfl : List D} {dvs : List V} (ho : SimE K E ms1 to mo) (ha : SimA K E is ms t ma) (nd : is.Nodup) (hd : ∀ Z, FrL K Z dfl dvs) :
    SimO K E (ms1 ++ (ms ++ is)) (tMeth C m (spD K F) dvs E to t) (xMethD C m F mo ma dfl) :=
  SimO.of_bind (u := fun x σ H1 Q => ∃ a dx fs, x = .ref a ∧ H1 a = some (.ins C dx fs) ∧ fs.lookup m = none ∧ t σ H1 fun vs H2 => spD K F (x :: (vs ++ dvs)) H2 Q E) ho fun s d v R fr r ρ' e Q hq hx => by
    split at e
    · rename_i c fs ds
      split at e
      · rename_i hc
        obtain ⟨rfl, hm⟩ := hc
        obtain ⟨a, dx, fvs, rfl, h1, h2, h3⟩ := Fr.ins_iff.mp fr
        refine ⟨a, dx, fvs, rfl, R.zh _ _ h1, not_in_look (by rw [h2]; exact hm), ?_⟩
        exact SimO.bindAt (u := fun vs _ H2 Q => spD K F (.ref a :: (vs ++ dvs)) H2 Q E) (f := fun as => callR F ((.dat (.ins c fs ds) :: as) ++ dfl.map .dat)) R (ha s R).zz
          (fun s2 as vs R2 hal r ρ' e Q hq hx => call_at (vs := .ref a :: (vs ++ dvs)) R2 ((ArL.dat (fr.mono hal.2) hal.1).dfl (hd s2.Z)) nd e hq hx) r ρ' e Q hq hx
      · cases e
    · cases e
end
end Dat
/-! Dat7: statements, loops, a def's body. -/
namespace Dat
open PySem PySem.Spec PyProof.Rows L2
inductive Out where
  | nx
  | ret (o : O)
  | brk
  | ct
  | exc (x : Xc)
abbrev MS := Env → Option (Out × Env)
/-- a step of statements: the pinned names keep their values -/
structure NxS (K : PySem.W.Frag) (pin : List Nat) (s s' : S) : Prop where
  n : Nx K (fun _ => True) s s'
  pin : ∀ i ∈ pin, s'.σ[i]? = s.σ[i]?
  len : s'.ρ.length = s.ρ.length
structure Fin (K : PySem.W.Frag) (E : XK) (pin : List Nat) (s : S) (out : Out) (ρ' : Env) (D : Ends) : Prop where
  nx : out = .nx → ∀ s', NxS K pin s s' → s'.ρ = ρ' → D.nx s'.σ s'.H
  rt : ∀ o, out = .ret o → ∀ v F s', NxS K pin s s' → s'.ρ = ρ' → Tmp K (fun _ => True) s s' o v F → D.rt v s'.H
  bk : out = .brk → ∀ s', NxS K pin s s' → s'.ρ = ρ' → D.bk s'.σ s'.H
  ct : out = .ct → ∀ s', NxS K pin s s' → s'.ρ = ρ' → D.ct s'.σ s'.H
  ex : ∀ x, out = .exc x → ∀ v dx s', NxS K pin s s' → s'.ρ = ρ' → s'.Z dx = some (.xd [("what", v)]) → Fr K s'.Z x.what v → E (.ref x.C) (some dx) s'.H
def SimS (K : PySem.W.Frag) (E : XK) (pin : List Nat) (t : TS) (m : MS) : Prop := ∀ s, Rep K s → ∀ out ρ', m s.ρ = some (out, ρ') → ∀ D : Ends, Fin K E pin s out ρ' D → t D s.σ s.H
section
variable {K : PySem.W.Frag} {E : XK} {pin ms ms1 ms2 : List Nat} {s s1 s2 : S}
theorem NxS.refl (R : Rep K s) : NxS K pin s s := ⟨Nx.refl R, fun _ _ => rfl, rfl⟩
theorem NxS.trans (a : NxS K pin s s1) (b : NxS K pin s1 s2) : NxS K pin s s2 := ⟨a.n.trans b.n, fun i hi => (b.pin i hi).trans (a.pin i hi), b.len.trans a.len⟩
theorem Nx.lenρ {P : Nat → Prop} (R : Rep K s) (n : Nx K P s s1) (h : s1.σ = s.σ) : s1.ρ.length = s.ρ.length := by rw [← n.rep.len, h, R.len]
theorem Nx.st {P : Nat → Prop} (R : Rep K s) (n : Nx K P s s1) (h : s1.σ = s.σ) : NxS K pin s s1 := ⟨n.mono fun _ _ => trivial, fun i _ => by rw [h], n.lenρ R h⟩
/-- the same end from a later state -/
theorem Fin.base {out : Out} {ρ' : Env} {D : Ends} (a : NxS K pin s s1) (f : Fin K E pin s out ρ' D) : Fin K E pin s1 out ρ' D where
  nx := fun e s' n h => f.nx e s' (a.trans n) h
  rt := fun o e v F s' n h t => f.rt o e v F s' (a.trans n) h (t.base a.n)
  bk := fun e s' n h => f.bk e s' (a.trans n) h
  ct := fun e s' n h => f.ct e s' (a.trans n) h
  ex := fun x e v dx s' n h z w => f.ex x e v dx s' (a.trans n) h z w
def mNext : MS := fun ρ => some (.nx, ρ)
theorem ss_next : SimS K E pin tNext mNext := by
  intro s R out ρ' e D f
  cases e
  exact f.nx rfl s (.refl R) rfl
def mSeq (a b : MS) : MS := fun ρ => match a ρ with
  | some (.nx, ρ1) => b ρ1
  | r => r
theorem ss_seq {t u : TS} {a b : MS} (ha : SimS K E pin t a) (hb : SimS K E pin u b) : SimS K E pin (tSeq t u) (mSeq a b) := by
  intro s R out ρ' e D f
  unfold mSeq at e
  cases e1 : a s.ρ with
  | none => rw [e1] at e; cases e
  | some p =>
    obtain ⟨o1, ρ1⟩ := p
    refine ha s R o1 ρ1 e1 _ ?_
    rw [e1] at e
    cases o1 with
    | nx =>
      have e : b ρ1 = some (out, ρ') := e
      refine ⟨fun _ s1 n1 h1 => ?_, fun o z => (nomatch z), fun z => (nomatch z), fun z => (nomatch z), fun o z => (nomatch z)⟩
      exact hb s1 n1.n.rep out ρ' (by rw [h1]; exact e) D (f.base n1)
    | ret o => cases e; exact ⟨fun z => (nomatch z), f.rt, fun z => (nomatch z), fun z => (nomatch z), fun o z => (nomatch z)⟩
    | brk => cases e; exact ⟨fun z => (nomatch z), fun o z => (nomatch z), f.bk, fun z => (nomatch z), fun o z => (nomatch z)⟩
    | ct => cases e; exact ⟨fun z => (nomatch z), fun o z => (nomatch z), fun z => (nomatch z), f.ct, fun o z => (nomatch z)⟩
    | exc x => cases e; exact ⟨fun z => (nomatch z), fun o z => (nomatch z), fun z => (nomatch z), fun z => (nomatch z), f.ex⟩
/-- an expression, then a statement of its value -/
def mE {α : Type} (m : Mo α) (f : α → MS) : MS := fun ρ => match m ρ with
  | none => none
  | some (.error x, ρ1) => some (.exc x, ρ1)
  | some (.ok a, ρ1) => f a ρ1
theorem ss_E {α β : Type} {Rel : S → α → β → Prop} {t : L2.St → Hp → (β → Hp → Prop) → Prop} {u : Ends → β → L2.St → Hp → Prop} {m : Mo α} {f : α → MS} (h : SimG K E ms Rel t m)
    (hf : ∀ s a b, Rep K s → Rel s a b → ∀ out ρ', f a s.ρ = some (out, ρ') → ∀ D, Fin K E pin s out ρ' D → u D b s.σ s.H) : SimS K E pin (fun D σ H => t σ H fun b H1 => u D b σ H1) (mE m f) := by
  intro s R out ρ' e D fin
  unfold mE at e
  cases e1 : m s.ρ with
  | none => rw [e1] at e; cases e
  | some p =>
    obtain ⟨r, ρ1⟩ := p
    rw [e1] at e
    refine h s R r ρ1 e1 _ (fun a ha b s1 n1 hs hρ rel => ?_) fun x ex => ?_
    · subst ha
      have e : f a ρ1 = some (out, ρ') := e
      have := hf s1 a b n1.rep rel out ρ' (by rw [hρ]; exact e) D (fin.base (n1.st R hs))
      rw [hs] at this
      exact this
    · subst ex
      cases e
      intro v dx s' n hσ hρ z w
      exact fin.ex x rfl v dx s' (n.st R hσ) hρ z w
/-- the same for an owned value -/
theorem ss_EO {t : TE} {u : Ends → V → L2.St → Hp → Prop} {m : Mo O} {f : O → MS} (h : SimO K E ms t m)
    (hf : ∀ s0 s o v F, Rep K s0 → Nx K (fun _ => True) s0 s → s.σ = s0.σ → Tmp K (fun _ => True) s0 s o v F → ∀ out ρ', f o s.ρ = some (out, ρ') → ∀ D, Fin K E pin s0 out ρ' D → u D v s.σ s.H) : SimS K E pin (fun D σ H => t σ H fun b H1 => u D b σ H1) (mE m f) := by
  intro s R out ρ' e D fin
  unfold mE at e
  cases e1 : m s.ρ with
  | none => rw [e1] at e; cases e
  | some p =>
    obtain ⟨r, ρ1⟩ := p
    rw [e1] at e
    refine h s R r ρ1 e1 _ (fun a ha b F s1 n1 hs hρ tm => ?_) fun x ex => ?_
    · subst ha
      have e : f a ρ1 = some (out, ρ') := e
      have := hf s s1 a b F R (n1.mono fun _ _ => trivial) hs (tm.mono fun _ _ => trivial) out ρ' (by rw [hρ]; exact e) D fin
      rw [hs] at this
      exact this
    · subst ex
      cases e
      intro v dx s' n hσ hρ z w
      exact fin.ex x rfl v dx s' (n.st R hσ) hρ z w
/-! ### names stored -/
def mPut (i : Nat) (o : O) : MS := fun ρ => if i < ρ.length then some (.nx, ρ.set i (some o)) else none
def mSet (i : Nat) (m : Mo D) : MS := mE m fun d => mPut i (.d d)
def mSetO (i : Nat) (m : Mo O) : MS := mE m fun o => mPut i o
theorem NxS.set {o : O} {v : V} {F : List Addr} {i : Nat} (n : NxS K pin s s1) (t : Tmp K (fun _ => True) s s1 o v F) (hi : i < s1.ρ.length) (hp : i ∉ pin) :
    NxS K pin s { s1 with σ := s1.σ.set i (some v), ρ := s1.ρ.set i (some o), Fs := setF s1.Fs i F } :=
  ⟨n.n.set t trivial hi, fun j hj => (List.getElem?_set_ne (fun z : i = j => hp (by rw [z]; exact hj))).trans (n.pin j hj), by simp [n.len]⟩
theorem ss_set {i : Nat} {te : TE} {m : Mo D} (hp : i ∉ pin) (h : SimE K E ms te m) : SimS K E pin (tAsg te (gName i)) (mSet i m) :=
  ss_E (u := fun D x σ H1 => D.nx (σ.set i (some x)) H1) h fun s d v R rel out ρ' e D f => by
    unfold mPut at e
    split at e
    · rename_i hi
      cases e
      exact f.nx rfl _ ((NxS.refl R).set (Tmp.d rel) hi hp) rfl
    · cases e
theorem ss_setO {i : Nat} {te : TE} {m : Mo O} (hp : i ∉ pin) (h : SimO K E ms te m) : SimS K E pin (tAsg te (gName i)) (mSetO i m) :=
  ss_EO (u := fun D x σ H1 => D.nx (σ.set i (some x)) H1) h fun s0 s o v F R0 n hs tm out ρ' e D f => by
    unfold mPut at e
    split at e
    · rename_i hi
      cases e
      exact f.nx rfl _ ((n.st R0 hs).set tm hi hp) rfl
    · cases e
/-! ### plain statements -/
theorem ss_drop {te : TE} {m : Mo D} (h : SimE K E ms te m) : SimS K E pin (tDrop te) (mE m fun _ => mNext) :=
  ss_E (u := fun D _ σ H1 => D.nx σ H1) h fun s d v R rel out ρ' e D f => by
    cases e
    exact f.nx rfl s (NxS.refl R) rfl
theorem ss_dropO {te : TE} {m : Mo O} (h : SimO K E ms te m) : SimS K E pin (tDrop te) (mE m fun _ => mNext) :=
  ss_EO (u := fun D _ σ H1 => D.nx σ H1) h fun s0 s o v F R0 n hs tm out ρ' e D f => by
    cases e
    exact f.nx rfl s (n.st R0 hs) rfl
def mRet (m : Mo D) : MS := mE m fun d ρ => some (.ret (.d d), ρ)
def mRetO (m : Mo O) : MS := mE m fun o ρ => some (.ret o, ρ)
theorem ss_ret {te : TE} {m : Mo D} (h : SimE K E ms te m) : SimS K E pin (tRet te) (mRet m) :=
  ss_E (u := fun D x _ H1 => D.rt x H1) h fun s d v R rel out ρ' e D f => by
    cases e
    exact f.rt _ rfl v [] s (NxS.refl R) rfl (Tmp.d rel)
theorem ss_retO {te : TE} {m : Mo O} (h : SimO K E ms te m) : SimS K E pin (tRet te) (mRetO m) :=
  ss_EO (u := fun D x _ H1 => D.rt x H1) h fun s0 s o v F R0 n hs tm out ρ' e D f => by
    cases e
    exact f.rt o rfl v F s (n.st R0 hs) rfl tm
def mRetN : MS := fun ρ => some (.ret (.d (.v .non)), ρ)
theorem ss_retN : SimS K E pin tRetN mRetN := by
  intro s R out ρ' e D f
  cases e
  exact f.rt _ rfl .non [] s (NxS.refl R) rfl (Tmp.d (Fr.v_iff.mpr rfl))
def mIf (c : Mo Bool) (a b : MS) : MS := mE c fun x => if x = true then a else b
theorem ss_if {tc : TT} {t u : TS} {c : Mo Bool} {a b : MS} (hc : SimT K E ms tc c) (ha : SimS K E pin t a) (hb : SimS K E pin u b) : SimS K E pin (tIfS tc t u) (mIf c a b) :=
  ss_E (u := fun D b σ H1 => if b = true then t D σ H1 else u D σ H1) hc fun s x y R rel out ρ' e D f => by
    subst rel
    cases x with
    | true => exact ha s R out ρ' e D f
    | false => exact hb s R out ρ' e D f
def mBrk : MS := fun ρ => some (.brk, ρ)
def mCt : MS := fun ρ => some (.ct, ρ)
theorem ss_brk : SimS K E pin tBreak mBrk := by
  intro s R out ρ' e D f
  cases e
  exact f.bk rfl s (.refl R) rfl
theorem ss_ct : SimS K E pin tCont mCt := by
  intro s R out ρ' e D f
  cases e
  exact f.ct rfl s (.refl R) rfl
/-- a statement that is not come to -/
def mNever : MS := fun _ => none
theorem ss_never : SimS K E pin tNever mNever := by
  intro s R out ρ' e
  cases e
/-! ### targets: only the slots ws change -/
def SimTG (K : PySem.W.Frag) (ws : List Nat) (g : TG) (f : D → Env → Option Env) : Prop := ∀ s, Rep K s → ∀ d v ρ', Fr K s.Z d v → f d s.ρ = some ρ' → ∀ Q : L2.St → Hp → Prop, (∀ s', Nx K (· ∈ ws) s s' → (∀ i, i ∉ ws → s'.σ[i]? = s.σ[i]?) → (∀ i ∈ ws, s'.Fs i = []) → s'.ρ = ρ' → s'.ρ.length = s.ρ.length → Q s'.σ s'.H) → g v s.σ s.H Q
def SimTGs (K : PySem.W.Frag) (ws : List Nat) (g : TGs) (f : List D → Env → Option Env) : Prop := ∀ s, Rep K s → ∀ ds vs ρ', FrL K s.Z ds vs → f ds s.ρ = some ρ' → ∀ Q : L2.St → Hp → Prop, (∀ s', Nx K (· ∈ ws) s s' → (∀ i, i ∉ ws → s'.σ[i]? = s.σ[i]?) → (∀ i ∈ ws, s'.Fs i = []) → s'.ρ = ρ' → s'.ρ.length = s.ρ.length → Q s'.σ s'.H) → g vs s.σ s.H Q
theorem Nx.tg {ws : List Nat} (hp : ∀ i ∈ pin, i ∉ ws) (n : Nx K (· ∈ ws) s s1) (hσ : ∀ i, i ∉ ws → s1.σ[i]? = s.σ[i]?) (hl : s1.ρ.length = s.ρ.length) : NxS K pin s s1 := ⟨n.mono fun _ _ => trivial, fun i hi => hσ i (hp i hi), hl⟩
def gN (i : Nat) : D → Env → Option Env := fun d ρ => if i < ρ.length then some (ρ.set i (some (.d d))) else none
theorem sg_name {i : Nat} : SimTG K [i] (gName i) (gN i) := by
  intro s R d v ρ' hd e Q hq
  unfold gN at e
  split at e
  · rename_i hi
    cases e
    exact hq _ ((Nx.refl R).set (Tmp.d hd) (List.mem_singleton.mpr rfl) hi) (fun j hj => List.getElem?_set_ne fun z : i = j => hj (by simp [z])) (fun j hj => by rw [List.mem_singleton.mp hj]; exact setF_same) rfl (by simp)
  · cases e
def gsN : List D → Env → Option Env
  | [], ρ => some ρ
  | _ :: _, _ => none
def gsC (f : D → Env → Option Env) (g : List D → Env → Option Env) : List D → Env → Option Env
  | d :: ds, ρ => (f d ρ).bind fun ρ1 => g ds ρ1
  | [], _ => none
theorem sgs_nil : SimTGs K [] gNil gsN := by
  intro s R ds vs ρ' hd e Q hq
  unfold gsN at e
  split at e
  · cases e
    exact ⟨FrL.nil_iff.mp hd, hq s (.refl R) (fun _ _ => rfl) (fun _ h => absurd h (by simp)) rfl rfl⟩
  · cases e
theorem sgs_cons {ws1 ws2 : List Nat} {t : TG} {u : TGs} {f : D → Env → Option Env} {g : List D → Env → Option Env} (h1 : SimTG K ws1 t f) (h2 : SimTGs K ws2 u g) : SimTGs K (ws1 ++ ws2) (gCons t u) (gsC f g) := by
  intro s R ds vs ρ' hd e Q hq
  unfold gsC at e
  split at e
  · rename_i d ds
    obtain ⟨ρ1, e1, e2⟩ := Option.bind_eq_some_iff.mp e
    obtain ⟨x, r, rfl, hx, hr⟩ := FrL.cons_iff.mp hd
    refine ⟨x, r, rfl, h1 s R d x ρ1 hx e1 _ fun s1 n1 hσ1 hf1 hρ hl1 => ?_⟩
    exact h2 s1 n1.rep ds r ρ' (hr.mono n1.zz) (by rw [hρ]; exact e2) Q fun s2 n2 hσ2 hf2 hρ2 hl2 => hq s2 ((n1.mono fun i hi => List.mem_append_left _ hi).trans (n2.mono fun i hi => List.mem_append_right _ hi))
      (fun i hi => (hσ2 i fun z => hi (List.mem_append_right _ z)).trans (hσ1 i fun z => hi (List.mem_append_left _ z))) (fun i hi => by
        by_cases h2 : i ∈ ws2
        · exact hf2 i h2
        · rw [(n2.fix i h2).1]; exact hf1 i ((List.mem_append.mp hi).resolve_right h2)) hρ2 (hl2.trans hl1)
  · cases e
def gT (n : Nat) (g : List D → Env → Option Env) : D → Env → Option Env
  | .tup ds, ρ => if ds.length = n then g ds ρ else none
  | _, _ => none
def gL (n : Nat) (g : List D → Env → Option Env) : D → Env → Option Env
  | .lst ds, ρ => if ds.length = n then g ds ρ else none
  | _, _ => none
theorem sg_tup {n : Nat} {ws : List Nat} {u : TGs} {g : List D → Env → Option Env} (h : SimTGs K ws u g) : SimTG K ws (gTup K n u) (gT n g) := by
  intro s R d v ρ' hd e Q hq
  unfold gT at e
  split at e
  · rename_i ds
    split at e
    · rename_i hl
      obtain ⟨a, xs, rfl, h1, h2⟩ := Fr.tup_iff.mp hd
      exact ⟨a, xs, rfl, same_tup R.zh h1, h2.length.trans hl, h s R ds xs ρ' h2 e Q hq⟩
    · cases e
  · cases e
theorem sg_lst {n : Nat} {ws : List Nat} {u : TGs} {g : List D → Env → Option Env} (h : SimTGs K ws u g) : SimTG K ws (gUnl K n u) (gL n g) := by
  intro s R d v ρ' hd e Q hq
  unfold gL at e
  split at e
  · rename_i ds
    split at e
    · rename_i hl
      obtain ⟨a, xs, rfl, h1, h2⟩ := Fr.lst_iff.mp hd
      exact ⟨a, xs, rfl, SqL.of (R.zh _ _ h1), h2.length.trans hl, h s R ds xs ρ' h2 e Q hq⟩
    · cases e
  · cases e
def mTg (m : Mo D) (g : D → Env → Option Env) : MS := mE m fun d ρ => (g d ρ).map fun ρ1 => (.nx, ρ1)
theorem ss_tg {te : TE} {m : Mo D} {t : TG} {g : D → Env → Option Env} {ws : List Nat} (h : SimE K E ms te m) (hg : SimTG K ws t g) (hp : ∀ i ∈ pin, i ∉ ws) : SimS K E pin (tAsg te t) (mTg m g) :=
  ss_E (u := fun D x σ H1 => t x σ H1 D.nx) h fun s d v R rel out ρ' e D f => by
    obtain ⟨ρ1, e1, e2⟩ := Option.map_eq_some_iff.mp e
    cases e2
    exact hg s R d v _ rel e1 D.nx fun s' n hσ _ hρ hl => f.nx rfl s' (n.tg hp hσ hl) hρ
/-! ### for -/
def mFor (g : D → Env → Option Env) (body : MS) : List D → MS
  | [], ρ => some (.nx, ρ)
  | d :: ds, ρ => match g d ρ with
    | none => none
    | some ρ1 => match body ρ1 with
      | none => none
      | some (.nx, ρ2) => mFor g body ds ρ2
      | some (.ct, ρ2) => mFor g body ds ρ2
      | some (.brk, ρ2) => some (.nx, ρ2)
      | some (.ret o, ρ2) => some (.ret o, ρ2)
      | some (.exc x, ρ2) => some (.exc x, ρ2)
/-- where a loop stands ahead of its i-th turn -/
def At (K : PySem.W.Frag) (pin : List Nat) (s : S) (f : List D → MS) (ds : List D) (out : Out) (ρ' : Env) (i : Nat) (σ : L2.St) (H : Hp) : Prop :=
  ∃ s1, NxS K pin s s1 ∧ s1.σ = σ ∧ s1.H = H ∧ f (ds.drop i) s1.ρ = some (out, ρ')
theorem for_turn {t : TG} {g : D → Env → Option Env} {tb : TS} {body : MS} {ds : List D} {out : Out} {ρ' : Env} {D : Ends} {ws : List Nat} (hg : SimTG K ws t g) (hp : ∀ i ∈ pin, i ∉ ws) (hb : SimS K E pin tb body) (f : Fin K E pin s out ρ' D) {i : Nat} {d : Dat.D} {x : V} {σ : L2.St} {H : Hp}
    (hi : ds[i]? = some d) (h : At K pin s (mFor g body) ds out ρ' i σ H) (hx : ∀ s1, NxS K pin s s1 → s1.H = H → ∃ s2, NxS K pin s1 s2 ∧ s2.σ = s1.σ ∧ s2.ρ = s1.ρ ∧ s2.H = s1.H ∧ Fr K s2.Z d x) :
    t x σ H fun σ2 H2 => tb { D with nx := At K pin s (mFor g body) ds out ρ' (i + 1), ct := At K pin s (mFor g body) ds out ρ' (i + 1), bk := D.nx } σ2 H2 := by
  obtain ⟨s0, n0, rfl, rfl, e⟩ := h
  obtain ⟨s1, n1, q1, q2, q3, fr⟩ := hx s0 n0 rfl
  have n1 := n0.trans n1
  rw [← q2] at e
  rw [← q1, ← q3]
  have hd : ds.drop i = d :: ds.drop (i + 1) := by
    obtain ⟨hlt, hi⟩ := List.getElem?_eq_some_iff.mp hi
    rw [List.drop_eq_getElem_cons hlt, hi]
  rw [hd] at e
  cases e1 : g d s1.ρ with
  | none => simp only [mFor, e1] at e; cases e
  | some ρ1 =>
    refine hg s1 n1.n.rep d x ρ1 fr e1 _ fun s2 n2 hσ2 _ hρ2 hl2 => ?_
    have n2 := n2.tg hp hσ2 hl2
    have n12 := n1.trans n2
    have go : ∀ (s3 : S), NxS K pin s2 s3 → mFor g body (ds.drop (i + 1)) s3.ρ = some (out, ρ') → At K pin s (mFor g body) ds out ρ' (i + 1) s3.σ s3.H := fun s3 n3 e3 => ⟨s3, n12.trans n3, rfl, rfl, e3⟩
    cases e2 : body ρ1 with
    | none => simp only [mFor, e1, e2] at e; cases e
    | some p =>
      obtain ⟨o, ρ2⟩ := p
      simp only [mFor, e1, e2] at e
      refine hb s2 n2.n.rep o ρ2 (by rw [hρ2]; exact e2) _ ?_
      cases o with
      | nx => exact ⟨fun _ s3 n3 h3 => go s3 n3 (by rw [h3]; exact e), fun o z => (nomatch z), fun z => (nomatch z), fun z => (nomatch z), fun o z => (nomatch z)⟩
      | ct => exact ⟨fun z => (nomatch z), fun o z => (nomatch z), fun z => (nomatch z), fun _ s3 n3 h3 => go s3 n3 (by rw [h3]; exact e), fun o z => (nomatch z)⟩
      | brk => cases e; exact ⟨fun z => (nomatch z), fun o z => (nomatch z), fun _ s3 n3 h3 => f.nx rfl s3 (n12.trans n3) h3, fun z => (nomatch z), fun o z => (nomatch z)⟩
      | ret o => cases e; exact ⟨fun z => (nomatch z), fun o' z v F s3 n3 h3 t3 => by cases z; exact f.rt _ rfl v F s3 (n12.trans n3) h3 (t3.base n12.n), fun z => (nomatch z), fun z => (nomatch z), fun o z => (nomatch z)⟩
      | exc x' => cases e; exact ⟨fun z => (nomatch z), fun o z => (nomatch z), fun z => (nomatch z), fun z => (nomatch z), fun x2 z v dx s3 n3 h3 z3 w3 => by cases z; exact f.ex _ rfl v dx s3 (n12.trans n3) h3 z3 w3⟩
theorem for_end {g : D → Env → Option Env} {body : MS} {ds : List D} {out : Out} {ρ' : Env} {D : Ends} (f : Fin K E pin s out ρ' D) {i : Nat} {σ : L2.St} {H : Hp} (hi : i = ds.length) (h : At K pin s (mFor g body) ds out ρ' i σ H) : D.nx σ H := by
  obtain ⟨s1, n1, rfl, rfl, e⟩ := h
  subst hi
  rw [List.drop_length] at e
  cases e
  exact f.nx rfl s1 n1 rfl
def mForE (m : Mo (List D)) (g : D → Env → Option Env) (body : MS) : MS := mE m fun ds => mFor g body ds
/-- over a frozen list, tuple -/
def asL : D → Mo (List D)
  | .lst ds => rPure ds
  | _ => fun _ => none
def asU : D → Mo (List D)
  | .tup ds => rPure ds
  | _ => fun _ => none
theorem mForE_as {m : Mo D} {f : D → Mo (List D)} {g : D → Env → Option Env} {body : MS} {te : TE} {u : Ends → V → L2.St → Hp → Prop} (h : SimE K E ms te m)
    (hf : ∀ s d v, Rep K s → Fr K s.Z d v → ∀ ds, f d s.ρ = some (.ok ds, s.ρ) → ∀ out ρ', mFor g body ds s.ρ = some (out, ρ') → ∀ D, Fin K E pin s out ρ' D → u D v s.σ s.H) (hp : ∀ d ρ r ρ1, f d ρ = some (r, ρ1) → ρ1 = ρ ∧ ∃ ds, r = .ok ds) :
    SimS K E pin (fun D σ H => te σ H fun b H1 => u D b σ H1) (mForE (rBind m f) g body) := by
  intro s R out ρ' e D fin
  unfold mForE mE at e
  cases e1 : m s.ρ with
  | none => simp only [rBind, e1] at e; cases e
  | some p =>
    obtain ⟨r, ρ1⟩ := p
    refine h s R r ρ1 e1 _ (fun d hd v s1 n1 hs hρ fr => ?_) fun x ex => ?_
    · subst hd
      simp only [rBind, e1] at e
      cases e2 : f d ρ1 with
      | none => rw [e2] at e; cases e
      | some q =>
        obtain ⟨r2, ρ2⟩ := q
        obtain ⟨h1, ds, h2⟩ := hp d ρ1 r2 ρ2 e2
        subst h1 h2
        rw [e2] at e
        have := hf s1 d v n1.rep fr ds (by rw [hρ]; exact e2) out ρ' (by rw [hρ]; exact e) D (fin.base (n1.st R hs))
        rw [hs] at this
        exact this
    · subst ex
      simp only [rBind, e1] at e
      cases e
      intro v dx s' n hσ hρ z w
      exact fin.ex x rfl v dx s' (n.st R hσ) hρ z w
theorem asL_p (d : D) (ρ : Env) (r : Except Xc (List D)) (ρ1 : Env) (e : asL d ρ = some (r, ρ1)) : ρ1 = ρ ∧ ∃ ds, r = .ok ds := by
  unfold asL at e
  split at e
  · cases e; exact ⟨rfl, _, rfl⟩
  · cases e
theorem asU_p (d : D) (ρ : Env) (r : Except Xc (List D)) (ρ1 : Env) (e : asU d ρ = some (r, ρ1)) : ρ1 = ρ ∧ ∃ ds, r = .ok ds := by
  unfold asU at e
  split at e
  · cases e; exact ⟨rfl, _, rfl⟩
  · cases e
theorem ss_forL {te : TE} {m : Mo D} {t : TG} {g : D → Env → Option Env} {tb : TS} {body : MS} (h : SimE K E ms te m) {ws : List Nat} (hg : SimTG K ws t g) (hp : ∀ i ∈ pin, i ∉ ws) (hb : SimS K E pin tb body) :
    SimS K E pin (tFor (iList K te) t tb) (mForE (rBind m asL) g body) :=
  mForE_as (u := fun D x σ H1 => ∃ a, x = .ref a ∧ (∃ xs, SqL K H1 a xs) ∧ ∃ W : Nat → Nat → L2.St → Hp → Prop, (∃ m, W 0 m σ H1) ∧ ∀ i m σ H, W i m σ H →
      ((Itl K a).stop i H ∧ D.nx σ H) ∨ ((Itl K a).go i H ∧ ∃ N : L2.St → Hp → Prop, (∀ σ' H', N σ' H' → ∃ m', m' < m ∧ W (i + 1) m' σ' H') ∧ ∀ x H', (Itl K a).yld i H x H' → t x σ H' fun σ2 H2 => tb { D with nx := N, ct := N, bk := D.nx } σ2 H2)) h (fun s d v R fr ds ed out ρ' e D f => by
    unfold asL at ed
    split at ed
    · cases ed
      obtain ⟨a, xs, rfl, z1, z2⟩ := Fr.lst_iff.mp fr
      refine ⟨a, rfl, ⟨xs, SqL.of (R.zh _ _ z1)⟩, ?_⟩
      refine for_list (xs := xs) (At K pin s (mFor g body) ds out ρ') ⟨s, .refl R, rfl, rfl, e⟩ (fun i σ H _ hat => ?_) (fun i x σ H hi hat => ?_) fun σ H hat => for_end f z2.length hat
      · obtain ⟨s2, n2, _, rfl, _⟩ := hat
        exact SqL.of (n2.n.rep.zh _ _ (n2.n.zz _ _ z1))
      · obtain ⟨d, hd, fx⟩ := z2.at hi
        exact for_turn hg hp hb f hd hat fun s1 n1 _ => ⟨s1, .refl n1.n.rep, rfl, rfl, rfl, fx.mono n1.n.zz⟩
    · cases ed) asL_p
theorem ss_forU {te : TE} {m : Mo D} {t : TG} {g : D → Env → Option Env} {tb : TS} {body : MS} (h : SimE K E ms te m) {ws : List Nat} (hg : SimTG K ws t g) (hp : ∀ i ∈ pin, i ∉ ws) (hb : SimS K E pin tb body) :
    SimS K E pin (tFor (iTup K te) t tb) (mForE (rBind m asU) g body) :=
  mForE_as (u := fun D x σ H1 => ∃ a, x = .ref a ∧ (∃ xs, SqT K H1 a xs) ∧ ∃ W : Nat → Nat → L2.St → Hp → Prop, (∃ m, W 0 m σ H1) ∧ ∀ i m σ H, W i m σ H →
      ((Itt K a).stop i H ∧ D.nx σ H) ∨ ((Itt K a).go i H ∧ ∃ N : L2.St → Hp → Prop, (∀ σ' H', N σ' H' → ∃ m', m' < m ∧ W (i + 1) m' σ' H') ∧ ∀ x H', (Itt K a).yld i H x H' → t x σ H' fun σ2 H2 => tb { D with nx := N, ct := N, bk := D.nx } σ2 H2)) h (fun s d v R fr ds ed out ρ' e D f => by
    unfold asU at ed
    split at ed
    · cases ed
      obtain ⟨a, xs, rfl, z1, z2⟩ := Fr.tup_iff.mp fr
      refine ⟨a, rfl, ⟨xs, same_tup R.zh z1⟩, ?_⟩
      refine for_tup (xs := xs) (At K pin s (mFor g body) ds out ρ') ⟨s, .refl R, rfl, rfl, e⟩ (fun i σ H _ hat => ?_) (fun i x σ H hi hat => ?_) fun σ H hat => for_end f z2.length hat
      · obtain ⟨s2, n2, _, rfl, _⟩ := hat
        exact same_tup n2.n.rep.zh (same_tup n2.n.zz z1)
      · obtain ⟨d, hd, fx⟩ := z2.at hi
        exact for_turn hg hp hb f hd hat fun s1 n1 _ => ⟨s1, .refl n1.n.rep, rfl, rfl, rfl, fx.mono n1.n.zz⟩
    · cases ed) asU_p
/-- over the script -/
def asS : D → Mo (List D)
  | .scr ns => rPure (ns.map fun n => .v (.int n))
  | _ => fun _ => none
theorem asS_p (d : D) (ρ : Env) (r : Except Xc (List D)) (ρ1 : Env) (e : asS d ρ = some (r, ρ1)) : ρ1 = ρ ∧ ∃ ds, r = .ok ds := by
  unfold asS at e
  split at e
  · cases e; exact ⟨rfl, _, rfl⟩
  · cases e
theorem ss_forS {te : TE} {m : Mo D} {t : TG} {g : D → Env → Option Env} {tb : TS} {body : MS} (h : SimE K E ms te m) {ws : List Nat} (hg : SimTG K ws t g) (hp : ∀ i ∈ pin, i ∉ ws) (hb : SimS K E pin tb body) :
    SimS K E pin (tFor (iList K te) t tb) (mForE (rBind m asS) g body) :=
  mForE_as (u := fun D x σ H1 => ∃ a, x = .ref a ∧ (∃ xs, SqL K H1 a xs) ∧ ∃ W : Nat → Nat → L2.St → Hp → Prop, (∃ m, W 0 m σ H1) ∧ ∀ i m σ H, W i m σ H →
      ((Itl K a).stop i H ∧ D.nx σ H) ∨ ((Itl K a).go i H ∧ ∃ N : L2.St → Hp → Prop, (∀ σ' H', N σ' H' → ∃ m', m' < m ∧ W (i + 1) m' σ' H') ∧ ∀ x H', (Itl K a).yld i H x H' → t x σ H' fun σ2 H2 => tb { D with nx := N, ct := N, bk := D.nx } σ2 H2)) h (fun s d v R fr ds ed out ρ' e D f => by
    unfold asS at ed
    split at ed
    · rename_i ns
      cases ed
      obtain ⟨a, rfl, z1⟩ := Fr.scr_iff.mp fr
      refine ⟨a, rfl, ⟨_, R.zh.seq z1⟩, ?_⟩
      refine for_list (xs := ns.map V.int) (At K pin s (mFor g body) (ns.map fun n => .v (.int n)) out ρ') ⟨s, .refl R, rfl, rfl, e⟩ (fun i σ H _ hat => ?_) (fun i x σ H hi hat => ?_) fun σ H hat => for_end f (by simp) hat
      · obtain ⟨s2, n2, _, rfl, _⟩ := hat
        exact n2.n.rep.zh.seq (n2.n.zz.seq z1)
      · rw [List.getElem?_map] at hi
        obtain ⟨n, hn, rfl⟩ := Option.map_eq_some_iff.mp hi
        exact for_turn hg hp hb f (d := .v (.int n)) (by rw [List.getElem?_map, hn]; rfl) hat fun s1 n1 _ => ⟨s1, .refl n1.n.rep, rfl, rfl, rfl, Fr.v_iff.mpr rfl⟩
    · cases ed) asS_p
/-- over range(n), range(a, b) -/
def asR1 : List D → Mo (List D)
  | [.v (.int j)] => if -(2 ^ 62) ≤ j ∧ j < 2 ^ 62 then rPure ((List.range j.toNat).map fun (i : Nat) => Dat.D.v (.int (i : Int))) else fun _ => none
  | _ => fun _ => none
theorem ss_forR1 {ta : TA} {m : Mo (List D)} {t : TG} {g : D → Env → Option Env} {tb : TS} {body : MS} (h : SimL K E ms ta m) {ws : List Nat} (hg : SimTG K ws t g) (hp : ∀ i ∈ pin, i ∉ ws) (hb : SimS K E pin tb body) :
    SimS K E pin (tFor (iRng1 ta) t tb) (mForE (rBind m asR1) g body) := by
  intro s R out ρ' e D fin
  unfold mForE mE at e
  cases e1 : m s.ρ with
  | none => simp only [rBind, e1] at e; cases e
  | some p =>
    obtain ⟨r, ρ1⟩ := p
    refine h s R r ρ1 e1 _ (fun ds hd vs s1 n1 hs hρ fr => ?_) fun x ex => ?_
    · subst hd
      simp only [rBind, e1] at e
      unfold asR1 at e
      split at e
      · cases e
      · cases e
        rename_i q
        split at q
        · split at q <;> cases q
        · cases q
      · rename_i ds' ρ2 q
        split at q
        · rename_i j
          split at q
          · rename_i hj
            cases q
            obtain ⟨x, r, rfl, h1, h2⟩ := FrL.cons_iff.mp fr
            rw [FrL.nil_iff.mp h2, Fr.v_iff.mp h1]
            refine ⟨j, rfl, hj.1, hj.2, ?_⟩
            have f1 := fin.base (n1.st (pin := pin) R hs)
            refine for_range (At K pin s1 (mFor g body) ((List.range j.toNat).map fun (i : Nat) => Dat.D.v (.int (i : Int))) out ρ') ⟨s1, .refl n1.rep, hs, rfl, by rw [hρ]; exact e⟩ (fun i σ H hi hat => ?_) fun σ H hat => for_end f1 (by simp) hat
            exact for_turn hg hp hb f1 (d := .v (.int i)) (by rw [List.getElem?_map, List.getElem?_range hi]; rfl) hat fun s2 n2 _ => ⟨s2, .refl n2.n.rep, rfl, rfl, rfl, Fr.v_iff.mpr (by rw [Int.zero_add])⟩
          · cases q
        · cases q
    · subst ex
      simp only [rBind, e1] at e
      cases e
      intro v dx s' n hσ hρ z w
      exact fin.ex x rfl v dx s' (n.st R hσ) hρ z w
/-! ### while -/
def mWhile (c : Mo Bool) (body : MS) : Nat → MS
  | 0, _ => none
  | n + 1, ρ => match c ρ with
    | none => none
    | some (.error x, ρ1) => some (.exc x, ρ1)
    | some (.ok false, ρ1) => some (.nx, ρ1)
    | some (.ok true, ρ1) => match body ρ1 with
      | none => none
      | some (.nx, ρ2) => mWhile c body n ρ2
      | some (.ct, ρ2) => mWhile c body n ρ2
      | some (.brk, ρ2) => some (.nx, ρ2)
      | some (.ret o, ρ2) => some (.ret o, ρ2)
      | some (.exc x, ρ2) => some (.exc x, ρ2)
open Classical in
noncomputable def mWhileX (c : Mo Bool) (body : MS) : MS := fun ρ => if h : ∃ n r, mWhile c body n ρ = some r then some (Classical.choose (Classical.choose_spec h)) else none
theorem mWhile_more {c : Mo Bool} {body : MS} : ∀ {n : Nat} {ρ : Env} {r : Out × Env}, mWhile c body n ρ = some r → mWhile c body (n + 1) ρ = some r
  | 0, ρ, r, e => by cases e
  | n + 1, ρ, r, e => by
    unfold mWhile at e ⊢
    cases e1 : c ρ with
    | none => rw [e1] at e; cases e
    | some p =>
      obtain ⟨x, ρ1⟩ := p
      rw [e1] at e
      cases x with
      | error x => exact e
      | ok b =>
        cases b with
        | false => exact e
        | true =>
          dsimp only at e ⊢
          cases e2 : body ρ1 with
          | none => rw [e2] at e; cases e
          | some q =>
            obtain ⟨o, ρ2⟩ := q
            rw [e2] at e
            cases o with
            | nx => exact mWhile_more e
            | ct => exact mWhile_more e
            | brk => exact e
            | ret o => exact e
            | exc x => exact e
theorem mWhile_le {c : Mo Bool} {body : MS} {n k : Nat} {ρ : Env} {r : Out × Env} (e : mWhile c body n ρ = some r) : mWhile c body (n + k) ρ = some r := by
  induction k with
  | zero => exact e
  | succ k ih => exact mWhile_more ih
theorem mWhileX_of {c : Mo Bool} {body : MS} {n : Nat} {ρ : Env} {r : Out × Env} (e : mWhile c body n ρ = some r) : mWhileX c body ρ = some r := by
  have h : ∃ n r, mWhile c body n ρ = some r := ⟨n, r, e⟩
  unfold mWhileX
  rw [dif_pos h]
  have q := Classical.choose_spec (Classical.choose_spec h)
  have q1 := mWhile_le (k := n) q
  have q2 := mWhile_le (k := Classical.choose h) e
  rw [Nat.add_comm, q1] at q2
  exact q2
theorem mWhileX_some {c : Mo Bool} {body : MS} {ρ : Env} {r : Out × Env} (e : mWhileX c body ρ = some r) : ∃ n, mWhile c body n ρ = some r := by
  unfold mWhileX at e
  split at e
  · rename_i h
    cases e
    exact ⟨_, Classical.choose_spec (Classical.choose_spec h)⟩
  · cases e
theorem ss_while {tc : TT} {tb : TS} {c : Mo Bool} {body : MS} (hc : SimT K E ms tc c) (hb : SimS K E pin tb body) : SimS K E pin (tWhile tc tb) (mWhileX c body) := by
  intro s R out ρ' e D f
  obtain ⟨n, e⟩ := mWhileX_some e
  refine ⟨fun m σ H => ∃ s1, NxS K pin s s1 ∧ s1.σ = σ ∧ s1.H = H ∧ mWhile c body m s1.ρ = some (out, ρ'), ⟨n, s, .refl R, rfl, rfl, e⟩, ?_⟩
  rintro m σ H ⟨s1, n1, rfl, rfl, e⟩
  cases m with
  | zero => cases e
  | succ m =>
    cases e1 : c s1.ρ with
    | none => simp only [mWhile, e1] at e; cases e
    | some p =>
      obtain ⟨r, ρ1⟩ := p
      refine hc s1 n1.n.rep r ρ1 e1 _ (fun b hb' b' s2 n2 hs hρ rel => ?_) fun x ex => ?_
      · subst hb' rel
        have n12 := n1.trans (n2.st n1.n.rep hs)
        cases b with
        | false =>
          simp only [mWhile, e1] at e
          cases e
          have := f.nx rfl s2 n12 hρ
          rw [hs] at this
          exact this
        | true =>
          refine ⟨fun σ H => ∃ s3, NxS K pin s s3 ∧ s3.σ = σ ∧ s3.H = H ∧ mWhile c body m s3.ρ = some (out, ρ'), fun σ' H' h => ⟨m, Nat.lt_succ_self m, h⟩, ?_⟩
          cases e2 : body ρ1 with
          | none => simp only [mWhile, e1, e2] at e; cases e
          | some q =>
            obtain ⟨o, ρ2⟩ := q
            simp only [mWhile, e1, e2] at e
            rw [← hs]
            refine hb s2 n2.rep o ρ2 (by rw [hρ]; exact e2) _ ?_
            cases o with
            | nx => exact ⟨fun _ s3 n3 h3 => ⟨s3, n12.trans n3, rfl, rfl, by rw [h3]; exact e⟩, fun o z => (nomatch z), fun z => (nomatch z), fun z => (nomatch z), fun o z => (nomatch z)⟩
            | ct => exact ⟨fun z => (nomatch z), fun o z => (nomatch z), fun z => (nomatch z), fun _ s3 n3 h3 => ⟨s3, n12.trans n3, rfl, rfl, by rw [h3]; exact e⟩, fun o z => (nomatch z)⟩
            | brk => cases e; exact ⟨fun z => (nomatch z), fun o z => (nomatch z), fun _ s3 n3 h3 => f.nx rfl s3 (n12.trans n3) h3, fun z => (nomatch z), fun o z => (nomatch z)⟩
            | ret o => cases e; exact ⟨fun z => (nomatch z), fun o' z v F s3 n3 h3 t3 => by cases z; exact f.rt _ rfl v F s3 (n12.trans n3) h3 (t3.base n12.n), fun z => (nomatch z), fun z => (nomatch z), fun o z => (nomatch z)⟩
            | exc x' => cases e; exact ⟨fun z => (nomatch z), fun o z => (nomatch z), fun z => (nomatch z), fun z => (nomatch z), fun x2 z v dx s3 n3 h3 z3 w3 => by cases z; exact f.ex _ rfl v dx s3 (n12.trans n3) h3 z3 w3⟩
      · subst ex
        simp only [mWhile, e1] at e
        cases e
        intro v dx s' n hσ hρ z w
        exact f.ex x rfl v dx s' (n1.trans (n.st n1.n.rep hσ)) hρ z w
end
end Dat
/-! Dat8: a def's body as a function; places changed. -/
namespace Dat
open PySem PySem.Spec PyProof.Rows L2
def outsOf : List O → Env → Option (List O)
  | [], _ => some []
  | .d x :: os, _ :: ρ => (outsOf os ρ).map fun l => .d x :: l
  | _ :: os, some o :: ρ => (outsOf os ρ).map fun l => o :: l
  | _, _ => none
def pinOk : Nat → List Nat → List O → Bool
  | _, _, [] => true
  | j, pin, .d _ :: os => pinOk (j + 1) pin os
  | j, pin, _ :: os => decide (j ∈ pin) && pinOk (j + 1) pin os
def runD (np n : Nat) (pin : List Nat) (m : MS) (os : List O) : Option Res :=
  if os.length = np ∧ pinOk 0 pin os = true then
    match m (os.map some ++ List.replicate (n - np) none) with
    | some (.nx, ρ) => (outsOf os ρ).map fun l => .ret (.d (.v .non)) l
    | some (.ret o, ρ) => (outsOf os ρ).map fun l => .ret o l
    | some (.exc x, ρ) => (outsOf os ρ).map fun l => .exc x l
    | _ => none
  else none
section
variable {K : PySem.W.Frag} {E : XK} {pin ms ms1 ms2 : List Nat} {s s1 s2 : S}
def O.isD : O → Bool
  | .d _ => true
  | _ => false
theorem pinOk_at : ∀ {os : List O} {j k : Nat} {o : O}, pinOk j pin os = true → os[k]? = some o → o.isD = false → j + k ∈ pin
  | [], j, k, o, _, e, _ => by simp at e
  | p :: os, j, 0, o, h, e, hd => by
    simp at e
    subst e
    cases p with
    | d x => cases hd
    | lst os' => exact of_decide_eq_true (Bool.and_eq_true_iff.mp h).1
    | dk ks os' => exact of_decide_eq_true (Bool.and_eq_true_iff.mp h).1
    | ins C fs os' => exact of_decide_eq_true (Bool.and_eq_true_iff.mp h).1
  | p :: os, j, k + 1, o, h, e, hd => by
    have h' : pinOk (j + 1) pin os = true := by
      cases p with
      | d x => exact h
      | lst os' => exact (Bool.and_eq_true_iff.mp h).2
      | dk ks os' => exact (Bool.and_eq_true_iff.mp h).2
      | ins C fs os' => exact (Bool.and_eq_true_iff.mp h).2
    have := pinOk_at (k := k) h' (by simpa using e) hd
    have q : j + (k + 1) = j + 1 + k := by omega
    rw [q]; exact this
theorem outsOf_at : ∀ {os : List O} {ρ : Env} {l : List O}, outsOf os ρ = some l → l.length = os.length ∧ ∀ (k : Nat) (o o' : O), os[k]? = some o → l[k]? = some o' → (∃ x, o = .d x ∧ o' = .d x) ∨ (o.isD = false ∧ ρ[k]? = some (some o'))
  | [], ρ, l, e => by
    unfold outsOf at e; cases e
    exact ⟨rfl, fun k o o' h => by simp at h⟩
  | p :: os, [], l, e => by
    cases p <;> (unfold outsOf at e; cases e)
  | p :: os, q :: ρ, l, e => by
    cases p with
    | d x =>
      unfold outsOf at e
      obtain ⟨l', e1, rfl⟩ := Option.map_eq_some_iff.mp e
      obtain ⟨h1, h2⟩ := outsOf_at e1
      refine ⟨by simp [h1], fun k o o' h h' => ?_⟩
      cases k with
      | zero => simp at h h'; subst h h'; exact .inl ⟨x, rfl, rfl⟩
      | succ k => exact h2 k o o' (by simpa using h) (by simpa using h')
    | _ =>
      cases q with
      | none => unfold outsOf at e; cases e
      | some o0 =>
        unfold outsOf at e
        obtain ⟨l', e1, rfl⟩ := Option.map_eq_some_iff.mp e
        obtain ⟨h1, h2⟩ := outsOf_at e1
        refine ⟨by simp [h1], fun k o o' h h' => ?_⟩
        cases k with
        | zero => simp at h h'; subst h h'; exact .inr ⟨rfl, rfl⟩
        | succ k => exact h2 k o o' (by simpa using h) (by simpa using h')
theorem get_append_left {α : Type} {l r : List α} {i : Nat} {a : α} (h : l[i]? = some a) : (l ++ r)[i]? = some a := by
  rw [List.getElem?_append_left (List.getElem?_eq_some_iff.mp h).1]; exact h
/-- back among the callers: only the parameters -/
theorem run_back {s0 : S} {os outs : List O} {vs : List V} {n : Nat} (R : Rep K s0) (hσ : s0.σ = vs.map some) (hρ : s0.ρ = os.map some) (hp : pinOk 0 pin os = true) {s' : S}
    (nx : NxS K pin { s0 with σ := vs.map some ++ List.replicate n none, ρ := os.map some ++ List.replicate n none } s') (ho : outsOf os s'.ρ = some outs) :
    ∃ s2, Nx K (fun _ => True) s0 s2 ∧ s2.σ = s0.σ ∧ s2.ρ = outs.map some ∧ s2.Z = s'.Z ∧ s2.H = s'.H ∧ (∀ i b, b ∈ s2.Fs i → b ∈ s'.Fs i) := by
  obtain ⟨hl, hat⟩ := outsOf_at ho
  have hlen : vs.length = os.length := by
    have := R.len
    rw [hσ, hρ] at this
    simpa using this
  let Fs2 : Nat → List Addr := fun i => match outs[i]? with
    | some (.d _) => []
    | some _ => s'.Fs i
    | none => []
  have sub : ∀ i b, b ∈ Fs2 i → b ∈ s'.Fs i := fun i b hb => by
    have hb : b ∈ (match outs[i]? with | some (.d _) => [] | some _ => s'.Fs i | none => []) := hb
    split at hb
    · cases hb
    · exact hb
    · cases hb
  refine ⟨{ Z := s'.Z, H := s'.H, σ := s0.σ, ρ := outs.map some, Fs := Fs2 }, ⟨⟨nx.n.rep.zh, by simp [hσ, hlen, hl], fun i o e => ?_, fun i h => ?_, fun i => ?_, fun i j b hij h1 h2 => ?_⟩, nx.n.zz, nx.n.keep, fun i hi => absurd trivial hi, fun i b hb => ?_, nx.n.znew⟩, rfl, rfl, rfl, rfl, sub⟩
  · have e : outs[i]? = some o := map_some_get e
    have hlt : i < os.length := by rw [← hl]; exact (List.getElem?_eq_some_iff.mp e).1
    obtain ⟨v, hv⟩ : ∃ v, vs[i]? = some v := ⟨vs[i]'(by omega), List.getElem?_eq_getElem _⟩
    refine ⟨v, by rw [hσ, List.getElem?_map, hv]; rfl, ?_⟩
    show Ow K s'.Z s'.H o v (match outs[i]? with | some (.d _) => [] | some _ => s'.Fs i | none => [])
    rw [e]
    rcases hat i os[i] o (List.getElem?_eq_getElem hlt) e with ⟨x, h1, rfl⟩ | ⟨h1, h2⟩
    · obtain ⟨w, hw, q⟩ := R.own i (.d x) (by rw [hρ, List.getElem?_map, List.getElem?_eq_getElem hlt, h1]; rfl)
      rw [hσ, List.getElem?_map, hv] at hw
      cases hw
      exact Ow.d_iff.mpr ⟨rfl, (Ow.d_iff.mp q).2.mono nx.n.zz⟩
    · obtain ⟨w, hw, q⟩ := nx.n.rep.own i o h2
      have hpin := pinOk_at (k := i) hp (List.getElem?_eq_getElem hlt) h1
      rw [Nat.zero_add] at hpin
      rw [nx.pin i hpin] at hw
      have hv' : (vs.map some ++ List.replicate n none)[i]? = some (some v) := get_append_left (by rw [List.getElem?_map, hv]; rfl)
      rw [show ({ s0 with σ := vs.map some ++ List.replicate n none, ρ := os.map some ++ List.replicate n none } : S).σ = vs.map some ++ List.replicate n none from rfl, hv'] at hw
      cases hw
      cases o with
      | d x => exact Ow.d_iff.mpr ⟨rfl, (Ow.d_iff.mp q).2⟩
      | lst _ => exact q
      | dk _ _ => exact q
      | ins _ _ _ => exact q
  · show (match outs[i]? with | some (.d _) => [] | some _ => s'.Fs i | none => []) = []
    cases e : outs[i]? with
    | none => rfl
    | some o => exact absurd (show (outs.map some)[i]? = some (some o) by rw [List.getElem?_map, e]; rfl) (h o)
  · show (match outs[i]? with | some (.d _) => [] | some _ => s'.Fs i | none => []).Nodup
    split
    · exact List.nodup_nil
    · exact nx.n.rep.nd i
    · exact List.nodup_nil
  · exact nx.n.rep.dj i j b hij (sub i b h1) (sub j b h2)
  · exact nx.n.new i b (sub i b hb)
/-- THE RULE: a body that does m keeps the promise of runD -/
theorem runD_ok {np : Nat} {N : List Str} {t : TS} {m : MS} (hN : np ≤ N.length) (h : SimS K E pin t m) {vs : List V} {H : Hp} {Q : VK} (hsp : spD K (runD np N.length pin m) vs H Q E) :
    vs.length = np ∧ t { nx := fun _ H' => Q .non H', rt := Q } (L2.start N vs) H := by
  obtain ⟨s0, os, res, R, rfl, hσ, hρ, hF, hret, hexc⟩ := hsp
  have hlen : vs.length = os.length := by
    have := R.len
    rw [hσ, hρ] at this
    simpa using this
  unfold runD at hF
  split at hF
  · rename_i hc
    obtain ⟨hnp, hp⟩ := hc
    refine ⟨hlen.trans hnp, ?_⟩
    have hst : L2.start N vs = vs.map some ++ List.replicate (N.length - np) none := by unfold L2.start; rw [hlen, hnp]
    have R1 : Rep K { s0 with σ := vs.map some ++ List.replicate (N.length - np) none, ρ := os.map some ++ List.replicate (N.length - np) none } := by
      refine ⟨R.zh, by simp [hlen], fun i o e => ?_, fun i h => ?_, R.nd, R.dj⟩
      · have e : (os.map some ++ List.replicate (N.length - np) none)[i]? = some (some o) := e
        have hlt : i < os.length := by
          refine Nat.lt_of_not_le fun hle => ?_
          rw [List.getElem?_append_right (by simpa using hle), List.getElem?_replicate] at e
          split at e <;> cases e
        rw [List.getElem?_append_left (by simpa using hlt)] at e
        obtain ⟨v, hv, q⟩ := R.own i o (by rw [hρ]; exact e)
        rw [hσ] at hv
        exact ⟨v, get_append_left hv, q⟩
      · refine R.emp i fun o e => h o ?_
        rw [hρ] at e
        exact get_append_left e
    rw [hst]
    cases em : m (os.map some ++ List.replicate (N.length - np) none) with
    | none => rw [em] at hF; cases hF
    | some p =>
      obtain ⟨out, ρ'⟩ := p
      rw [em] at hF
      refine h _ R1 out ρ' em _ ⟨fun e s' n hr => ?_, fun o e v F s' n hr tm => ?_, fun e => ?_, fun e => ?_, fun x e v dx s' n hr z w => ?_⟩
      · subst e
        obtain ⟨l, el, rfl⟩ := Option.map_eq_some_iff.mp hF
        obtain ⟨s2, n2, h1, h2, h3, h4, h5⟩ := run_back R hσ hρ hp n (by rw [hr]; exact el)
        have := hret _ _ rfl .non [] s2 n2 h1 h2 (Tmp.d (Fr.v_iff.mpr rfl))
        rw [h4] at this
        exact this
      · subst e
        obtain ⟨l, el, rfl⟩ := Option.map_eq_some_iff.mp hF
        obtain ⟨s2, n2, h1, h2, h3, h4, h5⟩ := run_back R hσ hρ hp n (by rw [hr]; exact el)
        have := hret _ _ rfl v F s2 n2 h1 h2 ⟨by rw [h3, h4]; exact tm.ow, tm.nd, fun i b hb hbi => tm.dj i b hb (h5 i b hbi), tm.new⟩
        rw [h4] at this
        exact this
      · subst e
        cases hF
      · subst e
        cases hF
      · subst e
        obtain ⟨l, el, rfl⟩ := Option.map_eq_some_iff.mp hF
        obtain ⟨s2, n2, h1, h2, h3, h4, h5⟩ := run_back R hσ hρ hp n (by rw [hr]; exact el)
        have := hexc _ _ rfl v dx s2 n2 h1 h2 (by rw [h3]; exact z) (by rw [h3]; exact w)
        rw [h4] at this
        exact this
  · cases hF
/-! ### a place changed -/
/-- the way to a place stays where the slot's tree is not touched -/
theorem Ow.way {Z H H' : Hp} : ∀ {π : List Pt} {o n : O} {v u : V} {F : List Addr}, Ow K Z H o v F → o.get π = some n → Way H v π u → (∀ b ∈ F, H' b = H b) → Way H' v π u
  | [], _, _, _, _, _, _, _, .nil v, _ => .nil v
  | p :: π, o, n, v, u, F, h, e, w, hk => by
    have e : ((o.kidAt p).bind fun i => (o.kids[i]?).bind fun c => c.get π) = some n := e
    obtain ⟨i, hi, e2⟩ := Option.bind_eq_some_iff.mp e
    obtain ⟨c, hc, e3⟩ := Option.bind_eq_some_iff.mp e2
    cases w with
    | @ix a xs j x _ _ h1 h2 h3 =>
      cases o with
      | lst os =>
        obtain ⟨a', xs', F0, q1, q2, q3, rfl, h5⟩ := Ow.lst_iff.mp h
        cases q1
        rw [h1] at q2; cases q2
        obtain ⟨y, A, F1, B, hx, rfl, hox, _⟩ := h5.split (i := i) (o := c) hc
        have hi : ixN os.length j = some i := hi
        unfold atI at h2
        rw [h5.length, hi, Option.bind_some] at h2
        rw [hx] at h2
        cases h2
        exact .ix ((hk a List.mem_cons_self).trans h1) (by unfold atI; rw [h5.length, hi]; exact hx) (Ow.way hox e3 h3 fun b hb => hk b (by simp [hb]))
      | _ => cases hi
    | @ky a kvs k x _ _ h1 h2 h3 =>
      cases o with
      | dk ks os =>
        obtain ⟨a', xs', F0, q1, q2, q3, rfl, h5, h55, h6⟩ := Ow.dk_iff.mp h
        cases q1
        rw [h1] at q2; cases q2
        obtain ⟨y, A, F1, B, hx, rfl, hox, _⟩ := h6.split (i := i) (o := c) hc
        have hi : ks.findIdx? (fun y => decide (y = k)) = some i := hi
        have hv : valV kvs k = some y := valV_at (by rw [h5]; exact hi) hx
        rw [hv] at h2
        cases h2
        exact .ky ((hk a List.mem_cons_self).trans h1) hv (Ow.way hox e3 h3 fun b hb => hk b (by simp [hb]))
      | _ => cases hi
    | @fd a dx C fs f x _ _ h1 h2 h3 =>
      cases o with
      | ins C' fs' os =>
        obtain ⟨a', dx', xs', F0, q1, q2, q3, rfl, h5, h6⟩ := Ow.ins_iff.mp h
        cases q1
        rw [h1] at q2; cases q2
        obtain ⟨y, A, F1, B, hx, rfl, hox, _⟩ := h6.split (i := i) (o := c) hc
        have hi : fs'.findIdx? (fun y => decide (y = f)) = some i := hi
        have hv : fs.lookup f = some y := look_at (by rw [h5]; exact hi) hx
        rw [hv] at h2
        cases h2
        exact .fd ((hk a List.mem_cons_self).trans h1) hv (Ow.way hox e3 h3 fun b hb => hk b (by simp [hb]))
      | _ => cases hi
/-- what a method of a place does: its value and the place's new content, from the place and what is handed in -/
def MutSh (K : PySem.W.Frag) (T : String) (r : V → List V → Hp → VK → Prop) (nf : O → List D → Option (D × O)) : Prop :=
  ∀ Z H n v F ds xs d n', Same Z H → Ow K Z H n v F → F.Nodup → FrL K Z ds xs → nf n ds = some (d, n') → ∀ Q : VK,
    (∀ u Z' H' F', Same Z Z' → Same Z' H' → (∀ b w, H b = some w → b ∉ F → H' b = some w) → (∀ b, Z b = none → Z' b ≠ none → b ∈ F ∨ H b = none) → Ow K Z' H' n' v F' → F'.Nodup → (∀ b ∈ F', b ∈ F ∨ H b = none) → Fr K Z' d u → Q u H') → r v xs H Q
def TySh (K : PySem.W.Frag) (T : String) (tf : O → Bool) : Prop := ∀ Z H n v F, Ow K Z H n v F → tf n = true → tyV K T v H
def xMut (i : Nat) (p : Env → Option (List Pt)) (tf : O → Bool) (nf : O → List D → Option (D × O)) (ma : Mo (List D)) : Mo D := fun ρ => match p ρ, ρ[i]? with
  | some π, some (some o) => match o.get π with
    | some n => if tf n = true then (rBind ma fun ds ρ1 => match nf n ds with
      | some (d, n') => match o.put π n' with
        | some o' => some (.ok d, ρ1.set i (some o'))
        | none => none
      | none => none) ρ else none
    | none => none
  | _, _ => none
theorem se_mut {T : String} {r : V → List V → Hp → VK → Prop} {tf : O → Bool} {nf : O → List D → Option (D × O)} {i : Nat} {p : Env → Option (List Pt)} {to : TE} {ta : TA} {ma : Mo (List D)} (hr : MutSh K T r nf) (ht : TySh K T tf) (hi : i ∉ ms) (ho : SimB K i to p) (ha : SimL K E ms ta ma) :
    SimE K E (ms ++ [i]) (fun σ H Q => to σ H fun x H1 => tyV K T x H1 ∧ ta σ H1 fun xs H2 => r x xs H2 Q) (xMut i p tf nf ma) := by
  intro s R q ρ' e Q hq hx
  unfold xMut at e
  split at e
  · rename_i π o e1 e2
    split at e
    · rename_i n e3
      split at e
      · rename_i htf
        obtain ⟨v0, hv, w0⟩ := R.own i o e2
        refine ho s R π e1 o n v0 e2 hv e3 _ fun v s1 n1 hs1 hρ1 w1 => ?_
        have ho1 : s1.ρ[i]? = some (some o) := by rw [hρ1]; exact e2
        have hv1 : s1.σ[i]? = some (some v0) := by rw [hs1]; exact hv
        obtain ⟨v1, v', F', h1, h2, h3, _⟩ := n1.rep.focus (P := fun _ => True) trivial ho1 e3
        rw [hv1] at h1; cases h1
        have := Way.det w1 h2
        subst this
        refine ⟨ht _ _ _ _ _ h3 htf, ?_⟩
        rw [← hρ1] at e
        rw [← hs1]
        refine (ha s1 n1.rep).bind (ms2 := [i]) (t2 := fun (xs : List V) _ H (Q : VK) => r v xs H Q) (fun s2 ds xs R2' n2 hs2 hds => ?_) q ρ' e Q (fun d hd u s' n' hs' hρ' fr => hq d hd u s' ((n1.mono fun _ h => absurd h (by simp)).trans n') (hs'.trans hs1) hρ' fr) fun x ex =>
          (hx x ex).base (n1.mono fun _ h => absurd h (by simp)) hs1
        intro q2 ρ2 e Q hq _
        have ho2 : s2.ρ[i]? = some (some o) := by rw [(n2.fix i hi).2]; exact ho1
        have hv2 : s2.σ[i]? = some (some v0) := by rw [hs2]; exact hv1
        obtain ⟨v1, v2, F2, g1, g2, g3, g4, g5, g6⟩ := R2'.focus (P := (· ∈ [i])) (List.mem_singleton.mpr rfl) ho2 e3
        rw [hv2] at g1; cases g1
        have wv : v2 = v := by
          obtain ⟨w, hw, q⟩ := n1.rep.own i o ho1
          rw [hv1] at hw; cases hw
          exact Way.det g2 (q.way e3 w1 fun b hb => (n2.own_fix n1.rep hi b hb).1)
        subst wv
        split at e
        · rename_i d n' en
          split at e
          · rename_i o' eo
            cases e
            refine hr s2.Z s2.H n _ F2 ds xs d n' R2'.zh g3 g4 hds en Q fun u Z' H' F'' zz zh keep znew ow nd new fr => ?_
            obtain ⟨o'', Fn, ep, nx⟩ := g6 zz zh keep znew ow nd new
            rw [eo] at ep; cases ep
            exact hq d rfl u _ nx rfl rfl fr
          · cases e
        · cases e
      · cases e
    · cases e
  · cases e
/-- rows of owned things cut -/
theorem OwL.cut {Z H : Hp} : ∀ (n : Nat) {os : List O} {xs : List V} {F : List Addr}, OwL K Z H os xs F → ∃ F1 F2, F = F1 ++ F2 ∧ OwL K Z H (os.take n) (xs.take n) F1 ∧ OwL K Z H (os.drop n) (xs.drop n) F2
  | 0, os, xs, F, h => ⟨[], F, rfl, OwL.nil, h⟩
  | n + 1, [], xs, F, h => by
    obtain ⟨rfl, rfl⟩ := OwL.nil_iff.mp h
    exact ⟨[], [], rfl, OwL.nil, OwL.nil⟩
  | n + 1, o :: os, xs, F, h => by
    obtain ⟨x, r, F1, F2, rfl, rfl, h3, t⟩ := OwL.cons_iff.mp h
    obtain ⟨G1, G2, rfl, t1, t2⟩ := OwL.cut n t
    exact ⟨F1 ++ G1, G2, by simp, OwL.cons h3 t1, t2⟩
theorem OwL.one {Z H : Hp} {d : D} {x : V} (h : Fr K Z d x) : OwL K Z H [.d d] [x] [] := by
  have := OwL.cons (K := K) (H := H) (Ow.d_iff.mpr ⟨rfl, h⟩ : Ow K Z H (.d d) x []) (OwL.nil (K := K) (Z := Z) (H := H))
  simpa using this
theorem ty_list : TySh K "list" (fun o => match o with | .lst _ => true | _ => false) := by
  intro Z H n v F h e
  cases n with
  | lst os =>
    obtain ⟨a, xs, F', rfl, h2, _⟩ := Ow.lst_iff.mp h
    exact Or.inl ⟨rfl, xs, SqL.of h2⟩
  | _ => cases e
def isL : O → Bool := fun o => match o with | .lst _ => true | _ => false
/-- a list at a with other items -/
theorem mut_lst {Z H : Hp} (zh : Same Z H) {a : Addr} {xs ys : List V} {os' : List O} {F' G : List Addr} (h2 : H a = some (.lst xs)) (h3 : Z a = none) (nd : (a :: F').Nodup) (hz : OwL K Z H os' ys G) (hG : G.Sublist F') {d : D} {u : V} (fr : Fr K Z d u) {Q : VK}
    (hq : ∀ u Z' H' F'', Same Z Z' → Same Z' H' → (∀ b w, H b = some w → b ∉ a :: F' → H' b = some w) → (∀ b, Z b = none → Z' b ≠ none → b ∈ a :: F' ∨ H b = none) → Ow K Z' H' (.lst os') (.ref a) F'' → F''.Nodup → (∀ b ∈ F'', b ∈ a :: F' ∨ H b = none) → Fr K Z' d u → Q u H') : Q u (upd H a (.lst ys)) := by
  have n1 := List.nodup_cons.mp nd
  have zs : Same Z (upd H a (.lst ys)) := fun b o e => by
    rw [upd_ne (fun z => by rw [z, h3] at e; cases e)]
    exact zh b o e
  refine hq u Z _ (a :: G) (Same.refl _) zs (fun b w e hb => ?_) (fun b e e' => absurd e e') (Ow.lst_iff.mpr ⟨a, ys, G, rfl, upd_same, h3, rfl, hz.mono (Same.refl _) fun b hb => ?_⟩) (List.nodup_cons.mpr ⟨fun h => n1.1 (hG.subset h), n1.2.sublist hG⟩) (fun b hb => ?_) fr
  · rw [upd_ne (fun z => hb (by simp [z]))]; exact e
  · have := hz.stands b hb
    exact ⟨upd_ne fun z => n1.1 (hG.subset (z ▸ hb)), this.1⟩
  · rcases List.mem_cons.mp hb with rfl | hb
    · exact .inl List.mem_cons_self
    · exact .inl (List.mem_cons_of_mem _ (hG.subset hb))
def nAppend : O → List D → Option (D × O)
  | .lst os, [d] => if os.length < sizeLine then some (.v .non, .lst (os ++ [.d d])) else none
  | _, _ => none
theorem mu_append : MutSh K "list" rAppend nAppend := by
  intro Z H n v F ds xs d n' zh h nd hd e Q hq
  unfold nAppend at e
  split at e
  · rename_i os d0
    split at e
    · rename_i hl
      cases e
      obtain ⟨a, ys, F', rfl, h2, h3, rfl, h5⟩ := Ow.lst_iff.mp h
      obtain ⟨x, r, rfl, g1, g2⟩ := FrL.cons_iff.mp hd
      rw [FrL.nil_iff.mp g2]
      refine ⟨a, ys, x, rfl, rfl, h2, by rw [h5.length]; exact hl, ?_⟩
      exact mut_lst zh h2 h3 nd (by simpa using h5.append (OwL.one g1)) (List.Sublist.refl _) (Fr.v_iff.mpr rfl) hq
    · cases e
  · cases e
def nInsert : O → List D → Option (D × O)
  | .lst os, [.v (.int i), d] => if os.length < sizeLine ∧ 0 ≤ i ∧ i < 2 ^ 63 then some (.v .non, .lst (os.take i.toNat ++ [.d d] ++ os.drop i.toNat)) else none
  | _, _ => none
def rInsert : V → List V → Hp → VK → Prop := fun x vs H Q => ∃ (l : Addr) (xs : List V) (i : Int) (y : V), x = .ref l ∧ vs = [.int i, y] ∧ H l = some (.lst xs) ∧ xs.length < sizeLine ∧ 0 ≤ i ∧ i < 2 ^ 63 ∧
    Q .non (upd H l (.lst (xs.take i.toNat ++ [y] ++ xs.drop i.toNat)))
theorem mu_insert : MutSh K "list" rInsert nInsert := by
  intro Z H n v F ds xs d n' zh h nd hd e Q hq
  unfold nInsert at e
  split at e
  · rename_i os i d0
    split at e
    · rename_i hl
      cases e
      obtain ⟨a, ys, F', rfl, h2, h3, rfl, h5⟩ := Ow.lst_iff.mp h
      obtain ⟨x, r, rfl, g1, g2⟩ := FrL.cons_iff.mp hd
      obtain ⟨y, r, rfl, g3, g4⟩ := FrL.cons_iff.mp g2
      rw [FrL.nil_iff.mp g4, Fr.v_iff.mp g1]
      refine ⟨a, ys, i, y, rfl, rfl, h2, by rw [h5.length]; exact hl.1, hl.2.1, hl.2.2, ?_⟩
      obtain ⟨F1, F2, rfl, t1, t2⟩ := h5.cut i.toNat
      have q := (t1.append (OwL.one g3)).append t2
      rw [List.append_nil] at q
      exact mut_lst zh h2 h3 nd q (List.Sublist.refl _) (Fr.v_iff.mpr rfl) hq
    · cases e
  · cases e
theorem O.d_of {o : O} {d : D} (h : (match o with | .d x => some x | _ => none) = some d) : o = .d d := by
  cases o with
  | d x => cases h; rfl
  | _ => cases h
def O.dat : O → Option D
  | .d x => some x
  | _ => none
theorem O.dat_some {o : O} {d : D} (h : o.dat = some d) : o = .d d := by
  cases o with
  | d x => cases h; rfl
  | _ => cases h
theorem OwL.getD {Z H : Hp} {os : List O} {xs : List V} {F : List Addr} {i : Nat} {d : D} (h : OwL K Z H os xs F) (e : os[i]? = some (.d d)) : ∃ x, xs[i]? = some x ∧ Fr K Z d x := by
  obtain ⟨x, A, F', B, hx, _, hox, _⟩ := h.split e
  exact ⟨x, hx, (Ow.d_iff.mp hox).2⟩
theorem sublist_mid {A B C : List Addr} : (A ++ C).Sublist (A ++ B ++ C) := by
  rw [List.append_assoc]
  exact (List.Sublist.refl A).append (List.sublist_append_right B C)
/-- pop of the last: frozen -/
def nPop : O → List D → Option (D × O)
  | .lst os, [] => ((os[os.length - 1]?).bind O.dat).map fun d => (d, .lst os.dropLast)
  | _, _ => none
theorem mu_pop : MutSh K "list" rPop nPop := by
  intro Z H n v F ds xs d n' zh h nd hd e Q hq
  unfold nPop at e
  split at e
  · rename_i os
    obtain ⟨d0, e1, e2⟩ := Option.map_eq_some_iff.mp e
    cases e2
    obtain ⟨o, e3, e4⟩ := Option.bind_eq_some_iff.mp e1
    have := O.dat_some e4
    subst this
    obtain ⟨a, ys, F', rfl, h2, h3, rfl, h5⟩ := Ow.lst_iff.mp h
    obtain ⟨x, hx, fr⟩ := h5.getD e3
    rw [FrL.nil_iff.mp hd]
    refine ⟨a, ys, x, rfl, rfl, h2, by rw [h5.length]; exact hx, ?_⟩
    obtain ⟨F1, F2, rfl, t1, t2⟩ := h5.cut (os.length - 1)
    rw [← List.dropLast_eq_take] at t1
    have e5 : ys.take (os.length - 1) = ys.dropLast := by rw [List.dropLast_eq_take, h5.length]
    rw [e5] at t1
    exact mut_lst zh h2 h3 nd t1 (List.sublist_append_left _ _) fr hq
  · cases e
/-- pop of the i-th: frozen -/
def nPopAt : O → List D → Option (D × O)
  | .lst os, [.v (.int i)] => if -(2 ^ 63) ≤ i ∧ i < 2 ^ 63 then (seqIndex? i os.length).bind fun k => ((os[k]?).bind O.dat).map fun d => (d, .lst (os.eraseIdx k)) else none
  | _, _ => none
theorem eraseIdx_cut {α : Type} (l : List α) (k : Nat) : l.eraseIdx k = l.take k ++ l.drop (k + 1) := List.eraseIdx_eq_take_drop_succ l k
theorem mu_popAt : MutSh K "list" rPopAt nPopAt := by
  intro Z H n v F ds xs d n' zh h nd hd e Q hq
  unfold nPopAt at e
  split at e
  · rename_i os i
    split at e
    · rename_i hi
      obtain ⟨k, ek, e⟩ := Option.bind_eq_some_iff.mp e
      obtain ⟨d0, e1, e2⟩ := Option.map_eq_some_iff.mp e
      cases e2
      obtain ⟨o, e3, e4⟩ := Option.bind_eq_some_iff.mp e1
      have := O.dat_some e4
      subst this
      obtain ⟨a, ys, F', rfl, h2, h3, rfl, h5⟩ := Ow.lst_iff.mp h
      obtain ⟨x, hx, fr⟩ := h5.getD e3
      obtain ⟨y, r, rfl, g1, g2⟩ := FrL.cons_iff.mp hd
      rw [FrL.nil_iff.mp g2, Fr.v_iff.mp g1]
      refine ⟨a, ys, i, k, x, rfl, rfl, h2, hi.1, hi.2, by rw [h5.length]; exact ek, hx, ?_⟩
      obtain ⟨F1, F2, rfl, t1, t2⟩ := h5.cut k
      obtain ⟨G1, G2, rfl, u1, u2⟩ := t2.cut 1
      rw [List.drop_drop, List.drop_drop] at u2
      rw [eraseIdx_cut ys]
      rw [eraseIdx_cut os] at hq
      refine mut_lst zh h2 h3 nd (t1.append u2) ?_ fr hq
      exact (List.Sublist.refl _).append (List.sublist_append_right _ _)
    · cases e
  · cases e
end
end Dat
/-! Dat9: owned things made, moved, stored; instances. -/
namespace Dat
open PySem PySem.Spec PyProof.Rows L2
section
variable {K : PySem.W.Frag} {E : XK} {pin ms ms1 ms2 : List Nat} {s s1 s2 : S}
theorem SimO.mono {t : TE} {m : Mo O} (h : SimO K E ms1 t m) (hm : ∀ i ∈ ms1, i ∈ ms2) : SimO K E ms2 t m :=
  fun s R r ρ' e Q hq hx => h s R r ρ' e Q (fun o ho v F s' n hs hρ tm => hq o ho v F s' (n.mono hm) hs hρ (tm.mono hm)) fun x ex => (hx x ex).mono hm
/-- frozen things are owned by nobody -/
def oD (m : Mo D) : Mo O := rBind m fun d => rPure (.d d)
theorem so_of {t : TE} {m : Mo D} (h : SimE K E ms t m) : SimO K E ms t (oD m) := by
  intro s R r ρ' e Q hq hx
  unfold oD rBind at e
  split at e
  · cases e
  · rename_i x ρ1 e1
    cases e
    exact h s R _ _ e1 Q (fun a z => nomatch z) fun y hy => by cases hy; exact hx x rfl
  · rename_i d ρ1 e1
    cases e
    exact h s R _ _ e1 Q (fun a ha v s' n hs hρ fr => by cases ha; exact hq _ rfl v [] s' n hs hρ (Tmp.d fr)) fun y hy => nomatch hy
/-- owned things frozen -/
def xFz (m : Mo O) : Mo D := rBind m fun o => rPure o.toD
theorem se_fz {t : TE} {m : Mo O} (h : SimO K E ms t m) : SimE K E ms t (xFz m) := by
  intro s R r ρ' e Q hq hx
  unfold xFz rBind at e
  split at e
  · cases e
  · rename_i x ρ1 e1
    cases e
    exact h s R _ _ e1 Q (fun a z => nomatch z) fun y hy => by cases hy; exact hx x rfl
  · rename_i o ρ1 e1
    cases e
    refine h s R _ _ e1 Q (fun a ha v F s' n hs hρ tm => ?_) fun y hy => nomatch hy
    cases ha
    obtain ⟨s2, n2, h1, h2, h3, h4, h5, fr⟩ := tm.froz R n
    rw [← h1]
    exact hq _ rfl v s2 n2 (h2.trans hs) (h3.trans hρ) fr
/-- a name's thing moved out -/
def oMv (i : Nat) : Mo O := fun ρ => match ρ[i]? with
  | some (some o) => some (.ok o, ρ.set i none)
  | _ => none
theorem so_mv (i : Nat) : SimO K E [i] (tVar i) (oMv i) := by
  intro s R r ρ' e Q hq hx
  unfold oMv at e
  split at e
  · rename_i o ho
    cases e
    obtain ⟨v, hv, w⟩ := R.own i o ho
    have hlt := (List.getElem?_eq_some_iff.mp ho).1
    refine ⟨v, hv, ?_⟩
    refine hq o rfl v (s.Fs i) { s with ρ := s.ρ.set i none, Fs := setF s.Fs i [] } ⟨⟨R.zh, by simp [R.len], fun j p e => ?_, fun j h => ?_, fun j => ?_, fun j k b hjk h1 h2 => ?_⟩, Same.refl _, fun b o e _ => e, fun j hj => ?_, fun j b hb => ?_, fun b z z' => absurd z z'⟩ rfl rfl ⟨w, R.nd i, fun j b hb hbj => ?_, fun b hb => .inl ⟨i, List.mem_singleton.mpr rfl, hb⟩⟩
    · have e : (s.ρ.set i none)[j]? = some (some p) := e
      by_cases hj : j = i
      · subst hj; rw [List.getElem?_set_self hlt] at e; cases e
      · rw [List.getElem?_set_ne (Ne.symm hj)] at e
        obtain ⟨u, h1, h2⟩ := R.own j p e
        refine ⟨u, h1, ?_⟩
        show Ow K s.Z s.H p u (setF s.Fs i [] j)
        rw [setF_ne hj]; exact h2
    · show setF s.Fs i [] j = []
      by_cases hj : j = i
      · subst hj; exact setF_same
      · rw [setF_ne hj]
        exact R.emp j fun p e => h p ((List.getElem?_set_ne (Ne.symm hj)).trans e)
    · show (setF s.Fs i [] j).Nodup
      by_cases hj : j = i
      · subst hj; rw [setF_same]; exact List.nodup_nil
      · rw [setF_ne hj]; exact R.nd j
    · have g1 : b ∈ setF s.Fs i [] j := h1
      have g2 : b ∈ setF s.Fs i [] k := h2
      by_cases hj : j = i
      · subst hj; rw [setF_same] at g1; cases g1
      · by_cases hk : k = i
        · subst hk; rw [setF_same] at g2; cases g2
        · rw [setF_ne hj] at g1; rw [setF_ne hk] at g2; exact R.dj j k b hjk g1 g2
    · have hj' : j ≠ i := fun z => hj (by simp [z])
      exact ⟨setF_ne hj', List.getElem?_set_ne (Ne.symm hj')⟩
    · have hb : b ∈ setF s.Fs i [] j := hb
      by_cases hj : j = i
      · subst hj; rw [setF_same] at hb; cases hb
      · rw [setF_ne hj] at hb; exact .inr (.inl hb)
    · have hbj : b ∈ setF s.Fs i [] j := hbj
      by_cases hj : j = i
      · subst hj; rw [setF_same] at hbj; cases hbj
      · rw [setF_ne hj] at hbj; exact R.dj j i b hj hbj hb
  · cases e
/-! ### rows of owned things -/
structure TmpL (K : PySem.W.Frag) (P : Nat → Prop) (s s' : S) (os : List O) (vs : List V) (F : List Addr) : Prop where
  ow : OwL K s'.Z s'.H os vs F
  nd : F.Nodup
  dj : ∀ i b, b ∈ F → b ∉ s'.Fs i
  new : ∀ b, b ∈ F → (∃ j, P j ∧ b ∈ s.Fs j) ∨ s.H b = none
def SimOs (K : PySem.W.Frag) (E : XK) (ms : List Nat) (t : TA) (m : Mo (List O)) : Prop := ∀ s, Rep K s → ∀ r ρ', m s.ρ = some (r, ρ') → ∀ Q : List V → Hp → Prop,
  (∀ os, r = .ok os → ∀ vs F s', Nx K (· ∈ ms) s s' → s'.σ = s.σ → s'.ρ = ρ' → TmpL K (· ∈ ms) s s' os vs F → Q vs s'.H) → (∀ x, r = .error x → ExEv K E (· ∈ ms) s x ρ') → t s.σ s.H Q
def olNil : Mo (List O) := rPure []
def olCons (a : Mo O) (b : Mo (List O)) : Mo (List O) := rBind a fun o => rBind b fun os => rPure (o :: os)
theorem sol_nil : SimOs K E [] tNil olNil := by
  intro s R r ρ' e Q hq hx
  cases e
  exact hq [] rfl [] [] s (Nx.refl R) rfl rfl ⟨OwL.nil, List.nodup_nil, fun _ _ h => absurd h (by simp), fun _ h => absurd h (by simp)⟩
theorem sol_cons {ta : TE} {tr : TA} {a : Mo O} {b : Mo (List O)} (ha : SimO K E ms1 ta a) (hb : SimOs K E ms2 tr b) : SimOs K E (ms1 ++ ms2) (tCons ta tr) (olCons a b) := by
  intro s R r ρ' e Q hq hx
  have l1 : ∀ i, i ∈ ms1 → i ∈ ms1 ++ ms2 := fun i hi => List.mem_append_left _ hi
  have l2 : ∀ i, i ∈ ms2 → i ∈ ms1 ++ ms2 := fun i hi => List.mem_append_right _ hi
  cases e1 : a s.ρ with
  | none => simp only [olCons, rBind, e1] at e; cases e
  | some p =>
    obtain ⟨r1, ρ1⟩ := p
    refine ha s R r1 ρ1 e1 _ (fun o ho v F1 s1 n1 hs1 hρ1 t1 => ?_) fun x ex => ?_
    · subst ho
      rw [← hs1]
      cases e2 : b ρ1 with
      | none => simp only [olCons, rBind, e1, e2] at e; cases e
      | some p =>
        obtain ⟨r2, ρ2⟩ := p
        refine hb s1 n1.rep r2 ρ2 (by rw [hρ1]; exact e2) _ (fun os hos vs F2 s2 n2 hs2 hρ2 t2 => ?_) fun x ex => ?_
        · subst hos
          simp only [olCons, rBind, e1, e2, rPure] at e
          cases e
          have t1' := (t1.mono l1).go (n2.mono l2) (n1.mono l1)
          refine hq (o :: os) rfl (v :: vs) (F1 ++ F2) s2 ((n1.mono l1).trans (n2.mono l2)) (hs2.trans hs1) hρ2 ⟨OwL.cons t1'.ow t2.ow, ?_, fun i b hb => ?_, fun b hb => ?_⟩
          · refine List.nodup_append.mpr ⟨t1.nd, t2.nd, fun x hx y hy e => ?_⟩
            subst e
            rcases t2.new x hy with ⟨j, _, w⟩ | w
            · exact t1.dj j x hx w
            · obtain ⟨_, u, hu⟩ := t1.ow.stands x hx
              rw [w] at hu; cases hu
          · rcases List.mem_append.mp hb with hb | hb
            · exact t1'.dj i b hb
            · exact t2.dj i b hb
          · rcases List.mem_append.mp hb with hb | hb
            · exact t1'.new b hb
            · rcases t2.new b hb with ⟨j, hj, w⟩ | w
              · rcases n1.new j b w with ⟨k, hk, q⟩ | q | q
                · exact .inl ⟨k, l1 k hk, q⟩
                · exact .inl ⟨j, l2 j hj, q⟩
                · exact .inr q
              · rcases n1.none_back w with ⟨k, hk, q⟩ | q
                · exact .inl ⟨k, l1 k hk, q⟩
                · exact .inr q
        · subst ex
          simp only [olCons, rBind, e1, e2] at e
          cases e
          exact ((hx x rfl).base (n1.mono l1) hs1).mono l2
    · subst ex
      simp only [olCons, rBind, e1] at e
      cases e
      exact (hx x rfl).mono l1
/-- a new list, owned -/
def oLst (m : Mo (List O)) : Mo O := rBind m fun os => if os.length ≤ sizeLine then rPure (.lst os) else fun _ => none
theorem so_lst {t : TA} {m : Mo (List O)} (h : SimOs K E ms t m) : SimO K E ms (tLst t) (oLst m) := by
  intro s R r ρ' e Q hq hx
  cases e1 : m s.ρ with
  | none => simp only [oLst, rBind, e1] at e; cases e
  | some p =>
    obtain ⟨r1, ρ1⟩ := p
    refine h s R r1 ρ1 e1 _ (fun os ho vs F s1 n1 hs1 hρ1 t1 => ?_) fun x ex => ?_
    · subst ho
      simp only [oLst, rBind, e1] at e
      split at e
      · rename_i hl
        cases e
        refine ⟨by rw [t1.ow.length]; exact hl, fun p hp => ?_⟩
        have na := Nx.allocO (P := (· ∈ ms)) n1.rep (.lst vs) hp
        have hs := t1.ow.stands
        have np : ∀ b ∈ F, b ≠ p := fun b hb z => by
          obtain ⟨_, u, hu⟩ := hs b hb
          rw [z, hp] at hu; cases hu
        refine hq _ rfl _ (p :: F) _ (n1.trans na) hs1 hρ1 ⟨?_, List.nodup_cons.mpr ⟨fun z => np p z rfl, t1.nd⟩, fun i b hb => ?_, fun b hb => ?_⟩
        · exact Ow.lst_iff.mpr ⟨p, vs, F, rfl, upd_same, n1.rep.zn hp, rfl, t1.ow.mono (Same.refl _) fun b hb => ⟨upd_ne (np b hb), (hs b hb).1⟩⟩
        · rcases List.mem_cons.mp hb with rfl | hb
          · exact n1.rep.fn hp i
          · exact t1.dj i b hb
        · rcases List.mem_cons.mp hb with rfl | hb
          · exact n1.none_back hp
          · exact t1.new b hb
      · cases e
    · subst ex
      simp only [oLst, rBind, e1] at e
      cases e
      exact hx x rfl
/-! ### stored at a place -/
def StSh (K : PySem.W.Frag) (r : V → V → V → Hp → (Hp → Prop) → Prop) (nf : O → D → O → Option O) : Prop :=
  ∀ Z H n v F kd k o u Fv n', Same Z H → Ow K Z H n v F → F.Nodup → Fr K Z kd k → Ow K Z H o u Fv → Fv.Nodup → (∀ b ∈ Fv, b ∉ F) → nf n kd o = some n' → ∀ Q : Hp → Prop,
    (∀ H' F', Same Z H' → (∀ b w, H b = some w → b ∉ F → H' b = some w) → Ow K Z H' n' v F' → F'.Nodup → (∀ b ∈ F', b ∈ F ∨ b ∈ Fv) → Q H') → r v k u H Q
def mStore (i : Nat) (p : Env → Option (List Pt)) (mi : Mo D) (nf : O → D → O → Option O) (mv : Mo O) : MS := mE mv fun o ρ => match p ρ, ρ[i]? with
  | some π, some (some r) => match r.get π, mi ρ with
    | some n, some (.ok k, ρ1) => match nf n k o with
      | some n' => match r.put π n' with
        | some r' => some (.nx, ρ1.set i (some r'))
        | none => none
      | none => none
    | _, _ => none
  | _, _ => none
theorem env_same {P : Nat → Prop} (R : Rep K s) (n : Nx K P s s1) (hs : s1.σ = s.σ) (h : ∀ i, ¬ P i) : s1.ρ = s.ρ := by
  apply List.ext_getElem?
  intro i
  exact (n.fix i (h i)).2
theorem store_at {r : V → V → V → Hp → (Hp → Prop) → Prop} {nf : O → D → O → Option O} {i : Nat} {p : Env → Option (List Pt)} {to ti : TE} {mi : Mo D} {D : Ends} {s0 : S} (hr : StSh K r nf) (ho : SimB K i to p) (hi : SimE K E [] ti mi) (R0 : Rep K s0)
    (n0 : Nx K (fun _ => True) s0 s) (hs0 : s.σ = s0.σ) {o : O} {u : V} {Fv : List Addr} (tm : Tmp K (fun _ => True) s0 s o u Fv) {out : Out} {ρ' : Env}
    (e : (match p s.ρ, s.ρ[i]? with
  | some π, some (some r) => match r.get π, mi s.ρ with
    | some n, some (.ok k, ρ1) => match nf n k o with
      | some n' => match r.put π n' with
        | some r' => some (Out.nx, ρ1.set i (some r'))
        | none => none
      | none => none
    | _, _ => none
  | _, _ => none) = some (out, ρ')) (f : Fin K E pin s0 out ρ' D) : to s.σ s.H fun x H1 => ti s.σ H1 fun y H2 => r x y u H2 fun H3 => D.nx s.σ H3 := by
  split at e
  · rename_i π rt e1 e2
    split at e
    · rename_i n k ρ1 e3 e4
      split at e
      · rename_i n' e5
        split at e
        · rename_i r' e6
          cases e
          obtain ⟨v0, hv, w0⟩ := n0.rep.own i rt e2
          refine ho s n0.rep π e1 rt n v0 e2 hv e3 _ fun v s1 n1 hs1 hρ1 w1 => ?_
          have n1 : Nx K (fun _ => True) s s1 := n1.mono fun _ _ => trivial
          rw [← hs1]
          refine hi s1 n1.rep _ _ (by rw [hρ1]; exact e4) _ (fun d hd y s2 n2 hs2 hρ2 fr => ?_) fun x ex => by cases ex
          cases hd
          have hsame : s2.ρ = s1.ρ := env_same n1.rep n2 hs2 fun i h => nomatch h
          have hH : Same s1.H s2.H := n2.same fun i h => nomatch h
          have n2 : Nx K (fun _ => True) s1 s2 := n2.mono fun _ _ => trivial
          have nn := (n0.trans n1).trans n2
          have tm2 := ((tm.go n1 n0).go n2 (n0.trans n1))
          have ho2 : s2.ρ[i]? = some (some rt) := by rw [hsame, hρ1]; exact e2
          have hv2 : s2.σ[i]? = some (some v0) := by rw [hs2, hs1]; exact hv
          obtain ⟨v1, v2, F2, g1, g2, g3, g4, g5, g6⟩ := Rep.focusT (G := (· ∈ Fv)) nn (fun b hb => ⟨fun j => tm2.dj j b hb, tm2.new b hb⟩) trivial ho2 e3
          rw [hv2] at g1; cases g1
          have wv : v2 = v := Way.det g2 (w1.mono hH)
          subst wv
          refine hr s2.Z s2.H n _ F2 k y o u Fv n' nn.rep.zh g3 g4 fr tm2.ow tm2.nd (fun b hb z => tm2.dj i b hb (g5 b z)) e5 _ fun H' F' zh keep ow nd sub => ?_
          obtain ⟨o'', Fn, ep, nx⟩ := g6 (Same.refl _) zh (fun b w hb h1 h2 => keep b w hb h1) (fun b z z' => absurd z z') ow nd fun b hb => (sub b hb).imp id .inr
          rw [e6] at ep; cases ep
          have hl : ({ Z := s2.Z, H := H', σ := s2.σ, ρ := s2.ρ.set i (some r'), Fs := setF s2.Fs i Fn } : S).ρ.length = s0.ρ.length := by
            show (s2.ρ.set i (some r')).length = _
            rw [List.length_set, hsame, hρ1, n0.lenρ R0 hs0]
          have := f.nx rfl _ ⟨nx, fun j _ => by show s2.σ[j]? = _; rw [hs2, hs1, hs0], hl⟩ (by show s2.ρ.set i (some r') = _; rw [hρ2])
          have e7 : ({ Z := s2.Z, H := H', σ := s2.σ, ρ := s2.ρ.set i (some r'), Fs := setF s2.Fs i Fn } : S).σ = s1.σ := hs2
          rw [e7] at this
          exact this
        · cases e
      · cases e
    · cases e
  · cases e
/-- xs[i] = e -/
theorem ss_storeL {i : Nat} {p : Env → Option (List Pt)} {te to ti : TE} {r : V → V → V → Hp → (Hp → Prop) → Prop} {nf : O → D → O → Option O} {mi : Mo D} {mv : Mo O} (hr : StSh K r nf) (hv : SimO K E ms te mv) (ho : SimB K i to p) (hi : SimE K E [] ti mi) :
    SimS K E pin (tAsg te (gSub to ti r)) (mStore i p mi nf mv) :=
  ss_EO (u := fun D x σ H1 => to σ H1 fun o H1 => ti σ H1 fun i H2 => r o i x H2 fun H3 => D.nx σ H3) hv fun s0 s o v F R0 n hs tm out ρ' e D f => store_at hr ho hi R0 n hs tm e f
def rPutD : V → V → V → Hp → (Hp → Prop) → Prop := fun x y v H Q => ∃ a H4, x = .ref a ∧ DPut H a y v H4 ∧ Q H4
/-- d[k] = e -/
theorem ss_storeD {i : Nat} {p : Env → Option (List Pt)} {te to ti : TE} {nf : O → D → O → Option O} {mi : Mo D} {mv : Mo O} (hr : StSh K rPutD nf) (hv : SimO K E ms te mv) (ho : SimB K i to p) (hi : SimE K E [] ti mi) :
    SimS K E pin (sDPut to ti te) (mStore i p mi nf mv) :=
  ss_EO (u := fun D x σ H1 => to σ H1 fun o H1 => ti σ H1 fun i H2 => rPutD o i x H2 fun H3 => D.nx σ H3) hv fun s0 s o v F R0 n hs tm out ρ' e D f => store_at hr ho hi R0 n hs tm e f
/-- o.f = e -/
def rPutF (K : PySem.W.Frag) (f : Str) : V → V → V → Hp → (Hp → Prop) → Prop := fun x _ y H Q => ∃ a C dx fs, x = .ref a ∧ H a = some (.ins C dx fs) ∧ Cls K C ∧ NoAttr K C f ∧ fs.length < 1000 ∧ Q (upd H a (.ins C dx (putF f y fs)))
theorem ss_fld {i : Nat} {p : Env → Option (List Pt)} {te to : TE} {f : Str} {nf : O → D → O → Option O} {mv : Mo O} (hr : StSh K (rPutF K f) nf) (hv : SimO K E ms te mv) (ho : SimB K i to p) :
    SimS K E pin (sFld K to te f) (mStore i p (xC .non) nf mv) :=
  ss_EO (u := fun D x σ H1 => to σ H1 fun o H1 => tC .non σ H1 fun i H2 => rPutF K f o i x H2 fun H3 => D.nx σ H3) hv fun s0 s o v F R0 n hs tm out ρ' e D fin => store_at (E := E) hr ho (se_c .non) R0 n hs tm e fin
/-- the contents of a thing at a put anew -/
theorem put_keep {Z H : Hp} (zh : Same Z H) {a : Addr} (h3 : Z a = none) (u : HO) : Same Z (upd H a u) := fun b o e => by
  rw [upd_ne (fun z => by rw [z, h3] at e; cases e)]
  exact zh b o e
/-- a place of a row filled anew, behind a write at a -/
theorem OwL.put {Z H : Hp} {a : Addr} {w : HO} {os : List O} {xs : List V} {F : List Addr} {j : Nat} {o old : O} {u : V} {Fv : List Addr} (h : OwL K Z H os xs F) (ho : os[j]? = some old) (hu : Ow K Z H o u Fv) (nF : (a :: F).Nodup) (na : a ∉ Fv) (nv : Fv.Nodup) (dj : ∀ b ∈ Fv, b ∉ F) :
    ∃ G, OwL K Z (upd H a w) (os.set j o) (xs.set j u) G ∧ G.Nodup ∧ ∀ b ∈ G, b ∈ F ∨ b ∈ Fv := by
  obtain ⟨x, A, F', B, hx, rfl, hox, hk⟩ := h.split ho
  have n1 := List.nodup_cons.mp nF
  have nin : ∀ b, b ∈ A ∨ b ∈ B → b ≠ a := fun b hb z => n1.1 (by rcases hb with hb | hb <;> simp [← z, hb])
  have st : ∀ b, b ∈ A ∨ b ∈ B → Z b = none := fun b hb => (h.stands b (by rcases hb with hb | hb <;> simp [hb])).1
  refine ⟨A ++ Fv ++ B, hk (Same.refl _) (fun b hb => ⟨upd_ne (nin b hb), st b hb⟩) (hu.mono (Same.refl _) fun b hb => ⟨upd_ne fun z : b = a => na (by rw [← z]; exact hb), (hu.stands b hb).1⟩), ?_, fun b hb => ?_⟩
  · have d1 := List.nodup_append.mp n1.2
    have d2 := List.nodup_append.mp d1.1
    refine List.nodup_append.mpr ⟨List.nodup_append.mpr ⟨d2.1, nv, fun x hx y hy e => dj y hy (by rw [← e]; simp [hx])⟩, d1.2.1, fun x hx y hy e => ?_⟩
    rcases List.mem_append.mp hx with hx | hx
    · exact d1.2.2 x (List.mem_append_left _ hx) y hy e
    · exact dj x hx (by rw [e]; simp [hy])
  · rcases List.mem_append.mp hb with hb | hb
    · rcases List.mem_append.mp hb with hb | hb
      · exact .inl (by simp [hb])
      · exact .inr hb
    · exact .inl (by simp [hb])
def nSetI : O → D → O → Option O
  | .lst os, .v (.int i), o => (ixN os.length i).map fun j => .lst (os.set j o)
  | _, _, _ => none
theorem st_setI : StSh K rSetL nSetI := by
  intro Z H n v F kd k o u Fv n' zh h nd hk hu nv dj e Q hq
  unfold nSetI at e
  split at e
  · rename_i os i
    obtain ⟨j, ej, rfl⟩ := Option.map_eq_some_iff.mp e
    obtain ⟨a, xs, F', rfl, h2, h3, rfl, h5⟩ := Ow.lst_iff.mp h
    have hj := (ixN_seq ej).2.1
    rw [Fr.v_iff.mp hk]
    refine ⟨a, xs, i, j, rfl, rfl, h2, by rw [h5.length]; exact ej, ?_⟩
    have na : a ∉ Fv := fun z => dj a z List.mem_cons_self
    obtain ⟨G, g1, g2, g3⟩ := h5.put (w := .lst (xs.set j u)) (List.getElem?_eq_getElem hj) hu nd na nv fun b hb z => dj b hb (List.mem_cons_of_mem _ z)
    have n1 := List.nodup_cons.mp nd
    refine hq _ (a :: G) (put_keep zh h3 _) (fun b w e hb => (upd_ne fun z => hb (by simp [z])).trans e) (Ow.lst_iff.mpr ⟨a, _, G, rfl, upd_same, h3, rfl, g1⟩) (List.nodup_cons.mpr ⟨fun z => ?_, g2⟩) fun b hb => ?_
    · rcases g3 a z with q | q
      · exact n1.1 q
      · exact na q
    · rcases List.mem_cons.mp hb with rfl | hb
      · exact .inl List.mem_cons_self
      · exact (g3 b hb).imp (List.mem_cons_of_mem _) id
  · cases e
theorem putK_keys_in {kvs : List (Key × V)} {k : Key} {v : V} {j : Nat} (hn : (kvs.map (·.1)).Nodup) (h : (kvs.map (·.1)).findIdx? (fun x => decide (x = k)) = some j) : (putK kvs k v).map (·.1) = kvs.map (·.1) ∧ (putK kvs k v).map (·.2) = (kvs.map (·.2)).set j v := by
  obtain ⟨hlt, hk, _⟩ := List.findIdx?_eq_some_iff_getElem.mp h
  have hk := of_decide_eq_true hk
  have ha : (kvs.any fun kv => decide (kv.1 = k)) = true := by
    refine List.any_eq_true.mpr ⟨kvs[j]'(by simpa using hlt), List.getElem_mem _, ?_⟩
    simpa using hk
  unfold putK
  rw [if_pos ha]
  constructor
  · rw [List.map_map]
    apply List.map_congr_left
    intro kv _
    simp only [Function.comp]
    split <;> rfl
  · apply List.ext_getElem?
    intro i
    rw [List.map_map, List.getElem?_map]
    by_cases hi : j = i
    · subst hi
      rw [List.getElem?_set_self (by simpa using hlt), List.getElem?_eq_getElem (by simpa using hlt)]
      simp only [Option.map_some, Function.comp]
      rw [if_pos (by simpa using hk)]
    · rw [List.getElem?_set_ne hi, List.getElem?_map]
      cases e : kvs[i]? with
      | none => rfl
      | some kv =>
        simp only [Option.map_some, Function.comp]
        rw [if_neg fun z => ?_]
        have h1 : (kvs.map (·.1))[i]? = some k := by rw [List.getElem?_map, e]; simp [z]
        have h2 : (kvs.map (·.1))[j]? = some k := by rw [List.getElem?_eq_getElem hlt, hk]
        exact hi (nd_ix hn h2 h1)
theorem putK_keys_new {kvs : List (Key × V)} {k : Key} {v : V} (h : (kvs.map (·.1)).findIdx? (fun x => decide (x = k)) = none) : putK kvs k v = kvs ++ [(k, v)] := by
  unfold putK
  rw [if_neg]
  intro ha
  obtain ⟨kv, hm, hk⟩ := List.any_eq_true.mp ha
  have := List.findIdx?_eq_none_iff.mp h kv.1 (List.mem_map.mpr ⟨kv, hm, rfl⟩)
  simp at this hk
  exact this hk
def nSetK : O → D → O → Option O
  | .dk ks os, .v y, o => (keyOfV y).bind fun k => match ks.findIdx? fun x => decide (x = k) with
    | some j => if j < os.length ∧ ks.length < sizeLine then some (.dk ks (os.set j o)) else none
    | none => if ks.length < sizeLine then some (.dk (ks ++ [k]) (os ++ [o])) else none
  | _, _, _ => none
theorem st_setK : StSh K rPutD nSetK := by
  intro Z H n v F kd k o u Fv n' zh h nd hk hu nv dj e Q hq
  unfold nSetK at e
  split at e
  · rename_i ks os y
    obtain ⟨key, ek, e⟩ := Option.bind_eq_some_iff.mp e
    obtain ⟨a, kvs, F', rfl, h2, h3, rfl, h5, h55, h6⟩ := Ow.dk_iff.mp h
    rw [Fr.v_iff.mp hk, keyOfV_some ek]
    have na : a ∉ Fv := fun z => dj a z List.mem_cons_self
    have n1 := List.nodup_cons.mp nd
    have kl : kvs.length = ks.length := by rw [← h5, List.length_map]
    split at e
    · rename_i j ej
      split at e
      · rename_i hj
        cases e
        rw [← h5] at ej
        obtain ⟨p1, p2⟩ := putK_keys_in (v := u) (by rw [h5]; exact h55) ej
        refine ⟨a, _, rfl, DPut.k h2 (by rw [kl]; exact hj.2), ?_⟩
        obtain ⟨G, g1, g2, g3⟩ := h6.put (w := .dK (putK kvs key u)) (List.getElem?_eq_getElem hj.1) hu nd na nv fun b hb z => dj b hb (List.mem_cons_of_mem _ z)
        refine hq _ (a :: G) (put_keep zh h3 _) (fun b w e hb => (upd_ne fun z => hb (by simp [z])).trans e) (Ow.dk_iff.mpr ⟨a, _, G, rfl, upd_same, h3, rfl, p1.trans h5, h55, by rw [p2]; exact g1⟩) (List.nodup_cons.mpr ⟨fun z => ?_, g2⟩) fun b hb => ?_
        · rcases g3 a z with q | q
          · exact n1.1 q
          · exact na q
        · rcases List.mem_cons.mp hb with rfl | hb
          · exact .inl List.mem_cons_self
          · exact (g3 b hb).imp (List.mem_cons_of_mem _) id
      · cases e
    · rename_i ej
      split at e
      · rename_i hj
        cases e
        rw [← h5] at ej
        have p1 := putK_keys_new (v := u) ej
        refine ⟨a, _, rfl, DPut.k h2 (by rw [kl]; exact hj), ?_⟩
        rw [p1]
        have hs := h6.stands
        have q : OwL K Z (upd H a (.dK (kvs ++ [(key, u)]))) (os ++ [o]) ((kvs.map (·.2)) ++ [u]) (F' ++ (Fv ++ [])) :=
          (h6.mono (Same.refl _) fun b hb => ⟨upd_ne fun z : b = a => n1.1 (by rw [← z]; exact hb), (hs b hb).1⟩).append (OwL.cons (hu.mono (Same.refl _) fun b hb => ⟨upd_ne fun z : b = a => na (by rw [← z]; exact hb), (hu.stands b hb).1⟩) OwL.nil)
        rw [List.append_nil] at q
        refine hq _ (a :: (F' ++ Fv)) (put_keep zh h3 _) (fun b w e hb => (upd_ne fun z => hb (by simp [z])).trans e) (Ow.dk_iff.mpr ⟨a, _, _, rfl, upd_same, h3, rfl, by rw [List.map_append, h5]; rfl, ?_, by rw [List.map_append]; exact q⟩) (List.nodup_cons.mpr ⟨fun z => ?_, ?_⟩) fun b hb => ?_
        · refine List.nodup_append.mpr ⟨h55, by simp, fun x hx y hy exy => ?_⟩
          simp at hy
          subst hy
          rw [h5] at ej
          have := List.findIdx?_eq_none_iff.mp ej x hx
          exact absurd exy (by simpa using this)
        · rcases List.mem_append.mp z with q | q
          · exact n1.1 q
          · exact na q
        · exact List.nodup_append.mpr ⟨n1.2, nv, fun x hx y hy e => dj y hy (List.mem_cons_of_mem _ (e ▸ hx))⟩
        · rcases List.mem_cons.mp hb with rfl | hb
          · exact .inl List.mem_cons_self
          · exact (List.mem_append.mp hb).imp (List.mem_cons_of_mem _) id
      · cases e
  · cases e
theorem putF_in {f : Str} {v : V} : ∀ {fs : List (Str × V)} {j : Nat}, (fs.map (·.1)).findIdx? (fun x => decide (x = f)) = some j → (putF f v fs).map (·.1) = fs.map (·.1) ∧ (putF f v fs).map (·.2) = (fs.map (·.2)).set j v
  | [], j, h => by simp at h
  | (g, x) :: r, j, h => by
    rw [List.map_cons, List.findIdx?_cons] at h
    by_cases hg : g = f
    · rw [if_pos (by simp [hg])] at h
      cases h
      show ((if g = f then (g, v) :: r else (g, x) :: putF f v r).map (·.1)) = _ ∧ _
      rw [show putF f v ((g, x) :: r) = (if g = f then (g, v) :: r else (g, x) :: putF f v r) from rfl, if_pos hg]
      exact ⟨rfl, rfl⟩
    · rw [if_neg (by simp [hg])] at h
      obtain ⟨m, hm, rfl⟩ := Option.map_eq_some_iff.mp h
      obtain ⟨i1, i2⟩ := putF_in (v := v) hm
      rw [show putF f v ((g, x) :: r) = (if g = f then (g, v) :: r else (g, x) :: putF f v r) from rfl, if_neg hg]
      exact ⟨by rw [List.map_cons, List.map_cons, i1], by rw [List.map_cons, List.map_cons, i2]; rfl⟩
theorem putF_new {f : Str} {v : V} : ∀ {fs : List (Str × V)}, (fs.map (·.1)).findIdx? (fun x => decide (x = f)) = none → putF f v fs = fs ++ [(f, v)]
  | [], h => rfl
  | (g, x) :: r, h => by
    rw [List.map_cons, List.findIdx?_cons] at h
    by_cases hg : g = f
    · rw [if_pos (by simp [hg])] at h; cases h
    · rw [if_neg (by simp [hg])] at h
      have hm : (r.map (·.1)).findIdx? (fun x => decide (x = f)) = none := by
        cases q : (r.map (·.1)).findIdx? (fun x => decide (x = f)) with
        | none => rfl
        | some m => rw [q] at h; cases h
      rw [show putF f v ((g, x) :: r) = (if g = f then (g, v) :: r else (g, x) :: putF f v r) from rfl, if_neg hg, putF_new hm]
      rfl
def nSetF (C : Addr) (f : Str) : O → D → O → Option O
  | .ins c fs os, _, o => if c = C ∧ fs.length < 1000 then (match fs.findIdx? fun x => decide (x = f) with
    | some j => if j < os.length then some (.ins c fs (os.set j o)) else none
    | none => some (.ins c (fs ++ [f]) (os ++ [o]))) else none
  | _, _, _ => none
theorem st_setF {C : Addr} {f : Str} (hc : Cls K C) (hn : NoAttr K C f) : StSh K (rPutF K f) (nSetF C f) := by
  intro Z H n v F kd k o u Fv n' zh h nd hk hu nv dj e Q hq
  unfold nSetF at e
  split at e
  · rename_i c fs os
    split at e
    · rename_i hcc
      obtain ⟨rfl, hlen⟩ := hcc
      obtain ⟨a, dx, fvs, F', rfl, h2, h3, rfl, h5, h6⟩ := Ow.ins_iff.mp h
      have na : a ∉ Fv := fun z => dj a z List.mem_cons_self
      have n1 := List.nodup_cons.mp nd
      have kl : fvs.length = fs.length := by rw [← h5, List.length_map]
      refine ⟨a, _, dx, fvs, rfl, h2, hc, hn, by rw [kl]; exact hlen, ?_⟩
      split at e
      · rename_i j ej
        split at e
        · rename_i hj
          cases e
          rw [← h5] at ej
          obtain ⟨p1, p2⟩ := putF_in (v := u) ej
          obtain ⟨G, g1, g2, g3⟩ := h6.put (w := .ins c dx (putF f u fvs)) (List.getElem?_eq_getElem hj) hu nd na nv fun b hb z => dj b hb (List.mem_cons_of_mem _ z)
          refine hq _ (a :: G) (put_keep zh h3 _) (fun b w e hb => (upd_ne fun z => hb (by simp [z])).trans e) (Ow.ins_iff.mpr ⟨a, dx, _, G, rfl, upd_same, h3, rfl, p1.trans h5, by rw [p2]; exact g1⟩) (List.nodup_cons.mpr ⟨fun z => ?_, g2⟩) fun b hb => ?_
          · rcases g3 a z with q | q
            · exact n1.1 q
            · exact na q
          · rcases List.mem_cons.mp hb with rfl | hb
            · exact .inl List.mem_cons_self
            · exact (g3 b hb).imp (List.mem_cons_of_mem _) id
        · cases e
      · rename_i ej
        cases e
        rw [← h5] at ej
        rw [putF_new ej]
        have hs := h6.stands
        have q : OwL K Z (upd H a (.ins c dx (fvs ++ [(f, u)]))) (os ++ [o]) ((fvs.map (·.2)) ++ [u]) (F' ++ (Fv ++ [])) :=
          (h6.mono (Same.refl _) fun b hb => ⟨upd_ne fun z : b = a => n1.1 (by rw [← z]; exact hb), (hs b hb).1⟩).append (OwL.cons (hu.mono (Same.refl _) fun b hb => ⟨upd_ne fun z : b = a => na (by rw [← z]; exact hb), (hu.stands b hb).1⟩) OwL.nil)
        rw [List.append_nil] at q
        refine hq _ (a :: (F' ++ Fv)) (put_keep zh h3 _) (fun b w e hb => (upd_ne fun z => hb (by simp [z])).trans e) (Ow.ins_iff.mpr ⟨a, dx, _, _, rfl, upd_same, h3, rfl, by rw [List.map_append, h5]; rfl, by rw [List.map_append]; exact q⟩) (List.nodup_cons.mpr ⟨fun z => ?_, ?_⟩) fun b hb => ?_
        · rcases List.mem_append.mp z with q | q
          · exact n1.1 q
          · exact na q
        · exact List.nodup_append.mpr ⟨n1.2, nv, fun x hx y hy e => dj y hy (List.mem_cons_of_mem _ (e ▸ hx))⟩
        · rcases List.mem_cons.mp hb with rfl | hb
          · exact .inl List.mem_cons_self
          · exact (List.mem_append.mp hb).imp (List.mem_cons_of_mem _) id
    · cases e
  · cases e
end
end Dat
/-! Dat10: instances made, comprehensions. -/
namespace Dat
open PySem PySem.Spec PyProof.Rows L2
section
variable {K : PySem.W.Frag} {E : XK} {pin ms ms1 ms2 : List Nat} {s s1 s2 : S}
/-! ### C(..) -/
def xMake (C : Addr) (F : List O → Option Res) (ma : Mo (List Arg)) (dfl : List D) : Mo O := rBind ma fun as ρ => match callR F (.ref ρ.length :: (as ++ dfl.map .dat)) (ρ ++ [some (.ins C [] [])]) with
  | some (.ok (.d (.v .non)), ρ1) => match ρ1[ρ.length]? with
    | some (some o) => some (.ok o, ρ1.take ρ.length)
    | _ => none
  | some (.error x, ρ1) => some (.error x, ρ1.take ρ.length)
  | _ => none
theorem take_get {α : Type} {l : List α} {n i : Nat} (h : i < n) : (l.take n)[i]? = l[i]? := List.getElem?_take_of_lt h
/-- one slot more, then away -/
theorem back_one {P : Nat → Prop} (R : Rep K s) {x : Addr} {C dx : Addr} {H1 : Hp} (zh : Same s.Z H1) (hx : s.H x = none) (hd : s.H dx = none) (ne : dx ≠ x) (hH : H1 = upd (upd s.H dx (.own x)) x (.ins C dx [])) :
    Rep K { Z := s.Z, H := H1, σ := s.σ ++ [some (.ref x)], ρ := s.ρ ++ [some (.ins C [] [])], Fs := setF s.Fs s.ρ.length [x] } := by
  have hold : ∀ b u, s.H b = some u → H1 b = some u := fun b u e => by
    rw [hH, upd_ne (ne_of_none e hx), upd_ne (ne_of_none e hd)]; exact e
  have zx : s.Z x = none := R.zn hx
  have out : s.Fs s.ρ.length = [] := R.emp _ fun o e => by
    rw [List.getElem?_eq_none (Nat.le_refl _)] at e; cases e
  refine ⟨zh, by simp [R.len], fun i o e => ?_, fun i h => ?_, fun i => ?_, fun i j b hij h1 h2 => ?_⟩
  · have e : (s.ρ ++ [some (.ins C [] [])])[i]? = some (some o) := e
    by_cases hi : i < s.ρ.length
    · rw [List.getElem?_append_left hi] at e
      obtain ⟨v, hv, w⟩ := R.own i o e
      refine ⟨v, get_append_left hv, ?_⟩
      show Ow K s.Z H1 o v (setF s.Fs s.ρ.length [x] i)
      rw [setF_ne (Nat.ne_of_lt hi)]
      exact w.mono (Same.refl _) fun b hb => by
        obtain ⟨z, u, hu⟩ := R.st hb
        exact ⟨(hold b u hu).trans hu.symm, z⟩
    · by_cases hi2 : i = s.ρ.length
      · subst hi2
        rw [List.getElem?_append_right (Nat.le_refl _), Nat.sub_self] at e
        simp at e
        subst e
        refine ⟨.ref x, ?_, ?_⟩
        · show (s.σ ++ [some (V.ref x)])[s.ρ.length]? = _
          rw [← R.len, List.getElem?_append_right (Nat.le_refl _), Nat.sub_self]; rfl
        · show Ow K s.Z H1 (.ins C [] []) (.ref x) (setF s.Fs s.ρ.length [x] s.ρ.length)
          rw [setF_same]
          exact Ow.ins_iff.mpr ⟨x, dx, [], [], rfl, by rw [hH]; exact upd_same, zx, rfl, rfl, OwL.nil⟩
      · rw [List.getElem?_eq_none (by simp; omega)] at e; cases e
  · show setF s.Fs s.ρ.length [x] i = []
    by_cases hi2 : i = s.ρ.length
    · subst hi2
      exact absurd (by show (s.ρ ++ [some (O.ins C [] [])])[s.ρ.length]? = some (some (.ins C [] [])); rw [List.getElem?_append_right (Nat.le_refl _), Nat.sub_self]; rfl) (h _)
    · rw [setF_ne hi2]
      exact R.emp i fun o e => h o (get_append_left e)
  · show (setF s.Fs s.ρ.length [x] i).Nodup
    by_cases hi2 : i = s.ρ.length
    · subst hi2; rw [setF_same]; simp
    · rw [setF_ne hi2]; exact R.nd i
  · have g1 : b ∈ setF s.Fs s.ρ.length [x] i := h1
    have g2 : b ∈ setF s.Fs s.ρ.length [x] j := h2
    by_cases hi2 : i = s.ρ.length
    · subst hi2
      rw [setF_same] at g1
      rw [setF_ne (Ne.symm hij)] at g2
      rw [List.mem_singleton.mp g1] at g2
      exact R.fn hx j g2
    · rw [setF_ne hi2] at g1
      by_cases hj2 : j = s.ρ.length
      · subst hj2
        rw [setF_same] at g2
        rw [List.mem_singleton.mp g2] at g1
        exact R.fn hx i g1
      · rw [setF_ne hj2] at g2
        exact R.dj i j b hij g1 g2
theorem so_make {C : Addr} {F : List O → Option Res} {t : TA} {ma : Mo (List Arg)} {is : List Nat} {dfl : List D} {dvs : List V} (ha : SimA K E is ms t ma) (nd : is.Nodup) (hd : ∀ Z, FrL K Z dfl dvs) :
    SimO K E (ms ++ is) (tMake C (spD K F) dvs E t) (xMake C F ma dfl) :=
  SimO.of_bind (u := fun vs _ H1 Q => ∀ x dx, H1 x = none → H1 dx = none → dx ≠ x → spD K F (.ref x :: (vs ++ dvs)) (upd (upd H1 dx (.own x)) x (.ins C dx [])) (fun v H2 => v = .non ∧ Q (.ref x) H2) E) ha
    fun s as vs R hal r ρ' e Q hq hx x dx nx ndx nex => by
      have hold : ∀ b u, s.H b = some u → (upd (upd s.H dx (.own x)) x (.ins C dx [])) b = some u := fun b u e => by
        rw [upd_ne (ne_of_none e nx), upd_ne (ne_of_none e ndx)]; exact e
      have zh : Same s.Z (upd (upd s.H dx (.own x)) x (.ins C dx [])) := fun b u e => hold b u (R.zh b u e)
      have Rx := back_one (P := fun _ => True) R (C := C) zh nx ndx nex rfl
      generalize hsx : ({ Z := s.Z, H := upd (upd s.H dx (.own x)) x (.ins C dx []), σ := s.σ ++ [some (.ref x)], ρ := s.ρ ++ [some (.ins C [] [])], Fs := setF s.Fs s.ρ.length [x] } : S) = sx at Rx
      have ix : ∀ i ∈ is, i < s.ρ.length := fun i hi => by
        have : ∀ {as : List Arg} {is : List Nat} {vs : List V}, ArL K s as is vs → ∀ i ∈ is, ∃ v, s.σ[i]? = some (some v) := by
          intro as is vs h
          induction h with
          | nil => intro i hi; cases hi
          | dat _ _ ih => exact ih
          | ref h _ ih =>
            intro i hi
            rcases List.mem_cons.mp hi with rfl | hi
            · exact ⟨_, h⟩
            · exact ih i hi
        obtain ⟨v, hv⟩ := this hal i hi
        rw [← R.len]
        exact (List.getElem?_eq_some_iff.mp hv).1
      have halx : ArL K sx (.ref s.ρ.length :: (as ++ dfl.map .dat)) (s.ρ.length :: is) (.ref x :: (vs ++ dvs)) := by
        subst hsx
        refine .ref (by show (s.σ ++ [some (V.ref x)])[s.ρ.length]? = _; rw [← R.len, List.getElem?_append_right (Nat.le_refl _), Nat.sub_self]; rfl) ?_
        have : ∀ {as : List Arg} {is : List Nat} {vs : List V}, ArL K s as is vs → ArL K { Z := s.Z, H := upd (upd s.H dx (.own x)) x (.ins C dx []), σ := s.σ ++ [some (.ref x)], ρ := s.ρ ++ [some (.ins C [] [])], Fs := setF s.Fs s.ρ.length [x] } as is vs := by
          intro as is vs h
          induction h with
          | nil => exact .nil
          | dat h _ ih => exact .dat h ih
          | ref h _ ih => exact .ref (get_append_left h) ih
        exact this (hal.dfl (hd s.Z))
      have ndx' : (s.ρ.length :: is).Nodup := List.nodup_cons.mpr ⟨fun z => Nat.lt_irrefl _ (ix _ z), nd⟩
      have hρx : sx.ρ = s.ρ ++ [some (.ins C [] [])] := by subst hsx; rfl
      have hHx : sx.H = upd (upd s.H dx (.own x)) x (.ins C dx []) := by subst hsx; rfl
      have hZx : sx.Z = s.Z := by subst hsx; rfl
      have hσx : sx.σ = s.σ ++ [some (.ref x)] := by subst hsx; rfl
      have hFx : sx.Fs = setF s.Fs s.ρ.length [x] := by subst hsx; rfl
      rw [← hHx]
      have out : s.Fs s.ρ.length = [] := R.emp _ fun o e => by
        rw [List.getElem?_eq_none (Nat.le_refl _)] at e; cases e
      -- a state of the wider frame, cut back
      have cut : ∀ {s2 : S}, Nx K (· ∈ s.ρ.length :: is) sx s2 → s2.σ = sx.σ → ∃ s3, Nx K (· ∈ is) s s3 ∧ s3.σ = s.σ ∧ s3.ρ = s2.ρ.take s.ρ.length ∧ s3.Z = s2.Z ∧ s3.H = s2.H ∧ (∀ i b, b ∈ s3.Fs i → i < s.ρ.length ∧ b ∈ s2.Fs i) := by
        intro s2 n2 hs2
        have l2 : s2.ρ.length = s.ρ.length + 1 := by
          rw [← n2.rep.len, hs2, hσx]
          simp [R.len]
        have inFx : ∀ {i b}, b ∈ sx.Fs i → b = x ∨ b ∈ s.Fs i := fun {i b} hb => by
          rw [hFx] at hb
          by_cases hi : i = s.ρ.length
          · subst hi; rw [setF_same] at hb; exact .inl (List.mem_singleton.mp hb)
          · rw [setF_ne hi] at hb; exact .inr hb
        refine ⟨{ Z := s2.Z, H := s2.H, σ := s.σ, ρ := s2.ρ.take s.ρ.length, Fs := fun i => if i < s.ρ.length then s2.Fs i else [] }, ⟨⟨n2.rep.zh, by simp [l2, R.len], fun i o e => ?_, fun i h => ?_, fun i => ?_, fun i j b hij h1 h2 => ?_⟩, by rw [← hZx]; exact n2.zz, fun b o e hb => ?_, fun i hi => ?_, fun i b hb => ?_, fun b z z' => ?_⟩, rfl, rfl, rfl, rfl, fun i b hb => ?_⟩
        · have e : (s2.ρ.take s.ρ.length)[i]? = some (some o) := e
          have hi : i < s.ρ.length := by
            have := (List.getElem?_eq_some_iff.mp e).1
            rw [List.length_take] at this
            omega
          rw [take_get hi] at e
          obtain ⟨v, hv, w⟩ := n2.rep.own i o e
          rw [hs2, hσx, List.getElem?_append_left (by rw [R.len]; exact hi)] at hv
          refine ⟨v, hv, ?_⟩
          show Ow K s2.Z s2.H o v (if i < s.ρ.length then s2.Fs i else [])
          rw [if_pos hi]; exact w
        · show (if i < s.ρ.length then s2.Fs i else []) = []
          split
          · rename_i hi
            exact n2.rep.emp i fun o e => h o (by show (s2.ρ.take s.ρ.length)[i]? = _; rw [take_get hi]; exact e)
          · rfl
        · show (if i < s.ρ.length then s2.Fs i else []).Nodup
          split
          · exact n2.rep.nd i
          · exact List.nodup_nil
        · have g1 : b ∈ (if i < s.ρ.length then s2.Fs i else []) := h1
          have g2 : b ∈ (if j < s.ρ.length then s2.Fs j else []) := h2
          split at g1
          · split at g2
            · exact n2.rep.dj i j b hij g1 g2
            · cases g2
          · cases g1
        · refine n2.keep b o (by rw [hHx]; exact hold b o e) fun i hi hbi => ?_
          rcases inFx hbi with rfl | w
          · rw [nx] at e; cases e
          · rcases List.mem_cons.mp hi with rfl | hi
            · rw [out] at w; cases w
            · exact hb i hi w
        · by_cases hlt : i < s.ρ.length
          · have := n2.fix i fun z => by
              rcases List.mem_cons.mp z with rfl | z
              · exact Nat.lt_irrefl _ hlt
              · exact hi z
            refine ⟨?_, ?_⟩
            · show (if i < s.ρ.length then s2.Fs i else []) = _
              rw [if_pos hlt, this.1, hFx, setF_ne (Nat.ne_of_lt hlt)]
            · show (s2.ρ.take s.ρ.length)[i]? = _
              rw [take_get hlt, this.2, hρx, List.getElem?_append_left hlt]
          · refine ⟨?_, ?_⟩
            · show (if i < s.ρ.length then s2.Fs i else []) = _
              rw [if_neg hlt]
              exact (R.emp i fun o e => hlt (List.getElem?_eq_some_iff.mp e).1).symm
            · show (s2.ρ.take s.ρ.length)[i]? = _
              rw [List.getElem?_eq_none (by rw [List.length_take]; omega), List.getElem?_eq_none (by omega)]
        · have g : b ∈ (if i < s.ρ.length then s2.Fs i else []) := hb
          split at g
          · rename_i hlt
            have back : b ∈ sx.Fs i → (∃ j, j ∈ is ∧ b ∈ s.Fs j) ∨ b ∈ s.Fs i ∨ s.H b = none := fun w => by
              rcases inFx w with rfl | w
              · exact .inr (.inr nx)
              · exact .inr (.inl w)
            rcases n2.new i b g with ⟨j, hj, w⟩ | w | w
            · rcases List.mem_cons.mp hj with rfl | hj
              · rcases inFx w with rfl | w
                · exact .inr (.inr nx)
                · rw [out] at w; cases w
              · rcases inFx w with rfl | w
                · exact .inr (.inr nx)
                · exact .inl ⟨j, hj, w⟩
            · exact back w
            · refine .inr (.inr ?_)
              cases q : s.H b with
              | none => rfl
              | some u => rw [hHx, hold b u q] at w; cases w
          · cases g
        · rcases n2.znew b (by rw [hZx]; exact z) z' with ⟨j, hj, w⟩ | w
          · rcases inFx w with rfl | w
            · exact .inr nx
            · rcases List.mem_cons.mp hj with rfl | hj
              · rw [out] at w; cases w
              · exact .inl ⟨j, hj, w⟩
          · refine .inr ?_
            cases q : s.H b with
            | none => rfl
            | some u => rw [hHx, hold b u q] at w; cases w
        · have g : b ∈ (if i < s.ρ.length then s2.Fs i else []) := hb
          split at g
          · rename_i hlt; exact ⟨hlt, g⟩
          · cases g
      rw [← hρx] at e
      cases ec : callR F (.ref s.ρ.length :: (as ++ dfl.map .dat)) sx.ρ with
      | none => rw [ec] at e; cases e
      | some p =>
        obtain ⟨rr, ρ1⟩ := p
        refine call_at Rx halx ndx' ec (fun o ho v G s2 n2 hs2 hρ2 tm => ?_) fun y hy => ?_
        · subst ho
          rw [ec] at e
          split at e
          · rename_i q ρ1' heq
            cases heq
            split at e
            · rename_i o' ho'
              cases e
              have ev : v = .non := Fr.v_iff.mp (Ow.d_iff.mp tm.ow).2
              subst ev
              refine ⟨rfl, ?_⟩
              obtain ⟨s3, n3, h1, h2, h3, h4, h5⟩ := cut n2 hs2
              rw [← h4]
              rw [← hρ2] at ho'
              obtain ⟨w, hw, ow⟩ := n2.rep.own s.ρ.length o' ho'
              have hw' : (s.σ ++ [some (V.ref x)])[s.ρ.length]? = some (some w) := by rw [← hσx, ← hs2]; exact hw
              rw [← R.len, List.getElem?_append_right (Nat.le_refl _), Nat.sub_self] at hw'
              simp at hw'
              subst hw'
              refine hq o' rfl (.ref x) (s2.Fs s.ρ.length) s3 n3 h1 (by rw [h2, hρ2]) ⟨by rw [h3, h4]; exact ow, n2.rep.nd _, fun i b hb hbi => ?_, fun b hb => ?_⟩
              · obtain ⟨hlt, w⟩ := h5 i b hbi
                exact n2.rep.dj i s.ρ.length b (Nat.ne_of_lt hlt) w hb
              · have inFx : ∀ {i b}, b ∈ sx.Fs i → b = x ∨ b ∈ s.Fs i := fun {i b} hb => by
                  rw [hFx] at hb
                  by_cases hi : i = s.ρ.length
                  · subst hi; rw [setF_same] at hb; exact .inl (List.mem_singleton.mp hb)
                  · rw [setF_ne hi] at hb; exact .inr hb
                rcases n2.new _ b hb with ⟨j, hj, w⟩ | w | w
                · rcases inFx w with rfl | w
                  · exact .inr nx
                  · rcases List.mem_cons.mp hj with rfl | hj
                    · rw [out] at w; cases w
                    · exact .inl ⟨j, hj, w⟩
                · rcases inFx w with rfl | w
                  · exact .inr nx
                  · rw [out] at w; cases w
                · refine .inr ?_
                  cases q : s.H b with
                  | none => rfl
                  | some u => rw [hHx, hold b u q] at w; cases w
            · cases e
          · rename_i heq; cases heq
          · cases e
        · subst hy
          rw [ec] at e
          cases e
          intro v dx' s' n' hσ' hρ' hz hw
          obtain ⟨s3, n3, h1, h2, h3, h4, h5⟩ := cut n' hσ'
          rw [← h4]
          exact hx _ rfl v dx' s3 n3 h1 (by rw [h2, hρ']) (by rw [h3]; exact hz) (by rw [h3]; exact hw)
end
end Dat
/-! Dat11: list comprehensions. -/
namespace Dat
open PySem PySem.Spec PyProof.Rows L2
def wipeE (ρ : Env) : List Nat → Env
  | [] => ρ
  | v :: vs => (wipeE ρ vs).set v none
def restE (ρ0 ρ : Env) : List Nat → Env
  | [] => ρ
  | v :: vs => (restE ρ0 ρ vs).set v (ρ0[v]?.getD none)
/-- the names of the block hide no owned things -/
def hideOk (ρ : Env) : List Nat → Bool
  | [] => true
  | v :: vs => (match ρ[v]? with
    | some (some (.d _)) => true
    | some none => true
    | _ => false) && hideOk ρ vs
def lcGo (g : D → Env → Option Env) (tt : Mo Bool) (te : Mo D) (vs : List Nat) : List D → List D → Env → Option (List D × Env)
  | [], acc, ρ => some (acc, ρ)
  | d :: ds, acc, ρ => match g d ρ with
    | none => none
    | some ρ1 => match tt ρ1 with
      | some (.ok true, ρ2) => match te ρ2 with
        | some (.ok e, ρ3) => if acc.length < sizeLine then lcGo g tt te vs ds (acc ++ [e]) (wipeE ρ3 vs) else none
        | _ => none
      | some (.ok false, ρ2) => lcGo g tt te vs ds acc (wipeE ρ2 vs)
      | _ => none
def lcRun (g : D → Env → Option Env) (tt : Mo Bool) (te : Mo D) (vs : List Nat) (ds : List D) : Mo D := fun ρ => if hideOk ρ vs = true then
    match lcGo g tt te vs ds [] (wipeE ρ vs) with
    | some (acc, ρ1) => some (.ok (.lst acc), restE ρ ρ1 vs)
    | none => none
  else none
section
variable {K : PySem.W.Frag} {E : XK} {pin ms ms1 ms2 vs ws : List Nat} {s s1 s2 : S}
theorem wipeE_len (ρ : Env) : ∀ vs : List Nat, (wipeE ρ vs).length = ρ.length
  | [] => rfl
  | v :: vs => by unfold wipeE; rw [List.length_set, wipeE_len ρ vs]
theorem wipeE_out {ρ : Env} {i : Nat} : ∀ {vs : List Nat}, i ∉ vs → (wipeE ρ vs)[i]? = ρ[i]?
  | [], _ => rfl
  | v :: vs, h => by
    unfold wipeE
    rw [List.getElem?_set_ne (fun z => h (by simp [z])), wipeE_out fun z => h (List.mem_cons_of_mem _ z)]
theorem wipeE_in {ρ : Env} {i : Nat} {o : O} : ∀ {vs : List Nat}, i ∈ vs → (wipeE ρ vs)[i]? ≠ some (some o)
  | v :: vs, h, e => by
    unfold wipeE at e
    by_cases hv : v = i
    · subst hv
      rw [List.getElem?_set] at e
      simp only [if_true] at e
      split at e <;> cases e
    · rw [List.getElem?_set_ne hv] at e
      rcases List.mem_cons.mp h with rfl | h
      · exact hv rfl
      · exact wipeE_in h e
theorem restE_len (ρ0 ρ : Env) : ∀ vs : List Nat, (restE ρ0 ρ vs).length = ρ.length
  | [] => rfl
  | v :: vs => by unfold restE; rw [List.length_set, restE_len ρ0 ρ vs]
theorem restE_out {ρ0 ρ : Env} {i : Nat} : ∀ {vs : List Nat}, i ∉ vs → (restE ρ0 ρ vs)[i]? = ρ[i]?
  | [], _ => rfl
  | v :: vs, h => by
    unfold restE
    rw [List.getElem?_set_ne (fun z => h (by simp [z])), restE_out fun z => h (List.mem_cons_of_mem _ z)]
theorem restE_in {ρ0 ρ : Env} {i : Nat} (hl : ρ.length = ρ0.length) : ∀ {vs : List Nat}, i ∈ vs → (restE ρ0 ρ vs)[i]? = ρ0[i]?
  | v :: vs, h => by
    unfold restE
    by_cases hv : v = i
    · subst hv
      by_cases hlt : v < ρ0.length
      · rw [List.getElem?_set_self (by rw [restE_len, hl]; exact hlt), List.getElem?_eq_getElem hlt]
        rfl
      · rw [List.getElem?_eq_none (by rw [List.length_set, restE_len, hl]; omega), List.getElem?_eq_none (by omega)]
    · rw [List.getElem?_set_ne hv]
      rcases List.mem_cons.mp h with rfl | h
      · exact absurd rfl hv
      · exact restE_in hl h
theorem hide_in {ρ : Env} {i : Nat} : ∀ {vs : List Nat}, hideOk ρ vs = true → i ∈ vs → ∀ o, ρ[i]? = some (some o) → ∃ d, o = .d d
  | v :: vs, h, hi, o, e => by
    obtain ⟨h1, h2⟩ := Bool.and_eq_true_iff.mp h
    rcases List.mem_cons.mp hi with rfl | hi
    · rw [e] at h1
      cases o with
      | d d => exact ⟨d, rfl⟩
      | _ => cases h1
    · exact hide_in h2 hi o e
theorem wipe_out' {σ : L2.St} {i : Nat} : ∀ {vs : List Nat}, i ∉ vs → (wipe σ vs)[i]? = σ[i]?
  | [], _ => rfl
  | v :: vs, h => by
    unfold wipe
    rw [List.getElem?_set_ne (fun z => h (by simp [z])), wipe_out' fun z => h (List.mem_cons_of_mem _ z)]
theorem wipe_in' {σ : L2.St} {i : Nat} : ∀ {vs : List Nat}, i ∈ vs → i < σ.length → (wipe σ vs)[i]? = some none
  | v :: vs, h, hl => by
    unfold wipe
    by_cases hv : v = i
    · subst hv
      rw [List.getElem?_set_self (by rw [wipe_length]; exact hl)]
    · rw [List.getElem?_set_ne hv]
      rcases List.mem_cons.mp h with rfl | h
      · exact absurd rfl hv
      · exact wipe_in' h hl
theorem wipe_eq {σ σ' : L2.St} (hl : σ.length = σ'.length) (h : ∀ i, i ∉ vs → σ[i]? = σ'[i]?) : wipe σ vs = wipe σ' vs := by
  apply List.ext_getElem?
  intro i
  by_cases hi : i ∈ vs
  · by_cases hlt : i < σ.length
    · rw [wipe_in' hi hlt, wipe_in' hi (hl ▸ hlt)]
    · rw [List.getElem?_eq_none (by rw [wipe_length]; omega), List.getElem?_eq_none (by rw [wipe_length]; omega)]
  · rw [wipe_out' hi, wipe_out' hi, h i hi]
/-- the block's state: its own names forgotten -/
theorem Rep.wiped (R : Rep K s) {H' : Hp} (zh : Same s.Z H') (hk : ∀ i, ∀ b ∈ s.Fs i, H' b = s.H b) (hv : ∀ i ∈ vs, s.Fs i = []) {σ' : L2.St} (hσ : σ' = wipe s.σ vs) : Rep K { s with H := H', σ := σ', ρ := wipeE s.ρ vs } := by
  subst hσ
  refine ⟨zh, by simp [wipe_length, wipeE_len, R.len], fun i o e => ?_, fun i h => ?_, R.nd, R.dj⟩
  · have e : (wipeE s.ρ vs)[i]? = some (some o) := e
    have hi : i ∉ vs := fun z => wipeE_in z e
    rw [wipeE_out hi] at e
    obtain ⟨v, hv, w⟩ := R.own i o e
    exact ⟨v, (wipe_out' hi).trans hv, w.mono (Same.refl _) fun b hb => ⟨hk i b hb, (R.st hb).1⟩⟩
  · by_cases hi : i ∈ vs
    · exact hv i hi
    · exact R.emp i fun o e => h o ((wipeE_out hi).trans e)
/-- ahead of the i-th turn of a comprehension that makes the list at L -/
def AtC (K : PySem.W.Frag) (ms vs : List Nat) (s : S) (L : Addr) (g : D → Env → Option Env) (tt : Mo Bool) (te : Mo D) (ds : List D) (fin : List D × Env) (i : Nat) (H : Hp) : Prop :=
  ∃ s1 acc xs, Nx K (· ∈ ms ++ vs) s s1 ∧ s1.σ = wipe s.σ vs ∧ s1.H = H ∧ s1.ρ.length = s.ρ.length ∧ (∀ i ∈ vs, s1.Fs i = []) ∧ H L = some (.lst xs) ∧ s1.Z L = none ∧ (∀ i, L ∉ s1.Fs i) ∧ s.H L = none ∧ FrL K s1.Z acc xs ∧ lcGo g tt te vs (ds.drop i) acc s1.ρ = some fin
theorem lc_turn {t : TG} {g : D → Env → Option Env} {tu : TT} {tv : TE} {tt : Mo Bool} {te : Mo D} {ds : List D} {fin : List D × Env} {L : Addr} (hg : SimTG K ws t g) (hw : ∀ i ∈ ws, i ∈ vs) (ht : SimT K E ms1 tu tt) (he : SimE K E ms2 tv te) (R : Rep K s)
    (hm1 : ∀ i ∈ ms1, i ∈ ms) (hm2 : ∀ i ∈ ms2, i ∈ ms) (hmv : ∀ i ∈ vs, i ∉ ms) {i : Nat} {d : D} {x : V} {H H' : Hp} (hi : ds[i]? = some d) (h : AtC K ms vs s L g tt te ds fin i H)
    (hx : ∀ s1, Nx K (· ∈ ms ++ vs) s s1 → s1.H = H → ∃ s2, Nx K (fun _ => False) s1 s2 ∧ s2.σ = s1.σ ∧ s2.ρ = s1.ρ ∧ s2.Fs = s1.Fs ∧ s2.H = H' ∧ Fr K s2.Z d x) :
    t x (wipe s.σ vs) H' fun σ2 H2 => wipe σ2 vs = wipe s.σ vs ∧ tu σ2 H2 fun b H3 => if b = true then tv σ2 H3 fun y H4 => ∃ acc, H4 L = some (.lst acc) ∧ acc.length < sizeLine ∧ AtC K ms vs s L g tt te ds fin (i + 1) (upd H4 L (.lst (acc ++ [y]))) else AtC K ms vs s L g tt te ds fin (i + 1) H3 := by
  obtain ⟨s0, acc, xs, n0, hσ0, hH0, hl0, hv0, hL, hZL, hFL, hnew, fr, e⟩ := h
  obtain ⟨sa, na, qσ, qρ, qF, qH, fx⟩ := hx s0 n0 hH0
  subst hH0
  have hd : ds.drop i = d :: ds.drop (i + 1) := by
    obtain ⟨hlt, hi⟩ := List.getElem?_eq_some_iff.mp hi
    rw [List.drop_eq_getElem_cons hlt, hi]
  rw [hd] at e
  have l1 : ∀ i, i ∈ ms1 → i ∈ ms ++ vs := fun i h => List.mem_append_left _ (hm1 i h)
  have l2 : ∀ i, i ∈ ms2 → i ∈ ms ++ vs := fun i h => List.mem_append_left _ (hm2 i h)
  have lw : ∀ i, i ∈ ws → i ∈ ms ++ vs := fun i h => List.mem_append_right _ (hw i h)
  cases e1 : g d s0.ρ with
  | none => simp only [lcGo, e1] at e; cases e
  | some ρ1 =>
    have key : ∀ Q, t x sa.σ sa.H Q → t x (wipe s.σ vs) H' Q := fun Q h => by rw [qσ, hσ0, qH] at h; exact h
    refine key _ (hg sa na.rep d x ρ1 fx (by rw [qρ]; exact e1) _ fun s2 n2 hσ2 hf2 hρ2 hlen2 => ?_)
    have nn : Nx K (· ∈ ms ++ vs) s0 s2 := (na.mono fun _ h => h.elim).trans (n2.mono lw)
    have LL : ∀ {s' : S}, Nx K (· ∈ ms ++ vs) s0 s' → s'.H L = some (.lst xs) ∧ s'.Z L = none ∧ (∀ i, L ∉ s'.Fs i) := fun {s'} n => by
      obtain ⟨a, b⟩ := n.z_of hZL ⟨_, hL⟩ hFL
      refine ⟨a.trans hL, b, fun i z => ?_⟩
      rcases n.new i L z with ⟨j, _, w⟩ | w | w
      · exact hFL j w
      · exact hFL i w
      · rw [hL] at w; cases w
    have hw2 : wipe s2.σ vs = wipe s.σ vs := by
      have h1 : s2.σ.length = s.σ.length := by
        have h2 := n2.rep.len
        rw [h2, hlen2, qρ, hl0, R.len]
      rw [wipe_eq (σ' := wipe s.σ vs) (by rw [wipe_length]; exact h1) fun i hi => ?_]
      · apply wipe_eq (by rw [wipe_length])
        intro i hi
        rw [wipe_out' hi]
      · rw [hσ2 i fun z => hi (hw i z), qσ, hσ0]
    refine ⟨hw2, ?_⟩
    cases e2 : tt ρ1 with
    | none => simp only [lcGo, e1, e2] at e; cases e
    | some p =>
      obtain ⟨r, ρ2⟩ := p
      refine ht s2 n2.rep r ρ2 (by rw [hρ2]; exact e2) _ (fun b hb b' s3 n3 hs3 hρ3 rel => ?_) fun y hy => ?_
      · subst hb rel
        have n03 := nn.trans (n3.mono l1)
        have fs3 : ∀ i ∈ vs, s3.Fs i = [] := fun i hi => by
          have hi1 : i ∉ ms1 := fun z => hmv i hi (hm1 i z)
          by_cases hiw : i ∈ ws
          · rw [(n3.fix i hi1).1, hf2 i hiw]
          · rw [(n3.fix i hi1).1, (n2.fix i hiw).1, qF, hv0 i hi]
        cases b with
        | true =>
          rw [← hs3]
          cases e3 : te ρ2 with
          | none => simp only [lcGo, e1, e2, e3] at e; cases e
          | some q =>
            obtain ⟨r3, ρ3⟩ := q
            refine he s3 n3.rep r3 ρ3 (by rw [hρ3]; exact e3) _ (fun ev hev y s4 n4 hs4 hρ4 fy => ?_) fun y hy => ?_
            · subst hev
              simp only [lcGo, e1, e2, e3] at e
              split at e
              · rename_i hlen
                have n04 := n03.trans (n4.mono l2)
                obtain ⟨hL4, hZ4, hF4⟩ := LL n04
                have fr4 := fr.mono n04.zz
                refine ⟨xs, hL4, by rw [fr.length]; exact hlen, ?_⟩
                have hk : ∀ i, ∀ b ∈ s4.Fs i, (upd s4.H L (.lst (xs ++ [y]))) b = s4.H b := fun i b hb => upd_ne fun z => hF4 i (z ▸ hb)
                have fs4 : ∀ i ∈ vs, s4.Fs i = [] := fun i hi => by rw [(n4.fix i fun z => hmv i hi (hm2 i z)).1, fs3 i hi]
                have R5 := n4.rep.wiped (vs := vs) (H' := upd s4.H L (.lst (xs ++ [y]))) (fun b o z => by rw [upd_ne fun w => by rw [w, hZ4] at z; cases z]; exact n4.rep.zh b o z) hk fs4 (σ' := wipe s.σ vs) (by
                  rw [hs4, hs3]; exact hw2.symm)
                have n45 := (n0.trans n04)
                refine ⟨{ s4 with H := upd s4.H L (.lst (xs ++ [y])), σ := wipe s.σ vs, ρ := wipeE s4.ρ vs }, acc ++ [ev], xs ++ [y], ⟨R5, n45.zz, fun b o z hb => ?_, fun j hj => ?_, n45.new, n45.znew⟩, rfl, rfl, ?_, fs4, upd_same, hZ4, hF4, hnew, fr4.append (FrL.cons fy FrL.nil), ?_⟩
                · have := n45.keep b o z hb
                  show upd s4.H L (.lst (xs ++ [y])) b = some o
                  rw [upd_ne fun w => ?_]
                  · exact this
                  · subst w
                    rw [hnew] at z; cases z
                · refine ⟨(n45.fix j hj).1, ?_⟩
                  show (wipeE s4.ρ vs)[j]? = _
                  rw [wipeE_out fun z => hj (List.mem_append_right _ z)]
                  exact (n45.fix j hj).2
                · show (wipeE s4.ρ vs).length = _
                  rw [wipeE_len, n4.lenρ n3.rep hs4, n3.lenρ n2.rep hs3, hlen2, qρ, hl0]
                · show lcGo g tt te vs (ds.drop (i + 1)) (acc ++ [ev]) (wipeE s4.ρ vs) = some fin
                  rw [hρ4]; exact e
              · cases e
            · subst hy
              simp only [lcGo, e1, e2, e3] at e
              cases e
        | false =>
          simp only [lcGo, e1, e2] at e
          obtain ⟨hL3, hZ3, hF3⟩ := LL n03
          have R5 := n3.rep.wiped (vs := vs) (H' := s3.H) n3.rep.zh (fun _ _ _ => rfl) fs3 (σ' := wipe s.σ vs) (by rw [hs3]; exact hw2.symm)
          have n35 := n0.trans n03
          refine ⟨{ s3 with σ := wipe s.σ vs, ρ := wipeE s3.ρ vs }, acc, xs, ⟨R5, n35.zz, n35.keep, fun j hj => ?_, n35.new, n35.znew⟩, rfl, rfl, ?_, fs3, hL3, hZ3, hF3, hnew, fr.mono n03.zz, ?_⟩
          · refine ⟨(n35.fix j hj).1, ?_⟩
            show (wipeE s3.ρ vs)[j]? = _
            rw [wipeE_out fun z => hj (List.mem_append_right _ z)]
            exact (n35.fix j hj).2
          · show (wipeE s3.ρ vs).length = _
            rw [wipeE_len, n3.lenρ n2.rep hs3, hlen2, qρ, hl0]
          · show lcGo g tt te vs (ds.drop (i + 1)) acc (wipeE s3.ρ vs) = some fin
            rw [hρ3]; exact e
      · subst hy
        simp only [lcGo, e1, e2] at e
        cases e
/-- the comprehension's start -/
theorem lc_begin {g : D → Env → Option Env} {tt : Mo Bool} {te : Mo D} {ds : List D} {fin : List D × Env} {L : Addr} (R : Rep K s) (hide : hideOk s.ρ vs = true) (hL : s.H L = none) (e : lcGo g tt te vs ds [] (wipeE s.ρ vs) = some fin) : AtC K ms vs s L g tt te ds fin 0 (upd s.H L (.lst [])) := by
  have hv : ∀ i ∈ vs, s.Fs i = [] := fun i hi => by
    cases e : s.ρ[i]? with
    | none => exact R.emp i fun o z => by rw [e] at z; cases z
    | some p =>
      cases p with
      | none => exact R.emp i fun o z => by rw [e] at z; cases z
      | some o =>
        obtain ⟨d, rfl⟩ := hide_in hide hi o e
        obtain ⟨v, _, w⟩ := R.own i _ e
        exact (Ow.d_iff.mp w).1
  have hk : ∀ b o, s.H b = some o → upd s.H L (.lst []) b = some o := fun b o z => by rw [upd_ne (ne_of_none z hL)]; exact z
  have R1 := R.wiped (vs := vs) (H' := upd s.H L (.lst [])) (fun b o z => hk b o (R.zh b o z)) (fun i b hb => upd_ne fun z => R.fn hL i (z ▸ hb)) hv (σ' := wipe s.σ vs) rfl
  refine ⟨_, [], [], ⟨R1, Same.refl _, fun b o z _ => hk b o z, fun j hj => ⟨rfl, wipeE_out fun z => hj (List.mem_append_right _ z)⟩, fun i b h => .inr (.inl h), fun b z z' => absurd z z'⟩, rfl, rfl, wipeE_len _ _, hv, upd_same, R.zn hL, R.fn hL, hL, FrL.nil, e⟩
/-- .. and its end: the new list frozen, the block's names as they were -/
theorem lc_end {g : D → Env → Option Env} {tt : Mo Bool} {te : Mo D} {ds : List D} {acc : List D} {ρ1 : Env} {L : Addr} (R : Rep K s) (hide : hideOk s.ρ vs = true) (hmv : ∀ i ∈ vs, i ∉ ms) {i : Nat} {H : Hp} (hi : i = ds.length) (h : AtC K ms vs s L g tt te ds (acc, ρ1) i H) {Q : VK}
    (hq : ∀ s', Nx K (· ∈ ms) s s' → s'.σ = s.σ → s'.ρ = restE s.ρ ρ1 vs → Fr K s'.Z (.lst acc) (.ref L) → Q (.ref L) s'.H) : Q (.ref L) H := by
  obtain ⟨s1, acc1, xs, n1, hσ1, rfl, hl1, hv1, hL, hZL, hFL, hnew, fr, e⟩ := h
  subst hi
  rw [List.drop_length] at e
  cases e
  have hv : ∀ i ∈ vs, s.Fs i = [] := fun i hi => by
    cases e : s.ρ[i]? with
    | none => exact R.emp i fun o z => by rw [e] at z; cases z
    | some p =>
      cases p with
      | none => exact R.emp i fun o z => by rw [e] at z; cases z
      | some o =>
        obtain ⟨d, rfl⟩ := hide_in hide hi o e
        obtain ⟨v, _, w⟩ := R.own i _ e
        exact (Ow.d_iff.mp w).1
  have zz2 : Same s1.Z (upd s1.Z L (.lst xs)) := same_upd hZL
  have mem : ∀ {b}, (∃ j, j ∈ ms ++ vs ∧ b ∈ s.Fs j) → ∃ j, j ∈ ms ∧ b ∈ s.Fs j := fun {b} ⟨j, hj, w⟩ => by
    rcases List.mem_append.mp hj with hj | hj
    · exact ⟨j, hj, w⟩
    · rw [hv j hj] at w; cases w
  refine hq { Z := upd s1.Z L (.lst xs), H := s1.H, σ := s.σ, ρ := restE s.ρ s1.ρ vs, Fs := s1.Fs } ⟨⟨fun b o z => ?_, by show s.σ.length = _; rw [restE_len, hl1, R.len], fun j o z => ?_, fun j h => ?_, n1.rep.nd, n1.rep.dj⟩, n1.zz.trans zz2, fun b o z hb => ?_, fun j hj => ?_, fun j b hb => ?_, fun b z z' => ?_⟩ rfl rfl (Fr.lst_iff.mpr ⟨L, xs, rfl, upd_same, fr.mono zz2⟩)
  · have z : upd s1.Z L (.lst xs) b = some o := z
    by_cases hb : b = L
    · subst hb; rw [upd_same] at z; cases z; exact hL
    · rw [upd_ne hb] at z; exact n1.rep.zh b o z
  · have z : (restE s.ρ s1.ρ vs)[j]? = some (some o) := z
    show ∃ v, s.σ[j]? = some (some v) ∧ Ow K (upd s1.Z L (.lst xs)) s1.H o v (s1.Fs j)
    by_cases hj : j ∈ vs
    · rw [restE_in hl1 hj] at z
      obtain ⟨d, rfl⟩ := hide_in hide hj o z
      obtain ⟨v, hvv, w⟩ := R.own j _ z
      refine ⟨v, hvv, ?_⟩
      rw [hv1 j hj]
      exact Ow.d_iff.mpr ⟨rfl, ((Ow.d_iff.mp w).2.mono n1.zz).mono zz2⟩
    · rw [restE_out hj] at z
      obtain ⟨v, hvv, w⟩ := n1.rep.own j _ z
      rw [hσ1, wipe_out' hj] at hvv
      refine ⟨v, hvv, w.mono zz2 fun b hb => ⟨rfl, ?_⟩⟩
      rw [upd_ne fun q : b = L => hFL j (by rw [← q]; exact hb)]
      exact (n1.rep.st hb).1
  · show s1.Fs j = []
    by_cases hj : j ∈ vs
    · exact hv1 j hj
    · exact n1.rep.emp j fun o z => h o ((restE_out hj).trans z)
  · exact n1.keep b o z fun j hj w => by
      obtain ⟨k, hk, w'⟩ := mem ⟨j, hj, w⟩
      exact hb k hk w'
  · show s1.Fs j = s.Fs j ∧ (restE s.ρ s1.ρ vs)[j]? = s.ρ[j]?
    by_cases hjv : j ∈ vs
    · exact ⟨by rw [hv1 j hjv, hv j hjv], restE_in hl1 hjv⟩
    · have hjm : j ∉ ms ++ vs := fun z => (List.mem_append.mp z).elim hj hjv
      exact ⟨(n1.fix j hjm).1, (restE_out hjv).trans (n1.fix j hjm).2⟩
  · rcases n1.new j b hb with q | q
    · exact .inl (mem q)
    · exact .inr q
  · have z' : upd s1.Z L (.lst xs) b ≠ none := z'
    by_cases hb : b = L
    · subst hb; exact .inr hnew
    · rw [upd_ne hb] at z'
      rcases n1.znew b z z' with q | q
      · exact .inl (mem q)
      · exact .inr q
/-- a comprehension over what is walked as a list of data -/
def xLc (m : Mo (List D)) (g : D → Env → Option Env) (tt : Mo Bool) (te : Mo D) (vs : List Nat) : Mo D := rBind m (lcRun g tt te vs)
theorem lcRun_some {g : D → Env → Option Env} {tt : Mo Bool} {te : Mo D} {ds : List D} {ρ : Env} {r : Except Xc D} {ρ' : Env} (h : lcRun g tt te vs ds ρ = some (r, ρ')) : ∃ acc ρ1, hideOk ρ vs = true ∧ lcGo g tt te vs ds [] (wipeE ρ vs) = some (acc, ρ1) ∧ r = .ok (.lst acc) ∧ ρ' = restE ρ ρ1 vs := by
  unfold lcRun at h
  split at h
  · rename_i hh
    split at h
    · rename_i acc ρ1 e
      cases h
      exact ⟨acc, ρ1, hh, e, rfl, rfl⟩
    · cases h
  · cases h
theorem se_lcL {te0 : TE} {m0 : Mo D} {t : TG} {g : D → Env → Option Env} {tu : TT} {tv : TE} {tt : Mo Bool} {te : Mo D} {ms0 : List Nat} (h : SimE K E ms0 te0 m0) (hg : SimTG K ws t g) (ht : SimT K E ms1 tu tt) (he : SimE K E ms2 tv te) (hw : ∀ i ∈ ws, i ∈ vs) (hmv : ∀ i ∈ vs, i ∉ ms1 ++ ms2) :
    SimE K E (ms0 ++ (ms1 ++ ms2)) (tLc (iList K te0) t tu tv vs) (rBind m0 fun d => rBind (asL d) (lcRun g tt te vs)) := fun s R =>
  (h s R).bind (t2 := fun x σ H1 (Q : VK) => ∃ a, x = .ref a ∧ (∃ xs, SqL K H1 a xs) ∧ ∀ D, H1 D = none → ∃ W : Nat → Nat → Hp → Prop, (∃ m, W 0 m (upd H1 D (.lst []))) ∧ ∀ i m H, W i m H →
      ((Itl K a).stop i H ∧ Q (.ref D) H) ∨ ((Itl K a).go i H ∧ ∃ Nx : Hp → Prop, (∀ H', Nx H' → ∃ m', m' < m ∧ W (i + 1) m' H') ∧ ∀ x H', (Itl K a).yld i H x H' → t x (wipe σ vs) H' fun σ2 H2 => wipe σ2 vs = wipe σ vs ∧ tu σ2 H2 fun b H3 =>
        if b = true then tv σ2 H3 fun y H4 => ∃ acc, H4 D = some (.lst acc) ∧ acc.length < sizeLine ∧ Nx (upd H4 D (.lst (acc ++ [y]))) else Nx H3)) fun s1 d v R1 _ _ fr => by
    intro r ρ' e Q hq hx
    unfold rBind asL at e
    cases d with
    | lst ds =>
      have e : lcRun g tt te vs ds s1.ρ = some (r, ρ') := e
      obtain ⟨acc, ρ1, hide, ego, rfl, rfl⟩ := lcRun_some e
      obtain ⟨a, xs, rfl, z1, z2⟩ := Fr.lst_iff.mp fr
      refine ⟨a, rfl, ⟨xs, SqL.of (R1.zh _ _ z1)⟩, fun L hL => ?_⟩
      refine lc_list (xs := xs) (AtC K (ms1 ++ ms2) vs s1 L g tt te ds (acc, ρ1)) (lc_begin R1 hide hL ego) (fun i H _ hat => ?_) (fun i x H hi hat => ?_) fun H hat => lc_end R1 hide hmv z2.length hat fun s' n hs hρ f => hq _ rfl _ s' n hs hρ f
      · obtain ⟨s2, _, _, n2, _, rfl, _⟩ := hat
        exact SqL.of (n2.rep.zh _ _ (n2.zz _ _ z1))
      · obtain ⟨d, hd, fx⟩ := z2.at hi
        exact lc_turn hg hw ht he R1 (fun i hi => List.mem_append_left _ hi) (fun i hi => List.mem_append_right _ hi) hmv hd hat fun s2 n2 hH => ⟨s2, Nx.refl n2.rep, rfl, rfl, rfl, hH, fx.mono n2.zz⟩
    | _ => cases e
theorem se_lcU {te0 : TE} {m0 : Mo D} {t : TG} {g : D → Env → Option Env} {tu : TT} {tv : TE} {tt : Mo Bool} {te : Mo D} {ms0 : List Nat} (h : SimE K E ms0 te0 m0) (hg : SimTG K ws t g) (ht : SimT K E ms1 tu tt) (he : SimE K E ms2 tv te) (hw : ∀ i ∈ ws, i ∈ vs) (hmv : ∀ i ∈ vs, i ∉ ms1 ++ ms2) :
    SimE K E (ms0 ++ (ms1 ++ ms2)) (tLc (iTup K te0) t tu tv vs) (rBind m0 fun d => rBind (asU d) (lcRun g tt te vs)) := fun s R =>
  (h s R).bind (t2 := fun x σ H1 (Q : VK) => ∃ a, x = .ref a ∧ (∃ xs, SqT K H1 a xs) ∧ ∀ D, H1 D = none → ∃ W : Nat → Nat → Hp → Prop, (∃ m, W 0 m (upd H1 D (.lst []))) ∧ ∀ i m H, W i m H →
      ((Itt K a).stop i H ∧ Q (.ref D) H) ∨ ((Itt K a).go i H ∧ ∃ Nx : Hp → Prop, (∀ H', Nx H' → ∃ m', m' < m ∧ W (i + 1) m' H') ∧ ∀ x H', (Itt K a).yld i H x H' → t x (wipe σ vs) H' fun σ2 H2 => wipe σ2 vs = wipe σ vs ∧ tu σ2 H2 fun b H3 =>
        if b = true then tv σ2 H3 fun y H4 => ∃ acc, H4 D = some (.lst acc) ∧ acc.length < sizeLine ∧ Nx (upd H4 D (.lst (acc ++ [y]))) else Nx H3)) fun s1 d v R1 _ _ fr => by
    intro r ρ' e Q hq hx
    unfold rBind asU at e
    cases d with
    | tup ds =>
      have e : lcRun g tt te vs ds s1.ρ = some (r, ρ') := e
      obtain ⟨acc, ρ1, hide, ego, rfl, rfl⟩ := lcRun_some e
      obtain ⟨a, xs, rfl, z1, z2⟩ := Fr.tup_iff.mp fr
      refine ⟨a, rfl, ⟨xs, same_tup R1.zh z1⟩, fun L hL => ?_⟩
      refine lc_tup (xs := xs) (AtC K (ms1 ++ ms2) vs s1 L g tt te ds (acc, ρ1)) (lc_begin R1 hide hL ego) (fun i H _ hat => ?_) (fun i x H hi hat => ?_) fun H hat => lc_end R1 hide hmv z2.length hat fun s' n hs hρ f => hq _ rfl _ s' n hs hρ f
      · obtain ⟨s2, _, _, n2, _, rfl, _⟩ := hat
        exact same_tup n2.rep.zh (same_tup n2.zz z1)
      · obtain ⟨d, hd, fx⟩ := z2.at hi
        exact lc_turn hg hw ht he R1 (fun i hi => List.mem_append_left _ hi) (fun i hi => List.mem_append_right _ hi) hmv hd hat fun s2 n2 hH => ⟨s2, Nx.refl n2.rep, rfl, rfl, rfl, hH, fx.mono n2.zz⟩
    | _ => cases e
theorem se_lcR1 {ta : TA} {m0 : Mo (List D)} {t : TG} {g : D → Env → Option Env} {tu : TT} {tv : TE} {tt : Mo Bool} {te : Mo D} {ms0 : List Nat} (h : SimL K E ms0 ta m0) (hg : SimTG K ws t g) (ht : SimT K E ms1 tu tt) (he : SimE K E ms2 tv te) (hw : ∀ i ∈ ws, i ∈ vs) (hmv : ∀ i ∈ vs, i ∉ ms1 ++ ms2) :
    SimE K E (ms0 ++ (ms1 ++ ms2)) (tLc (iRng1 ta) t tu tv vs) (rBind m0 fun d => rBind (asR1 d) (lcRun g tt te vs)) := fun s R =>
  (h s R).bind (t2 := fun ws σ H1 (Q : VK) => ∃ j : Int, ws = [.int j] ∧ -(2 ^ 62) ≤ j ∧ j < 2 ^ 62 ∧ ∀ D, H1 D = none → ∃ W : Nat → Nat → Hp → Prop, (∃ m, W 0 m (upd H1 D (.lst []))) ∧ ∀ i m H, W i m H →
      ((Itr 0 j.toNat).stop i H ∧ Q (.ref D) H) ∨ ((Itr 0 j.toNat).go i H ∧ ∃ Nx : Hp → Prop, (∀ H', Nx H' → ∃ m', m' < m ∧ W (i + 1) m' H') ∧ ∀ x H', (Itr 0 j.toNat).yld i H x H' → t x (wipe σ vs) H' fun σ2 H2 => wipe σ2 vs = wipe σ vs ∧ tu σ2 H2 fun b H3 =>
        if b = true then tv σ2 H3 fun y H4 => ∃ acc, H4 D = some (.lst acc) ∧ acc.length < sizeLine ∧ Nx (upd H4 D (.lst (acc ++ [y]))) else Nx H3)) fun s1 ds0 us R1 _ _ fr => by
    intro r ρ' e Q hq hx
    have key : ∃ j : Int, ds0 = [.v (.int j)] ∧ (-(2 ^ 62) ≤ j ∧ j < 2 ^ 62) ∧ lcRun g tt te vs ((List.range j.toNat).map fun (i : Nat) => Dat.D.v (.int (i : Int))) s1.ρ = some (r, ρ') := by
      unfold rBind asR1 at e
      split at e
      · cases e
      · rename_i q
        split at q
        · split at q <;> cases q
        · cases q
      · rename_i q
        split at q
        · rename_i j
          split at q
          · rename_i hb
            cases q
            exact ⟨j, rfl, hb, e⟩
          · cases q
        · cases q
    obtain ⟨j, hj, hb, e⟩ := key
    obtain ⟨acc, ρ1, hide, ego, rfl, rfl⟩ := lcRun_some e
    subst hj
    obtain ⟨x, r, rfl, h1, h2⟩ := FrL.cons_iff.mp fr
    rw [FrL.nil_iff.mp h2, Fr.v_iff.mp h1]
    refine ⟨j, rfl, hb.1, hb.2, fun L hL => ?_⟩
    refine lc_range (AtC K (ms1 ++ ms2) vs s1 L g tt te ((List.range j.toNat).map fun (i : Nat) => Dat.D.v (.int (i : Int))) (acc, ρ1)) (lc_begin R1 hide hL ego) (fun i H hi hat => ?_) fun H hat => lc_end R1 hide hmv (by simp) hat fun s' n hs hρ f => hq _ rfl _ s' n hs hρ f
    exact lc_turn (d := .v (.int i)) hg hw ht he R1 (fun i hi => List.mem_append_left _ hi) (fun i hi => List.mem_append_right _ hi) hmv (by rw [List.getElem?_map, List.getElem?_range hi]; rfl) hat fun s2 n2 hH => ⟨s2, Nx.refl n2.rep, rfl, rfl, rfl, hH, Fr.v_iff.mpr (by rw [Int.zero_add])⟩
end
end Dat
/-! Dat12: more places; defs that raise nothing; what a caller knows of a def. -/
namespace Dat
open PySem PySem.Spec PyProof.Rows L2
section
variable {K : PySem.W.Frag} {E : XK} {pin ms ms1 ms2 : List Nat} {s s1 s2 : S}
/-- xs[i], d[k] as a place: the index changes nothing -/
def pIx (i : Nat) (p : Env → Option (List Pt)) (mi : Mo D) : Env → Option (List Pt) := fun ρ => match p ρ, mi ρ, ρ[i]? with
  | some π, some (.ok (.v x), _), some (some o) => match o.get π, x with
    | some (.lst _), .int j => some (π ++ [.ix j])
    | some (.dk _ _), y => (keyOfV y).map fun k => π ++ [.ky k]
    | _, _ => none
  | _, _, _ => none
theorem sb_ix {i : Nat} {t ti : TE} {p : Env → Option (List Pt)} {mi : Mo D} (h : SimB K i t p) (hi : SimE K E0 [] ti mi) : SimB K i (tOp (rIxU K) t ti) (pIx i p mi) := by
  intro s R π e o n v0 ho hv hg Q hq
  unfold pIx at e
  split at e
  · rename_i π0 x ρ1 o0 e0 e1 ho0
    rw [ho] at ho0; cases ho0
    have key : ∀ (n0 : O) (q : Pt), o.get π0 = some n0 → π = π0 ++ [q] → (∀ (s2 : S) (v a : V), Rep K s2 → (∃ F, Ow K s2.Z s2.H n0 v F) → Way s2.H v [q] a → ∀ Q : VK, Q a s2.H → rIxU K v x s2.H Q) → tOp (rIxU K) t ti s.σ s.H Q := fun n0 q hn0 hπ hop => by
      subst hπ
      rw [O.get_snoc, hn0] at hg
      have hc0 : n0.get [q] = some n := hg
      refine h s R π0 e0 o n0 v0 ho hv hn0 _ fun v s1 nx hs hρ w => ?_
      rw [← hs]
      refine hi s1 nx.rep _ _ (by rw [hρ]; exact e1) _ (fun d hd y s2 n2 hs2 hρ2 fr => ?_) fun x ex => by cases ex
      cases hd
      have hsame : s2.ρ = s1.ρ := env_same nx.rep n2 hs2 fun i h => nomatch h
      have w2 := w.mono (n2.same fun i h => nomatch h)
      have ho2 : s2.ρ[i]? = some (some o) := by rw [hsame, hρ]; exact ho
      have hv2 : s2.σ[i]? = some (some v0) := by rw [hs2, hs]; exact hv
      obtain ⟨u, hu⟩ := way_step n2.rep ho2 hv2 hn0 hc0 w2
      obtain ⟨v1, v', F', h1, h2, h3, _⟩ := n2.rep.focus (P := fun _ => True) trivial ho2 hn0
      rw [hv2] at h1; cases h1
      have := Way.det w2 h2
      subst this
      rw [Fr.v_iff.mp fr]
      refine hop s2 _ u n2.rep ⟨F', h3⟩ hu Q ?_
      exact hq u s2 (nx.trans n2) (hs2.trans hs) (hsame.trans hρ) (w2.snoc hu)
    split at e
    · rename_i os j hn0
      cases e
      refine key _ _ hn0 rfl fun s2 v a R2 ⟨F, ow⟩ w Q q => ?_
      cases w with
      | ix k1 k2 k3 =>
        cases k3
        exact .inl ⟨_, _, _, _, rfl, rfl, SqL.of k1, k2, q⟩
    · rename_i ks os hn0
      obtain ⟨k, hk, rfl⟩ := Option.map_eq_some_iff.mp e
      refine key _ _ hn0 rfl fun s2 v a R2 ⟨F, ow⟩ w Q q => ?_
      cases w with
      | ky k1 k2 k3 =>
        cases k3
        refine .inr (.inr (.inr ⟨_, _, rfl, ?_, q⟩))
        rw [keyOfV_some hk, ← k2]
        exact DGet.k k1
    · cases e
  · cases e
/-- what stands at a place, frozen where it stands -/
def xFrz (i : Nat) (p : Env → Option (List Pt)) : Mo D := fun ρ => match p ρ, ρ[i]? with
  | some π, some (some o) => match o.get π with
    | some n => match o.put π (.d n.toD) with
      | some o' => some (.ok n.toD, ρ.set i (some o'))
      | none => none
    | none => none
  | _, _ => none
theorem se_frz {i : Nat} {t : TE} {p : Env → Option (List Pt)} (h : SimB K i t p) : SimE K E [i] t (xFrz i p) := by
  intro s R r ρ' e Q hq hx
  unfold xFrz at e
  split at e
  · rename_i π o e1 e2
    split at e
    · rename_i n e3
      split at e
      · rename_i o' e4
        cases e
        obtain ⟨v0, hv, w0⟩ := R.own i o e2
        refine h s R π e1 o n v0 e2 hv e3 Q fun v s1 n1 hs1 hρ1 w1 => ?_
        have ho1 : s1.ρ[i]? = some (some o) := by rw [hρ1]; exact e2
        have hv1 : s1.σ[i]? = some (some v0) := by rw [hs1]; exact hv
        obtain ⟨v1, v', F', h1, h2, h3, h4, h5, h6⟩ := n1.rep.focus (P := (· ∈ [i])) (List.mem_singleton.mpr rfl) ho1 e3
        rw [hv1] at h1; cases h1
        have := Way.det w1 h2
        subst this
        have hst := h3.stands
        let Z' : Hp := fun b => if b ∈ F' then s1.H b else s1.Z b
        have zi : ∀ b ∈ F', Z' b = s1.H b := fun b hb => if_pos hb
        have zo : ∀ b, b ∉ F' → Z' b = s1.Z b := fun b hb => if_neg hb
        have zz : Same s1.Z Z' := fun b u e => by
          by_cases hb : b ∈ F'
          · rw [(hst b hb).1] at e; cases e
          · rw [zo b hb]; exact e
        have fr : Fr K Z' n.toD v := h3.froz zz zi
        obtain ⟨o'', Fn, ep, nx⟩ := h6 (Z' := Z') (H' := s1.H) (n' := .d n.toD) (F'' := []) zz (fun b u e => by
          by_cases hb : b ∈ F'
          · rw [zi b hb] at e; exact e
          · rw [zo b hb] at e; exact n1.rep.zh b u e) (fun b u e _ => e) (fun b e e' => by
          by_cases hb : b ∈ F'
          · exact .inl hb
          · rw [zo b hb] at e'; exact absurd e e') (Ow.d_iff.mpr ⟨rfl, fr⟩) List.nodup_nil (fun _ h => absurd h (by simp))
        rw [e4] at ep; cases ep
        have fin := hq n.toD rfl v { Z := Z', H := s1.H, σ := s1.σ, ρ := s1.ρ.set i (some o'), Fs := setF s1.Fs i Fn } ((n1.mono fun _ h => absurd h (by simp)).trans nx) hs1 (by show s1.ρ.set i _ = _; rw [hρ1]) fr
        exact fin
      · cases e
    · cases e
  · cases e
/-- a def that raises nothing -/
def runD0 (np n : Nat) (pin : List Nat) (m : MS) (os : List O) : Option Res :=
  if os.length = np ∧ pinOk 0 pin os = true then
    match m (os.map some ++ List.replicate (n - np) none) with
    | some (.nx, ρ) => (outsOf os ρ).map fun l => .ret (.d (.v .non)) l
    | some (.ret o, ρ) => (outsOf os ρ).map fun l => .ret o l
    | _ => none
  else none
theorem runD0_ok {np : Nat} {N : List Str} {t : TS} {m : MS} (hN : np ≤ N.length) (h : SimS K E0 pin t m) {vs : List V} {H : Hp} {Q : VK} {E : XK} (hsp : spD K (runD0 np N.length pin m) vs H Q E) :
    vs.length = np ∧ t { nx := fun _ H' => Q .non H', rt := Q } (L2.start N vs) H := by
  obtain ⟨s0, os, res, R, rfl, hσ, hρ, hF, hret, hexc⟩ := hsp
  refine runD_ok hN h ⟨s0, os, res, R, rfl, hσ, hρ, ?_, hret, fun x outs e => ?_⟩
  · unfold runD0 at hF
    unfold runD
    split at hF
    · rename_i hc
      rw [if_pos hc]
      split at hF <;> rename_i heq <;> first | (rw [heq]; exact hF) | cases hF
    · cases hF
  · subst e
    unfold runD0 at hF
    split at hF
    · split at hF
      · obtain ⟨l, _, q⟩ := Option.map_eq_some_iff.mp hF; cases q
      · obtain ⟨l, _, q⟩ := Option.map_eq_some_iff.mp hF; cases q
      · cases hF
    · cases hF
end
/-- what a caller knows of a def -/
structure Cal (P : Program) (w : World) (K : PySem.W.Frag) (mg : Str → Option Value) (base : Heap) (k : Nat) (x : Str) (ps : List Str) (F : List O → Option Res) : Prop where
  ex : ∃ (f : Addr) (fd : FuncData), mg x = some (.ref f) ∧ PySem.W.keepIn K (.ref f) = true ∧ FnOk P w K mg base CX0 k f fd ps (spD K F) ∧ Binds K fd ps []
/-- .. of a method of the class at C -/
structure MCal (P : Program) (w : World) (K : PySem.W.Frag) (mg : Str → Option Value) (base : Heap) (k : Nat) (C : Addr) (x : Str) (ps : List Str) (F : List O → Option Res) : Prop where
  ex : ∃ (f : Addr) (fd : FuncData), Meth K C x f ∧ FnOk P w K mg base CX0 k f fd ps (spD K F) ∧ Binds K fd ps []
end Dat
namespace Dat
open PySem PySem.Spec PyProof.Rows L2
section
variable {K : PySem.W.Frag} {E : XK} {ms : List Nat}
theorem len_of {np n : Nat} {pin : List Nat} {m : MS} {s0 : S} {vs : List V} {os : List O} {res : Res} (R : Rep K s0) (hσ : s0.σ = vs.map some) (hρ : s0.ρ = os.map some) (hF : runD0 np n pin m os = some res) : vs.length = np := by
  unfold runD0 at hF
  split at hF
  · rename_i hc
    have := R.len
    rw [hσ, hρ] at this
    rw [← hc.1]
    simpa using this
  · cases hF
def xYes : Mo Bool := rPure true
theorem st_yes : SimT K E [] tYes xYes := fun s R => SimAt.pure R rfl
theorem se_mut0 {T : String} {r : V → List V → Hp → VK → Prop} {tf : O → Bool} {nf : O → List D → Option (D × O)} {i : Nat} {p : Env → Option (List Pt)} {to : TE} (hr : MutSh K T r nf) (ht : TySh K T tf) (ho : SimB K i to p) :
    SimE K E ([] ++ [i]) (tBM0 K T r to) (xMut i p tf nf lNil) := se_mut (E := E) (ta := tNil) hr ht (by simp) ho sl_nil
end
end Dat
/-! Dat13: own exceptions as values; isinstance. -/
namespace Dat
open PySem PySem.Spec PyProof.Rows L2 DatE
/-! ### C(x), C's __init__ one that stores its one value in the field f -/
def spEx (K : PySem.W.Frag) (f : Str) : Sp := fun vs H Q _ => ∃ (a C : Addr) (x : V), vs = [.ref a, x] ∧ OexC K C ∧ PySem.W.findIn K (.ref C) f = some none ∧ H a = some (exo a C none) ∧
  ∀ dx, H dx = none → dx ≠ a → Q .non (upd (upd H dx (exd dx [(f, x)])) a (exo a C (some dx)))
/-- the names of the classes whose exceptions are made and read so -/
structure ExK (K : PySem.W.Frag) (f : Str) (C : Addr) : Prop where
  o : OexC K C
  n : PySem.W.findIn K (.ref C) f = some none
  x : XfC K C
section
variable {K : PySem.W.Frag} {E : XK} {ms : List Nat}
def rMkV (K : PySem.W.Frag) (C : Addr) (f : Str) : List V → Hp → VK → Prop := fun vs H1 Q => vs.length ≤ 1000 ∧ ∀ a, H1 a = none → spEx K f (.ref a :: (vs ++ [])) (upd H1 a (exo a C none))
  (fun v H2 => v = .non ∧ ∃ (d : Addr) (fs : List (Str × V)), H2 a = some (exo a C (some d)) ∧ H2 d = some (exd d fs) ∧ Q (.ref a) (upd (upd H2 d (.xd fs)) a (exw a C d))) fun _ _ _ => False
theorem tMkV_cb {C : Addr} {f : Str} {ta : TA} : tMkV C (spEx K f) [] ta = tCB (rMkV K C f) ta := rfl
def dExcOf (C : Addr) (f : Str) : D → Option D
  | .v x => some (.exc C f (.v x))
  | .tup ds => some (.exc C f (.tup ds))
  | _ => none
theorem cs_exc {C : Addr} {f : Str} (h : ExK K f C) : CbSh K (rMkV K C f) (dExcOf C f) := by
  intro Z H zh x v d hx e Q hq
  have key : ∀ d', Fr K Z d' v → d = .exc C f d' → rMkV K C f [v] H Q := fun d' hx e => by
    subst e
    refine ⟨by simp, fun a ha => ⟨a, C, v, rfl, h.o, h.n, upd_same, fun dx hdx hne => ⟨rfl, dx, [(f, v)], upd_same, ?_, ?_⟩⟩⟩
    · rw [upd_ne hne, upd_same]
    · rw [upd_ne hne] at hdx
      have e : upd (upd (upd (upd (upd H a (exo a C none)) dx (exd dx [(f, v)])) a (exo a C (some dx))) dx (.xd [(f, v)])) a (exw a C dx) = upd (upd H dx (.xd [(f, v)])) a (exw a C dx) := by
        funext b
        by_cases hb : b = a
        · rw [hb, upd_same, upd_same]
        · rw [upd_ne hb, upd_ne hb]
          by_cases hd : b = dx
          · rw [hd, upd_same, upd_same]
          · rw [upd_ne hd, upd_ne hd, upd_ne hb, upd_ne hd, upd_ne hb]
      rw [e]
      have ha2 : upd H dx (.xd [(f, v)]) a = none := by rw [upd_ne (Ne.symm hne)]; exact ha
      have x1 := Ext.alloc zh (.xd [(f, v)]) hdx
      have x2 := Ext.alloc x1.zh (exw a C dx) ha2
      have x3 := x1.trans x2
      refine hq _ _ _ x3 (Fr.exc_iff.mpr ⟨a, dx, v, rfl, upd_same, ?_, hx.mono x3.zz⟩)
      rw [upd_ne hne, upd_same]
  unfold dExcOf at e
  split at e
  · cases e
    exact key _ (Fr.v_iff.mpr hx.v) rfl
  · cases e
    rename_i ds
    rcases hx with hx | ⟨_, _, _, _, h, _⟩ | ⟨_, _, _, _, _, h, _⟩
    · exact key _ hx rfl
    · cases h
    · cases h
  · cases e
theorem se_exc {C : Addr} {f : Str} {t : TE} {m : Mo D} (h : ExK K f C) (hv : SimV K E ms t m) : SimE K E (ms ++ []) (tMkV C (spEx K f) [] (tCons t tNil)) (xUn (dExcOf C f) m) := by
  rw [tMkV_cb]
  exact se_cb1 (cs_exc h) hv
/-- e.f -/
def dXf (cs : List Addr) (n : Str) : D → Option D
  | .exc C f d => if C ∈ cs ∧ f = n then some d else none
  | _ => none
theorem se_xf {cs : List Addr} {n : Str} {t : TE} {m : Mo D} (hc : ∀ C ∈ cs, ExK K n C) (h : SimE K E ms t m) : SimE K E (ms ++ []) (tXfV K n t) (xUn (dXf cs n) m) := fun s R =>
  (h s R).bind (t2 := fun (x : V) _ H1 (Q : VK) => ∃ (a C d : Addr) (fs : List (Str × V)) (v : V), x = .ref a ∧ XfC K C ∧ PySem.W.findIn K (.ref C) n = some none ∧ H1 a = some (exw a C d) ∧ H1 d = some (.xd fs) ∧ fs.lookup n = some v ∧ Q v H1) fun s1 x v R1 _ _ hx => by
    intro q ρ' e Q hq _
    unfold rOpt at e
    split at e
    · cases e
    · rename_i d hd
      cases e
      unfold dXf at hd
      split at hd
      · split at hd
        · rename_i c f d0 hcc
          cases hd
          obtain ⟨h1, rfl⟩ := hcc
          obtain ⟨a, dx, z, rfl, e1, e2, fr⟩ := Fr.exc_iff.mp hx
          exact ⟨a, c, dx, [(f, z)], z, rfl, (hc c h1).x, (hc c h1).n, R1.zh _ _ e1, R1.zh _ _ e2, by rw [lookup_put, if_pos rfl], hq _ rfl _ s1 (Nx.refl R1) rfl rfl fr⟩
        · cases hd
      · cases hd
/-! ### isinstance -/
inductive Cl where
  | ty (n : String)
  | own (a : Addr)
deriving DecidableEq
def Cl.val : Cl → Value
  | .ty n => .type n
  | .own a => .ref a
def clV : V → Option Cl
  | .ty n => some (.ty n)
  | .ref a => some (.own a)
  | _ => none
def clVs : List V → Option (List Cl)
  | [] => some []
  | v :: vs => match clV v, clVs vs with
    | some c, some cs => some (c :: cs)
    | _, _ => none
def clD : D → Option Cl
  | .v .non => some (.ty "NoneType")
  | .v (.bl _) => some (.ty "bool")
  | .v (.int _) => some (.ty "int")
  | .v (.str _) => some (.ty "str")
  | .lst _ => some (.ty "list")
  | .scr _ => some (.ty "list")
  | .tup _ => some (.ty "tuple")
  | .exc C f _ => if f = Str.ofString "__class__" then none else some (.own C)
  | _ => none
abbrev IsTab := List ((Cl × Cl) × Bool)
def IsTab.look (T : IsTab) (t c : Cl) : Option Bool := match T.find? fun p => decide (p.1 = (t, c)) with
  | some p => some p.2
  | none => none
def IsTab.any (T : IsTab) (t : Cl) : List Cl → Option Bool
  | [] => some false
  | c :: r => match T.look t c with
    | some true => some true
    | some false => IsTab.any T t r
    | none => none
structure IsOk (K : PySem.W.Frag) (T : IsTab) : Prop where
  one : ∀ p ∈ T, PySem.W.kitOne K p.1.1.val p.1.2.val = some p.2
  exc : ∀ p ∈ T, ∀ C, p.1.1 = .own C → ExcC K C
theorem IsOk.look {T : IsTab} (h : IsOk K T) {t c : Cl} {b : Bool} (e : T.look t c = some b) : PySem.W.kitOne K t.val c.val = some b ∧ ∀ C, t = .own C → ExcC K C := by
  unfold IsTab.look at e
  split at e
  · rename_i p hp
    cases e
    have hm := List.mem_of_find?_eq_some hp
    have hq : p.1 = (t, c) := by have q := List.find?_some hp; simpa using q
    have h1 := h.one p hm
    rw [hq] at h1
    exact ⟨h1, fun C hC => h.exc p hm C (by rw [hq]; exact hC)⟩
  · cases e
theorem IsOk.any {T : IsTab} (h : IsOk K T) {t : Cl} : ∀ {cs : List Cl} {b : Bool}, T.any t cs = some b → PySem.W.kitAny K t.val (cs.map Cl.val) = some b ∧ (cs ≠ [] → ∀ C, t = .own C → ExcC K C)
  | [], b, e => by cases e; exact ⟨rfl, fun z => absurd rfl z⟩
  | c :: r, b, e => by
    unfold IsTab.any at e
    split at e
    · rename_i q
      cases e
      obtain ⟨h1, h2⟩ := h.look q
      refine ⟨?_, fun _ => h2⟩
      show PySem.W.kitAny K t.val (c.val :: r.map Cl.val) = _
      unfold PySem.W.kitAny
      rw [h1]
    · rename_i q
      obtain ⟨h1, h2⟩ := h.look q
      refine ⟨?_, fun _ => h2⟩
      show PySem.W.kitAny K t.val (c.val :: r.map Cl.val) = _
      unfold PySem.W.kitAny
      rw [h1]
      exact (h.any e).1
    · cases e
theorem clV_is {v : V} {c : Cl} (e : clV v = some c) : ClsV v c.val := by
  unfold clV at e
  split at e
  · cases e; exact .ty _
  · cases e; exact .own _
  · cases e
theorem clVs_is : ∀ {vs : List V} {cs : List Cl}, clVs vs = some cs → Paired ClsV vs (cs.map Cl.val)
  | [], cs, e => by cases e; exact .nil
  | v :: vs, cs, e => by
    unfold clVs at e
    split at e
    · rename_i c cs' h1 h2
      cases e
      exact .cons (clV_is h1) (clVs_is h2)
    · cases e
def D.vs : List D → Option (List V)
  | [] => some []
  | .v x :: ds => (D.vs ds).map fun vs => x :: vs
  | _ :: _ => none
theorem D.vs_is {Z : Hp} : ∀ {ds : List D} {vs : List V} {xs : List V}, D.vs ds = some vs → FrL K Z ds xs → xs = vs
  | [], vs, xs, e, h => by cases e; exact FrL.nil_iff.mp h
  | d :: ds, vs, xs, e, h => by
    obtain ⟨x, r, rfl, h1, h2⟩ := FrL.cons_iff.mp h
    unfold D.vs at e
    split at e
    · cases ‹_ :: _ = []›
    · rename_i y ds' heq
      cases heq
      obtain ⟨cs, e1, rfl⟩ := Option.map_eq_some_iff.mp e
      rw [D.vs_is e1 h2, Fr.v_iff.mp h1]
    · cases e
/-- isinstance's readings, tuples of any kind -/
def rIsA (K : PySem.W.Frag) : List V → Hp → VK → Prop := fun xs H Q => ∃ (x c : V), xs = [x, c] ∧
  ((∃ t u b, ClsV c u ∧ TyX K H x t ∧ PySem.W.kitOne K t u = some b ∧ Q (.bl b) H) ∨ rIsV K xs H Q ∨
   (∃ tp cs us t b, c = .ref tp ∧ SqT K H tp cs ∧ Paired ClsV cs us ∧ TyX K H x t ∧ PySem.W.kitAny K t us = some b ∧ Q (.bl b) H) ∨
   (∃ a D d tp fs cs us b, x = .ref a ∧ c = .ref tp ∧ SqT K H tp cs ∧ Paired ClsV cs us ∧ H a = some (exw a D d) ∧ H d = some (.xd fs) ∧ fs.lookup (Str.ofString "__class__") = none ∧ ExcC K D ∧ PySem.W.kitAny K (.ref D) us = some b ∧ Q (.bl b) H))
theorem call_isA {X : Cx} : CallR X (.builtin "isinstance") (rIsA X.K) := by
  intro pins s σ H xs us Q I r h
  obtain ⟨x, c, rfl, h⟩ := h
  rcases h with ⟨t, u, b, h1, h2, h3, q⟩ | h | ⟨tp, cs, ws, t, b, rfl, hT, k, ty, e, q⟩ | ⟨a, D, d, tp, fs, cs, ws, b, rfl, rfl, hT, k, e1, e2, e3, C, e, q⟩
  · exact call_isi pins s σ H _ us Q I r ⟨x, c, t, u, b, rfl, h1, h2, h3, q⟩
  · exact call_isV pins s σ H _ us Q I r h
  · obtain ⟨u1, u2, rfl, r1, r2⟩ := vals2 r
    cases (show u2 = Value.ref tp from r2)
    obtain ⟨P, Z, p, hx⟩ := kit_of I r1 ty
    obtain ⟨its, rv, ⟨⟨oc, od, dt, sl⟩, h1, h2, n, h3⟩, _⟩ := I.tuple hT
    obtain rfl := ClsV.all k rv
    simp only at h2 h3
    subst h2 h3
    exact PySem.W.kia_tup Z I.kIn p h1 e hx fun tk => ⟨.bl b, H, I.tok tk, rfl, q⟩
  · obtain ⟨u1, u2, rfl, r1, r2⟩ := vals2 r
    cases (show u2 = Value.ref tp from r2)
    cases (show u1 = Value.ref a from r1)
    obtain ⟨its, rv, ⟨⟨oc, od, dt, sl⟩, h1, h2, n, h3⟩, _⟩ := I.tuple hT
    obtain rfl := ClsV.all k rv
    simp only at h2 h3
    subst h2 h3
    exact PySem.W.kia_tup (DatW.dat_kit C) I.kIn (exc_kit I e1 e2 e3) h1 e (fun z => nomatch z) fun tk => ⟨.bl b, H, I.tok tk, rfl, q⟩
theorem clD_base {Z H : Hp} (zh : Same Z H) {d : D} {v : V} {t : Cl} (h : Fr K Z d v) (e : clD d = some t) : TyX K H v t.val ∨ ∃ a C dx f x, v = .ref a ∧ t = .own C ∧ H a = some (exw a C dx) ∧ H dx = some (.xd [(f, x)]) ∧ f ≠ Str.ofString "__class__" := by
  have lst : ∀ {a : Addr} {xs : List V}, SqL K H a xs → TyX K H (.ref a) (.type "list") := fun {a xs} h => by
    rcases h with (h | ⟨o, h⟩) | ⟨o, its, n, h1, h2, _⟩
    · exact .base (.lst h)
    · exact .base (.frz h)
    · exact .kList h1 h2
  have tup : ∀ {a : Addr} {xs : List V}, SqT K H a xs → TyX K H (.ref a) (.type "tuple") := fun {a xs} h => by
    rcases h with (h | ⟨o, h⟩) | ⟨o, its, n, h1, h2, _⟩
    · exact .base (.tup h)
    · exact .fTuple h
    · exact .kTuple h1 h2
  unfold clD at e
  split at e
  · cases e; rw [Fr.v_iff.mp h]; exact .inl (.base .non)
  · cases e; rw [Fr.v_iff.mp h]; exact .inl (.base (.bl _))
  · cases e; rw [Fr.v_iff.mp h]; exact .inl (.base (.int _))
  · cases e; rw [Fr.v_iff.mp h]; exact .inl (.base (.str _))
  · cases e; obtain ⟨a, xs, rfl, h1, _⟩ := Fr.lst_iff.mp h; exact .inl (.base (.lst (zh _ _ h1)))
  · cases e; obtain ⟨a, rfl, h1⟩ := Fr.scr_iff.mp h; exact .inl (lst (zh.seq h1))
  · cases e; obtain ⟨a, xs, rfl, h1, _⟩ := Fr.tup_iff.mp h; exact .inl (tup (same_tup zh h1))
  · split at e
    · cases e
    · rename_i hf
      cases e
      obtain ⟨a, dx, x, rfl, h1, h2, _⟩ := Fr.exc_iff.mp h
      exact .inr ⟨a, _, dx, _, x, rfl, rfl, zh _ _ h1, zh _ _ h2, hf⟩
  · cases e
def dIsi (T : IsTab) : List D → Option D
  | [x, .v c] => match clD x, clV c with
    | some t, some u => (T.look t u).map fun b => .v (.bl b)
    | _, _ => none
  | [x, .tup ds] => match clD x, (D.vs ds).bind clVs with
    | some t, some (c :: cs) => (T.any t (c :: cs)).map fun b => .v (.bl b)
    | _, _ => none
  | _ => none
theorem cl_isi {T : IsTab} (h : IsOk K T) : CbL K (rIsA K) (dIsi T) := by
  intro Z H zh xs vs d hx e Q hq
  unfold dIsi at e
  split at e
  · obtain ⟨v1, r, rfl, h1, h2⟩ := FrL.cons_iff.mp hx
    obtain ⟨v2, r, rfl, h3, h4⟩ := FrL.cons_iff.mp h2
    rw [FrL.nil_iff.mp h4, Fr.v_iff.mp h3]
    split at e
    · rename_i t u e1 e2
      obtain ⟨b, e3, rfl⟩ := Option.map_eq_some_iff.mp e
      obtain ⟨k1, k2⟩ := h.look e3
      have fin := hq _ Z H (.refl zh) (Fr.v_iff.mpr rfl)
      refine ⟨_, _, rfl, ?_⟩
      rcases clD_base zh h1 e1 with q | ⟨a, C, dx, f, x, rfl, rfl, q1, q2, q3⟩
      · exact .inl ⟨_, _, b, clV_is e2, q, k1, fin⟩
      · exact .inr (.inl ⟨a, C, dx, _, _, _, b, rfl, clV_is e2, q1, q2, by rw [lookup_put, if_neg (Ne.symm q3)]; rfl, k2 C rfl, k1, fin⟩)
    · cases e
  · obtain ⟨v1, r, rfl, h1, h2⟩ := FrL.cons_iff.mp hx
    obtain ⟨v2, r, rfl, h3, h4⟩ := FrL.cons_iff.mp h2
    obtain ⟨tp, ys, rfl, h5, h6⟩ := Fr.tup_iff.mp h3
    rw [FrL.nil_iff.mp h4]
    split at e
    · rename_i t u us e1 e2
      obtain ⟨ws, e4, e5⟩ := Option.bind_eq_some_iff.mp e2
      have := D.vs_is e4 h6
      subst this
      obtain ⟨b, e3, rfl⟩ := Option.map_eq_some_iff.mp e
      obtain ⟨k1, k2⟩ := h.any e3
      have fin := hq _ Z H (.refl zh) (Fr.v_iff.mpr rfl)
      refine ⟨_, _, rfl, ?_⟩
      rcases clD_base zh h1 e1 with q | ⟨a, C, dx, f, x, rfl, rfl, q1, q2, q3⟩
      · exact .inr (.inr (.inl ⟨tp, ys, _, _, b, rfl, same_tup zh h5, clVs_is e5, q, k1, fin⟩))
      · exact .inr (.inr (.inr ⟨a, C, dx, tp, _, ys, _, b, rfl, rfl, same_tup zh h5, clVs_is e5, q1, q2, by rw [lookup_put, if_neg (Ne.symm q3)]; rfl, k2 (by simp) C rfl, k1, fin⟩))
    · cases e
  · cases e
end
end Dat
/-! DatF: what the written part says of exception classes, as truth values. -/
namespace Dat
open PySem PySem.Spec PyProof.Rows L2 DatE
def oexB (K : PySem.W.Frag) (C : Addr) : Bool := match K.lookup C with
  | some ⟨.type "type", _, .cls cd, sl⟩ => (match cd.mro, sl.toList with
    | .ref D :: bm, [_, _, _, _, some (.builtin n), _] => D == C && (n == "ValueError.__new__" && (!cd.hasDel && (cd.hasDict && PySem.HandSPX.refsVE bm)))
    | _, _ => false)
  | _ => false
def eqV (a b : Option Value) : Bool := decide (a = b)
def oexA (K : PySem.W.Frag) (C : Addr) : Bool := oexB K C && (decide (PySem.W.findIn K (.ref C) "__setattr__" = some (some (.builtin "object.__setattr__"))) && (decide (PySem.W.subIn K (.ref C) (.type "BaseException") = some true) &&
  (decide (PySem.W.typeIn K (.ref C) = some (.type "type")) && PySem.W.keepIn K (.ref C))))
theorem and2 {a b : Bool} (h : (a && b) = true) : a = true ∧ b = true := Bool.and_eq_true_iff.mp h
theorem oexB_ok {K : PySem.W.Frag} {C : Addr} (h : oexB K C = true) : ∃ nm q N bs bm sn sub ab col dd k0 k1 k2 k3 k5, K.lookup C = some (excClassObj nm q C N bs bm true sn sub ab col dd k0 k1 k2 k3 k5 "ValueError.__new__") ∧ PySem.HandSPX.refsVE bm = true := by
  unfold oexB at h
  split at h
  · rename_i dd cd sl ho
    split at h
    · rename_i D bm k0 k1 k2 k3 n k5 hm hs
      simp only [Bool.and_eq_true, beq_iff_eq, Bool.not_eq_true'] at h
      obtain ⟨rfl, rfl, h1, h2, h3⟩ := h
      obtain ⟨nm, bs, mro, N, q, hd, sn, sub, ab, col, del⟩ := cd
      dsimp only at hm h1 h2
      subst hm h1 h2
      have hsl : sl = #[k0, k1, k2, k3, some (.builtin "ValueError.__new__"), k5] := by
        obtain ⟨l⟩ := sl
        simp only at hs
        rw [hs]
      subst hsl
      exact ⟨nm, q, N, bs, bm, sn, sub, ab, col, dd, k0, k1, k2, k3, k5, ho, h3⟩
    · cases h
  · cases h
theorem oexA_ok {K : PySem.W.Frag} {C : Addr} (h : oexA K C = true) : OexC K C := by
  obtain ⟨h1, h⟩ := and2 h
  obtain ⟨h2, h⟩ := and2 h
  obtain ⟨h3, h⟩ := and2 h
  obtain ⟨h4, h5⟩ := and2 h
  exact ⟨oexB_ok h1, of_decide_eq_true h2, of_decide_eq_true h3, of_decide_eq_true h4, h5⟩
def exB (K : PySem.W.Frag) (f : Str) (C : Addr) : Bool := oexA K C && (decide (PySem.W.findIn K (.ref C) f = some none) && xfB K C)
theorem exB_ok {K : PySem.W.Frag} {f : Str} {C : Addr} (h : exB K f C = true) : ExK K f C := by
  obtain ⟨h1, h⟩ := and2 h
  obtain ⟨h2, h3⟩ := and2 h
  exact ⟨oexA_ok h1, of_decide_eq_true h2, xfB_ok h3⟩
def excB (K : PySem.W.Frag) (D : Addr) : Bool := decide (PySem.W.findIn K (.ref D) "__getattribute__" = some (some (.builtin "BaseException.__getattribute__"))) && (decide (PySem.W.findIn K (.ref D) "__getattr__" = some none) &&
  (decide (PySem.W.subIn K (.ref D) (.type "BaseException") = some true) && (PySem.W.hasDictIn K D && (decide (PySem.W.findIn K (.ref D) "__class__" = some (some (.builtin "object.__class__"))) &&
  (decide (PySem.W.specialIn K (.builtin "object.__class__") "__get__" = some (some (.builtin "getset_descriptor.__get__"))) && (decide (PySem.W.takesIn K (.builtin "object.__class__") = some true) && decide (PySem.W.mroIn K D (.type "object") = some true)))))))
theorem excB_ok {K : PySem.W.Frag} {D : Addr} (h : excB K D = true) : ExcC K D := by
  obtain ⟨h1, h⟩ := and2 h
  obtain ⟨h2, h⟩ := and2 h
  obtain ⟨h3, h⟩ := and2 h
  obtain ⟨h4, h⟩ := and2 h
  obtain ⟨h5, h⟩ := and2 h
  obtain ⟨h6, h⟩ := and2 h
  obtain ⟨h7, h8⟩ := and2 h
  exact ⟨of_decide_eq_true h1, of_decide_eq_true h2, of_decide_eq_true h3, h4, of_decide_eq_true h5, of_decide_eq_true h6, of_decide_eq_true h7, of_decide_eq_true h8⟩
def isB (K : PySem.W.Frag) (T : IsTab) : Bool := T.all fun p => decide (PySem.W.kitOne K p.1.1.val p.1.2.val = some p.2) && (match p.1.1 with
  | .own C => excB K C
  | .ty _ => true)
theorem isB_ok {K : PySem.W.Frag} {T : IsTab} (h : isB K T = true) : IsOk K T := by
  refine ⟨fun p hp => ?_, fun p hp C e => ?_⟩
  · obtain ⟨h1, _⟩ := and2 (List.all_eq_true.mp h p hp)
    exact of_decide_eq_true h1
  · obtain ⟨_, h2⟩ := and2 (List.all_eq_true.mp h p hp)
    rw [e] at h2
    exact excB_ok h2
/-- the __init__ that makes them -/
structure ExMk (P : Program) (w : World) (K : PySem.W.Frag) (mg : Str → Option Value) (base : Heap) (fI : Addr) (f : Str) : Prop where
  ex : ∃ fd, FnOk P w K mg base CX0 1 fI fd ["self", f] (spEx K f) ∧ Binds K fd ["self", f] []
  ty : PySem.W.typeIn K (.ref fI) = some (.type "function")
end Dat
/-! Dat14: the mirrors run, step by step. -/
namespace Dat
open PySem PySem.Spec PyProof.Rows L2 DatE
section
variable {ρ ρ1 ρ2 ρ3 : Env} {x y z d e : D} {ds : List D} {i j : Nat} {r : Option (Out × Env)}
theorem v_var (h : ρ[i]? = some (some (.d x)) := by rfl) : xVar i ρ = some (.ok x, ρ) := by unfold xVar; rw [h]
theorem v_c {v : V} : xC v ρ = some (.ok (.v v), ρ) := rfl
theorem v_op {f : D → D → Option D} {a b : Mo D} (h1 : a ρ = some (.ok x, ρ1)) (h2 : b ρ1 = some (.ok y, ρ2)) (h3 : f x y = some z) : xOp f a b ρ = some (.ok z, ρ2) := by
  unfold xOp rBind; rw [h1]; show rBind b _ ρ1 = _; unfold rBind; rw [h2]; show rOpt (f x y) ρ2 = _; rw [h3]; rfl
theorem v_un {f : D → Option D} {a : Mo D} (h1 : a ρ = some (.ok x, ρ1)) (h3 : f x = some z) : xUn f a ρ = some (.ok z, ρ1) := by
  unfold xUn rBind; rw [h1]; show rOpt (f x) ρ1 = _; rw [h3]; rfl
theorem l_nil : lNil ρ = some (.ok [], ρ) := rfl
theorem l_cons {a : Mo D} {b : Mo (List D)} (h1 : a ρ = some (.ok x, ρ1)) (h2 : b ρ1 = some (.ok ds, ρ2)) : lCons a b ρ = some (.ok (x :: ds), ρ2) := by
  unfold lCons rBind; rw [h1]; show rBind b _ ρ1 = _; unfold rBind; rw [h2]; rfl
theorem v_lst {m : Mo (List D)} (h : m ρ = some (.ok ds, ρ1)) (hl : ds.length ≤ 16777216 := by first | decide | simp) : xLst m ρ = some (.ok (.lst ds), ρ1) := by
  have q : ds.length ≤ sizeLine := by rw [sizeLine_eq]; exact hl
  unfold xLst rBind; rw [h]; simp only; rw [if_pos q]; rfl
theorem v_tup {m : Mo (List D)} (h : m ρ = some (.ok ds, ρ1)) (hl : ds.length ≤ 16777216 := by first | decide | simp) : xTup m ρ = some (.ok (.tup ds), ρ1) := by
  have q : ds.length ≤ sizeLine := by rw [sizeLine_eq]; exact hl
  unfold xTup rBind; rw [h]; simp only; rw [if_pos q]; rfl
theorem v_cb {f : List D → Option D} {m : Mo (List D)} (h : m ρ = some (.ok ds, ρ1)) (h2 : f ds = some z) : xCb f m ρ = some (.ok z, ρ1) := by
  unfold xCb rBind; rw [h]; show rOpt (f ds) ρ1 = _; rw [h2]; rfl
theorem v_rd {p : Env → Option (List Pt)} {π : List Pt} {o : O} (h1 : p ρ = some π) (h2 : ρ[i]? = some (some o) := by rfl) (h3 : o.get π = some (.d x) := by rfl) : xRd i p ρ = some (.ok x, ρ) := by
  unfold xRd; rw [h1, h2]; simp only; rw [h3]
theorem v_view {p : Env → Option (List Pt)} {π : List Pt} {o n : O} (h1 : p ρ = some π) (h2 : ρ[i]? = some (some o) := by rfl) (h3 : o.get π = some n := by rfl) (h4 : n.view = some x) : xView i p ρ = some (.ok x, ρ) := by
  unfold xView; rw [h1, h2]; simp only; rw [h3]; simp only; rw [h4]
theorem p_var : pVar ρ = some [] := rfl
theorem p_ixL {p : Env → Option (List Pt)} {π : List Pt} {mi : Mo D} {k : Int} {o : O} {os : List O} {ρ' : Env} (h1 : p ρ = some π) (h2 : mi ρ = some (.ok (.v (.int k)), ρ')) (h3 : ρ[i]? = some (some o) := by rfl) (h4 : o.get π = some (.lst os) := by rfl) : pIx i p mi ρ = some (π ++ [.ix k]) := by
  unfold pIx; rw [h1, h2, h3]; simp only; rw [h4]
theorem p_ixK {p : Env → Option (List Pt)} {π : List Pt} {mi : Mo D} {k : V} {q : Key} {o : O} {ks : List Key} {os : List O} {ρ' : Env} (h1 : p ρ = some π) (h2 : mi ρ = some (.ok (.v k), ρ')) (h3 : ρ[i]? = some (some o) := by rfl) (h4 : o.get π = some (.dk ks os) := by rfl) (h5 : keyOfV k = some q := by rfl) :
    pIx i p mi ρ = some (π ++ [.ky q]) := by
  unfold pIx; rw [h1, h2, h3]; simp only; rw [h4]; simp only; rw [h5]; rfl
theorem t_T {m : Mo D} {b : Bool} (h : m ρ = some (.ok (.v (.bl b)), ρ1)) : xT m ρ = some (.ok b, ρ1) := by unfold xT rBind; rw [h]; rfl
theorem t_not {m : Mo Bool} {b : Bool} (h : m ρ = some (.ok b, ρ1)) : xNot m ρ = some (.ok (!b), ρ1) := by unfold xNot rBind; rw [h]; rfl
theorem t_and0 {m n : Mo Bool} (h : m ρ = some (.ok false, ρ1)) : xAnd m n ρ = some (.ok false, ρ1) := by unfold xAnd rBind; rw [h]; rfl
theorem t_and1 {m n : Mo Bool} {b : Bool} (h : m ρ = some (.ok true, ρ1)) (h2 : n ρ1 = some (.ok b, ρ2)) : xAnd m n ρ = some (.ok b, ρ2) := by unfold xAnd rBind; rw [h]; exact h2
theorem t_or1 {m n : Mo Bool} (h : m ρ = some (.ok true, ρ1)) : xOr m n ρ = some (.ok true, ρ1) := by unfold xOr rBind; rw [h]; rfl
theorem t_or0 {m n : Mo Bool} {b : Bool} (h : m ρ = some (.ok false, ρ1)) (h2 : n ρ1 = some (.ok b, ρ2)) : xOr m n ρ = some (.ok b, ρ2) := by unfold xOr rBind; rw [h]; exact h2
theorem s_seq {a b : MS} (h : a ρ = some (.nx, ρ1)) (h2 : b ρ1 = r) : mSeq a b ρ = r := by unfold mSeq; rw [h]; exact h2
theorem s_seqR {a b : MS} {o : O} (h : a ρ = some (.ret o, ρ1)) : mSeq a b ρ = some (.ret o, ρ1) := by unfold mSeq; rw [h]
theorem s_next : mNext ρ = some (.nx, ρ) := rfl
theorem s_set {m : Mo D} (h : m ρ = some (.ok x, ρ1)) (hi : i < ρ1.length := by first | decide | simp) (h2 : ρ1.set i (some (.d x)) = ρ2 := by rfl) : mSet i m ρ = some (.nx, ρ2) := by
  unfold mSet mE; rw [h]; show mPut i (.d x) ρ1 = _; unfold mPut; rw [if_pos hi, h2]
theorem s_setO {m : Mo O} {o : O} (h : m ρ = some (.ok o, ρ1)) (hi : i < ρ1.length := by first | decide | simp) (h2 : ρ1.set i (some o) = ρ2 := by rfl) : mSetO i m ρ = some (.nx, ρ2) := by
  unfold mSetO mE; rw [h]; show mPut i o ρ1 = _; unfold mPut; rw [if_pos hi, h2]
theorem s_ret {m : Mo D} (h : m ρ = some (.ok x, ρ1)) : mRet m ρ = some (.ret (.d x), ρ1) := by unfold mRet mE; rw [h]
theorem s_retO {m : Mo O} {o : O} (h : m ρ = some (.ok o, ρ1)) : mRetO m ρ = some (.ret o, ρ1) := by unfold mRetO mE; rw [h]
theorem s_if1 {c : Mo Bool} {a b : MS} (h : c ρ = some (.ok true, ρ1)) (h2 : a ρ1 = r) : mIf c a b ρ = r := by unfold mIf mE; rw [h]; exact h2
theorem s_if0 {c : Mo Bool} {a b : MS} (h : c ρ = some (.ok false, ρ1)) (h2 : b ρ1 = r) : mIf c a b ρ = r := by unfold mIf mE; rw [h]; exact h2
theorem s_drop {α : Type} {m : Mo α} {a : α} (h : m ρ = some (.ok a, ρ1)) : mE m (fun _ => mNext) ρ = some (.nx, ρ1) := by unfold mE; rw [h]; rfl
theorem s_forE {m : Mo (List D)} {g : D → Env → Option Env} {b : MS} (h : m ρ = some (.ok ds, ρ1)) (h2 : mFor g b ds ρ1 = r) : mForE m g b ρ = r := by unfold mForE mE; rw [h]; exact h2
theorem s_for0 {g : D → Env → Option Env} {b : MS} : mFor g b [] ρ = some (.nx, ρ) := rfl
theorem s_forC {g : D → Env → Option Env} {b : MS} (h : g x ρ = some ρ1) (h1 : b ρ1 = some (.nx, ρ2)) (h2 : mFor g b ds ρ2 = r) : mFor g b (x :: ds) ρ = r := by unfold mFor; rw [h]; simp only; rw [h1]; exact h2
theorem g_N (hi : i < ρ.length := by first | decide | simp) (h2 : ρ.set i (some (.d x)) = ρ2 := by rfl) : gN i x ρ = some ρ2 := by unfold gN; rw [if_pos hi, h2]
theorem b_as {m : Mo D} {f : D → Mo (List D)} (h : m ρ = some (.ok x, ρ1)) (h2 : f x ρ1 = some (.ok ds, ρ2)) : rBind m f ρ = some (.ok ds, ρ2) := by unfold rBind; rw [h]; exact h2
theorem b_asL {m : Mo (List D)} {f : List D → Mo (List D)} {es : List D} (h : m ρ = some (.ok es, ρ1)) (h2 : f es ρ1 = some (.ok ds, ρ2)) : rBind m f ρ = some (.ok ds, ρ2) := by unfold rBind; rw [h]; exact h2
theorem a_L : asL (.lst ds) ρ = some (.ok ds, ρ) := rfl
theorem o_nil : olNil ρ = some (.ok [], ρ) := rfl
theorem o_cons {a : Mo O} {b : Mo (List O)} {o : O} {os : List O} (h1 : a ρ = some (.ok o, ρ1)) (h2 : b ρ1 = some (.ok os, ρ2)) : olCons a b ρ = some (.ok (o :: os), ρ2) := by
  unfold olCons rBind; rw [h1]; show rBind b _ ρ1 = _; unfold rBind; rw [h2]; rfl
theorem o_D {m : Mo D} (h : m ρ = some (.ok x, ρ1)) : oD m ρ = some (.ok (.d x), ρ1) := by unfold oD rBind; rw [h]; rfl
theorem o_lst {m : Mo (List O)} {os : List O} (h : m ρ = some (.ok os, ρ1)) (hl : os.length ≤ 16777216 := by first | decide | simp) : oLst m ρ = some (.ok (.lst os), ρ1) := by
  have q : os.length ≤ sizeLine := by rw [sizeLine_eq]; exact hl
  unfold oLst rBind; rw [h]; simp only; rw [if_pos q]; rfl
theorem v_fz {m : Mo O} {o : O} (h : m ρ = some (.ok o, ρ1)) (h2 : o.toD = x := by rfl) : xFz m ρ = some (.ok x, ρ1) := by
  unfold xFz rBind; rw [h]; subst h2; rfl
theorem n_append {os : List O} (hl : os.length < 16777216 := by first | decide | simp) : nAppend (.lst os) [x] = some (.v .non, .lst (os ++ [.d x])) := by
  have q : os.length < sizeLine := by rw [sizeLine_eq]; exact hl
  unfold nAppend; simp only; rw [if_pos q]
theorem v_mut {p : Env → Option (List Pt)} {π : List Pt} {o n n' o' : O} {tf : O → Bool} {nf : O → List D → Option (D × O)} {m : Mo (List D)} (h1 : p ρ = some π) (h2 : ρ[i]? = some (some o) := by rfl) (h3 : o.get π = some n := by rfl) (h4 : tf n = true := by rfl)
    (h5 : m ρ = some (.ok ds, ρ1)) (h6 : nf n ds = some (x, n')) (h7 : o.put π n' = some o' := by rfl) (h8 : ρ1.set i (some o') = ρ2 := by rfl) : xMut i p tf nf m ρ = some (.ok x, ρ2) := by
  unfold xMut; rw [h1, h2]; simp only; rw [h3]; simp only; rw [if_pos h4]; unfold rBind; rw [h5]; simp only; rw [h6]; simp only; rw [h7]; simp only; rw [h8]
theorem ar_nil : aNil ρ = some (.ok [], ρ) := rfl
theorem ar_cons {a : Mo D} {b : Mo (List Arg)} {as : List Arg} (h1 : a ρ = some (.ok x, ρ1)) (h2 : b ρ1 = some (.ok as, ρ2)) : aCons a b ρ = some (.ok (.dat x :: as), ρ2) := by
  unfold aCons rBind; rw [h1]; show rBind b _ ρ1 = _; unfold rBind; rw [h2]; rfl
theorem ar_ref {b : Mo (List Arg)} {as : List Arg} {o : O} (h1 : ρ[i]? = some (some o) := by rfl) (h2 : b ρ = some (.ok as, ρ2)) : aRef i b ρ = some (.ok (.ref i :: as), ρ2) := by
  unfold aRef; rw [h1]; simp only; unfold rBind; rw [h2]; rfl
theorem o_call {F : List O → Option Res} {m : Mo (List Arg)} {as : List Arg} {os outs : List O} {o : O} (h1 : m ρ = some (.ok as, ρ1)) (h2 : argsO ρ1 as = some os := by rfl) (h3 : F os = some (.ret o outs)) (h4 : writeB ρ1 as outs = ρ2 := by rfl) :
    xCallO F m [] ρ = some (.ok o, ρ2) := by
  unfold xCallO rBind; rw [h1]; simp only [List.map_nil, List.append_nil]; unfold callR; rw [h2]; simp only; rw [h3]; simp only; rw [h4]
end
end Dat
namespace Mo
open PySem PySem.Spec PyProof.Rows L2 Dat DatE
def top (i : Nat) : Stmt := PySem.Challenge.pw_modeholds_k05_refusals_made.main.body.getD i (.Pass ⟨0, 0, 0, 0⟩)
abbrev FnP (K : PySem.W.Frag) (x qual : Str) (st : Stmt) (f : Addr) (fd : FuncData) : Prop := FunD K x qual (defArgs st) (defBody st) (defScope st) [] [] f fd
def isT (cModeError cNoBook cNoDeed cNoGuard cNoPart cNoRow cNoText cTooMany cUnlike : Addr) : IsTab := [((.own cModeError, .own cModeError), true), ((.own cModeError, .own cNoBook), false), ((.own cModeError, .own cNoDeed), false), ((.own cModeError, .own cNoGuard), false), ((.own cModeError, .own cNoPart), false), ((.own cModeError, .own cNoRow), false), ((.own cModeError, .own cNoText), false), ((.own cModeError, .own cTooMany), false), ((.own cModeError, .own cUnlike), false), ((.own cModeError, .ty "ValueError"), true), ((.own cNoBook, .own cModeError), true), ((.own cNoBook, .own cNoBook), true), ((.own cNoBook, .own cNoDeed), false), ((.own cNoBook, .own cNoGuard), false), ((.own cNoBook, .own cNoPart), false), ((.own cNoBook, .own cNoRow), false), ((.own cNoBook, .own cNoText), false), ((.own cNoBook, .own cTooMany), false), ((.own cNoBook, .own cUnlike), false), ((.own cNoBook, .ty "ValueError"), true), ((.own cNoDeed, .own cModeError), true), ((.own cNoDeed, .own cNoBook), false), ((.own cNoDeed, .own cNoDeed), true), ((.own cNoDeed, .own cNoGuard), false), ((.own cNoDeed, .own cNoPart), false), ((.own cNoDeed, .own cNoRow), false), ((.own cNoDeed, .own cNoText), false), ((.own cNoDeed, .own cTooMany), false), ((.own cNoDeed, .own cUnlike), false), ((.own cNoDeed, .ty "ValueError"), true), ((.own cNoGuard, .own cModeError), true), ((.own cNoGuard, .own cNoBook), false), ((.own cNoGuard, .own cNoDeed), false), ((.own cNoGuard, .own cNoGuard), true), ((.own cNoGuard, .own cNoPart), false), ((.own cNoGuard, .own cNoRow), false), ((.own cNoGuard, .own cNoText), false), ((.own cNoGuard, .own cTooMany), false), ((.own cNoGuard, .own cUnlike), false), ((.own cNoGuard, .ty "ValueError"), true), ((.own cNoPart, .own cModeError), true), ((.own cNoPart, .own cNoBook), false), ((.own cNoPart, .own cNoDeed), false), ((.own cNoPart, .own cNoGuard), false), ((.own cNoPart, .own cNoPart), true), ((.own cNoPart, .own cNoRow), false), ((.own cNoPart, .own cNoText), false), ((.own cNoPart, .own cTooMany), false), ((.own cNoPart, .own cUnlike), false), ((.own cNoPart, .ty "ValueError"), true), ((.own cNoRow, .own cModeError), true), ((.own cNoRow, .own cNoBook), false), ((.own cNoRow, .own cNoDeed), false), ((.own cNoRow, .own cNoGuard), false), ((.own cNoRow, .own cNoPart), false), ((.own cNoRow, .own cNoRow), true), ((.own cNoRow, .own cNoText), false), ((.own cNoRow, .own cTooMany), false), ((.own cNoRow, .own cUnlike), false), ((.own cNoRow, .ty "ValueError"), true), ((.own cNoText, .own cModeError), true), ((.own cNoText, .own cNoBook), false), ((.own cNoText, .own cNoDeed), false), ((.own cNoText, .own cNoGuard), false), ((.own cNoText, .own cNoPart), false), ((.own cNoText, .own cNoRow), false), ((.own cNoText, .own cNoText), true), ((.own cNoText, .own cTooMany), false), ((.own cNoText, .own cUnlike), false), ((.own cNoText, .ty "ValueError"), true), ((.own cTooMany, .own cModeError), true), ((.own cTooMany, .own cNoBook), false), ((.own cTooMany, .own cNoDeed), false), ((.own cTooMany, .own cNoGuard), false), ((.own cTooMany, .own cNoPart), false), ((.own cTooMany, .own cNoRow), false), ((.own cTooMany, .own cNoText), false), ((.own cTooMany, .own cTooMany), true), ((.own cTooMany, .own cUnlike), false), ((.own cTooMany, .ty "ValueError"), true), ((.own cUnlike, .own cModeError), true), ((.own cUnlike, .own cNoBook), false), ((.own cUnlike, .own cNoDeed), false), ((.own cUnlike, .own cNoGuard), false), ((.own cUnlike, .own cNoPart), false), ((.own cUnlike, .own cNoRow), false), ((.own cUnlike, .own cNoText), false), ((.own cUnlike, .own cTooMany), false), ((.own cUnlike, .own cUnlike), true), ((.own cUnlike, .ty "ValueError"), true)]
def exCs (cModeError cNoBook cNoDeed cNoGuard cNoPart cNoRow cNoText cTooMany cUnlike : Addr) : List Addr := [cModeError, cNoBook, cNoDeed, cNoGuard, cNoPart, cNoRow, cNoText, cTooMany, cUnlike]
structure Tx (K : PySem.W.Frag) (mg : Str → Option Value) (cModeError : Addr) (cNoBook : Addr) (cNoDeed : Addr) (cNoGuard : Addr) (cNoPart : Addr) (cNoRow : Addr) (cNoText : Addr) (cTooMany : Addr) (cUnlike : Addr) (fE : Addr) : Prop where
  b_ValueError : mg "ValueError" = none
  b_abs : mg "abs" = none
  b_isinstance : mg "isinstance" = none
  b_range : mg "range" = none
  g_ModeError : mg "ModeError" = some (.ref cModeError)
  ex_ModeError : ExK K "what" cModeError
  i_ModeError : PySem.W.findIn K (.ref cModeError) "__init__" = some (some (.ref fE))
  g_NoBook : mg "NoBook" = some (.ref cNoBook)
  ex_NoBook : ExK K "what" cNoBook
  i_NoBook : PySem.W.findIn K (.ref cNoBook) "__init__" = some (some (.ref fE))
  g_NoDeed : mg "NoDeed" = some (.ref cNoDeed)
  ex_NoDeed : ExK K "what" cNoDeed
  i_NoDeed : PySem.W.findIn K (.ref cNoDeed) "__init__" = some (some (.ref fE))
  g_NoGuard : mg "NoGuard" = some (.ref cNoGuard)
  ex_NoGuard : ExK K "what" cNoGuard
  i_NoGuard : PySem.W.findIn K (.ref cNoGuard) "__init__" = some (some (.ref fE))
  g_NoPart : mg "NoPart" = some (.ref cNoPart)
  ex_NoPart : ExK K "what" cNoPart
  i_NoPart : PySem.W.findIn K (.ref cNoPart) "__init__" = some (some (.ref fE))
  g_NoRow : mg "NoRow" = some (.ref cNoRow)
  ex_NoRow : ExK K "what" cNoRow
  i_NoRow : PySem.W.findIn K (.ref cNoRow) "__init__" = some (some (.ref fE))
  g_NoText : mg "NoText" = some (.ref cNoText)
  ex_NoText : ExK K "what" cNoText
  i_NoText : PySem.W.findIn K (.ref cNoText) "__init__" = some (some (.ref fE))
  g_TooMany : mg "TooMany" = some (.ref cTooMany)
  ex_TooMany : ExK K "what" cTooMany
  i_TooMany : PySem.W.findIn K (.ref cTooMany) "__init__" = some (some (.ref fE))
  g_Unlike : mg "Unlike" = some (.ref cUnlike)
  ex_Unlike : ExK K "what" cUnlike
  i_Unlike : PySem.W.findIn K (.ref cUnlike) "__init__" = some (some (.ref fE))
  exl : ∀ C ∈ exCs cModeError cNoBook cNoDeed cNoGuard cNoPart cNoRow cNoText cTooMany cUnlike, ExK K "what" C
  is_ok : IsOk K (isT cModeError cNoBook cNoDeed cNoGuard cNoPart cNoRow cNoText cTooMany cUnlike)
section
variable {P : Program} {w : World} {K : PySem.W.Frag} {mg : Str → Option Value} {base : Heap} {cModeError : Addr} {cNoBook : Addr} {cNoDeed : Addr} {cNoGuard : Addr} {cNoPart : Addr} {cNoRow : Addr} {cNoText : Addr} {cTooMany : Addr} {cUnlike : Addr} {fE : Addr}
/-! _law_deck -/
abbrev s_law_deck : Stmt := top 11
def N_law_deck : List Str := ["_law_script", "_law_great", "_law_fold", "_law_cell"]
theorem sc_law_deck : FnScope N_law_deck ["_law_script"] (defScope s_law_deck) := ⟨rfl, rfl, rfl, by decide +kernel, rfl, by decide +kernel, by decide +kernel⟩
noncomputable def m_law_deck_p1 : MS := (mSeq (mSet 2 (xOp dMod (xOp dAdd (xOp dMul (xVar 2) (xC (V.int (1000003)))) (xVar 3)) (xC (V.int (2305843009213693951)))))
      (mIf (xT (xOp dGe (xUn dAbs (xVar 3)) (xOp dPow (xC (V.int (10))) (xC (V.int (18)))))) (mE (xMut 1 pVar isL nInsert (lCons (xC (V.int (0))) (lCons (xOp dSub (xUn dAbs (xVar 3)) (xOp dPow (xC (V.int (10))) (xC (V.int (18))))) lNil))) fun _ => mNext) mNext))
noncomputable def m_law_deck : MS := (mSeq (mSetO 1 (oLst olNil))
      (mSeq (mSet 2 (xC (V.int (11))))
      (mSeq (mForE (rBind (xVar 0) asS) (gN 3) m_law_deck_p1)
      (mRetO (oLst (olCons (oMv 1) (olCons (oD (xVar 2)) (olCons (oD (xC (V.int (0)))) olNil))))))))
noncomputable def law_deck : List O → Option Res := runD0 1 4 [] (m_law_deck)
theorem ok_law_deck {f : Addr} {fd : FuncData} (F : FnP K "_law_deck" "_law_deck" s_law_deck f fd) (T : Tx K mg cModeError cNoBook cNoDeed cNoGuard cNoPart cNoRow cNoText cTooMany cUnlike fE)  : FnOk P w K mg base CX0 1 f fd ["_law_script"] (spD K law_deck) := by
  refine F.ok sc_law_deck (fun vs H Q E h => ?_) (fun cdv A outer s H vs Q E hr h => ?_)
  · obtain ⟨s0, os, res, R, _, hσ, hρ, hF, _⟩ := h
    exact len_of R hσ hρ hF
  · refine ⟨_, PSs.nox (pss_cons (ps_set (i := 1) sc_law_deck.nd rfl (by first | exact Or.inl rfl | exact Or.inr rfl) (pe_lst pa_nil))
      (pss_cons (ps_set (i := 2) sc_law_deck.nd rfl (by first | exact Or.inl rfl | exact Or.inr rfl) pe_int)
      (pss_cons (ps_for PassesOwn.never rfl (pi_list (pv 0)) (pg_name (i := 3) sc_law_deck.nd rfl (by first | exact Or.inl rfl | exact Or.inr rfl)) (pss_cons (ps_set (i := 2) sc_law_deck.nd rfl (by first | exact Or.inl rfl | exact Or.inr rfl) (pe_op op_mod (pe_op op_addU (pe_op op_mul (pv 2) pe_int) (pv 3)) pe_int))
      (pss_one (ps_if (pt_cmpR (op_ge) (pe_callB call_abs (by rfl) T.b_abs (by decide +kernel) (pa_cons (pv 3) pa_nil)) (pe_op op_pow pe_int pe_int) (nomark _)) (pss_one (ps_expr (pe_bm PySem.F.plainAttrs_list PySem.F.slot_list_insert PySem.F.type_list_insert mt_insert (pv 1) (pa_cons pe_int (pa_cons (pe_op op_sub (pe_callB call_abs (by rfl) T.b_abs (by decide +kernel) (pa_cons (pv 3) pa_nil)) (pe_op op_pow pe_int pe_int)) pa_nil))))) pss_nil))))
      (pss_one (ps_ret (pe_lst (pa_cons (pv 1) (pa_cons (pv 2) (pa_cons pe_int pa_nil))))))))), (runD0_ok (N := N_law_deck) (by decide) (show SimS K E0 [] _ (m_law_deck) from (ss_seq (ss_setO (by decide) (so_lst sol_nil))
      (ss_seq (ss_set (by decide) (se_c _))
      (ss_seq (ss_forS (se_var 0) sg_name (by decide) (ss_seq (ss_set (by decide) (se_op os_mod (se_op os_add (se_op os_mul (se_var 2) (sv_of (se_c _))) (sv_of (se_var 3))) (sv_of (se_c _))))
      (ss_if (st_test (se_op os_ge (se_cb1 cs_abs (sv_of (se_var 3))) (sv_of (se_op os_pow (se_c _) (sv_of (se_c _)))))) (ss_drop (se_mut mu_insert ty_list (by decide) (sb_var 1) (sl_cons (se_c _) (sl_cons (se_op os_sub (se_cb1 cs_abs (sv_of (se_var 3))) (sv_of (se_op os_pow (se_c _) (sv_of (se_c _))))) sl_nil)))) ss_next)))
      (ss_retO (so_lst (sol_cons (so_mv 1) (sol_cons (so_of (se_var 2)) (sol_cons (so_of (se_c _)) sol_nil))))))))) h).2⟩
/-! _law_take -/
abbrev s_law_take : Stmt := top 12
def N_law_take : List Str := ["_law_deck_here", "_law_many", "_law_drawn", "_law_k", "_law_mixed"]
theorem sc_law_take : FnScope N_law_take ["_law_deck_here", "_law_many"] (defScope s_law_take) := ⟨rfl, rfl, rfl, by decide +kernel, rfl, by decide +kernel, by decide +kernel⟩
noncomputable def m_law_take_p1 : Mo Bool := (xAnd (xT (xOp dNe (xView 0 (pIx 0 pVar (xC (V.int (0))))) (xLst lNil))) (xT (xOp dLt (xRd 0 (pIx 0 (pIx 0 pVar (xC (V.int (0)))) (xUn dNeg (xC (V.int (1)))))) (xC (V.int (2))))))
noncomputable def m_law_take_p2 : MS := (mE (xMut 0 (pIx 0 pVar (xC (V.int (0)))) isL nPop lNil) fun _ => mNext)
noncomputable def m_law_take : MS := (mSeq (mWhileX m_law_take_p1 m_law_take_p2)
      (mSeq (mIf (xT (xOp dNe (xView 0 (pIx 0 pVar (xC (V.int (0))))) (xLst lNil))) (mSeq (mSet 2 (xOp dMod (xRd 0 (pIx 0 (pIx 0 pVar (xC (V.int (0)))) (xUn dNeg (xC (V.int (1)))))) (xVar 1)))
      (mSeq (mStore 0 (pIx 0 pVar (xC (V.int (0)))) (xUn dNeg (xC (V.int (1)))) nSetI (oD (xOp dDiv (xRd 0 (pIx 0 (pIx 0 pVar (xC (V.int (0)))) (xUn dNeg (xC (V.int (1)))))) (xVar 1))))
      (mRet (xVar 2)))) mNext)
      (mSeq (mStore 0 pVar (xC (V.int (2))) nSetI (oD (xOp dAdd (xRd 0 (pIx 0 pVar (xC (V.int (2))))) (xC (V.int (1))))))
      (mSeq (mSet 3 (xRd 0 (pIx 0 pVar (xC (V.int (2))))))
      (mSeq (mSet 4 (xOp dAdd (xOp dMul (xOp dAdd (xRd 0 (pIx 0 pVar (xC (V.int (1))))) (xC (V.int (40503)))) (xOp dPow (xOp dAdd (xVar 3) (xC (V.int (5)))) (xC (V.int (3))))) (xOp dMul (xC (V.int (69621))) (xVar 3))))
      (mRet (xOp dMod (xOp dDiv (xOp dMod (xOp dPow (xOp dMod (xVar 4) (xC (V.int (2305843009213693951)))) (xC (V.int (3)))) (xC (V.int (1000000007)))) (xC (V.int (64)))) (xVar 1))))))))
noncomputable def law_take : List O → Option Res := runD0 2 5 [0] (m_law_take)
theorem ok_law_take {f : Addr} {fd : FuncData} (F : FnP K "_law_take" "_law_take" s_law_take f fd) (T : Tx K mg cModeError cNoBook cNoDeed cNoGuard cNoPart cNoRow cNoText cTooMany cUnlike fE)  : FnOk P w K mg base CX0 1 f fd ["_law_deck_here", "_law_many"] (spD K law_take) := by
  refine F.ok sc_law_take (fun vs H Q E h => ?_) (fun cdv A outer s H vs Q E hr h => ?_)
  · obtain ⟨s0, os, res, R, _, hσ, hρ, hF, _⟩ := h
    exact len_of R hσ hρ hF
  · refine ⟨_, PSs.nox (pss_cons (ps_while PassesOwn.never (PW.pt (pw_and (pt_cmpR (op_neD (hr.units)) (pe_ix (ix_all (hu_of hr)) (pv 0) pe_int (fun _ _ => rfl)) (pe_lst pa_nil) (nomark _)) (pw_and1 (pt_cmpR (op_lt) (pe_ix (ix_all (hu_of hr)) (pe_ix (ix_all (hu_of hr)) (pv 0) pe_int (fun _ _ => rfl)) (pe_un un_neg pe_int) (fun _ _ => rfl)) pe_int (nomark _))))) (pss_one (ps_expr (pe_bm0 PySem.F.plainAttrs_list PySem.F.slot_list_pop PySem.F.type_list_pop mt_pop (pe_ix (ix_all (hu_of hr)) (pv 0) pe_int (fun _ _ => rfl))))))
      (pss_cons (ps_if (pt_cmpR (op_neD (hr.units)) (pe_ix (ix_all (hu_of hr)) (pv 0) pe_int (fun _ _ => rfl)) (pe_lst pa_nil) (nomark _)) (pss_cons (ps_set (i := 2) sc_law_take.nd rfl (by first | exact Or.inl rfl | exact Or.inr rfl) (pe_op op_mod (pe_ix (ix_all (hu_of hr)) (pe_ix (ix_all (hu_of hr)) (pv 0) pe_int (fun _ _ => rfl)) (pe_un un_neg pe_int) (fun _ _ => rfl)) (pv 1)))
      (pss_cons (ps_asg (pe_op op_fdiv (pe_ix (ix_all (hu_of hr)) (pe_ix (ix_all (hu_of hr)) (pv 0) pe_int (fun _ _ => rfl)) (pe_un un_neg pe_int) (fun _ _ => rfl)) (pv 1)) (pg_sub (pe_ix (ix_all (hu_of hr)) (pv 0) pe_int (fun _ _ => rfl)) (pe_un un_neg pe_int) set_list))
      (pss_one (ps_ret (pv 2))))) pss_nil)
      (pss_cons (ps_asg (pe_op op_addU (pe_ix (ix_all (hu_of hr)) (pv 0) pe_int (fun _ _ => rfl)) pe_int) (pg_sub (pv 0) pe_int set_list))
      (pss_cons (ps_set (i := 3) sc_law_take.nd rfl (by first | exact Or.inl rfl | exact Or.inr rfl) (pe_ix (ix_all (hu_of hr)) (pv 0) pe_int (fun _ _ => rfl)))
      (pss_cons (ps_set (i := 4) sc_law_take.nd rfl (by first | exact Or.inl rfl | exact Or.inr rfl) (pe_op op_addU (pe_op op_mul (pe_op op_addU (pe_ix (ix_all (hu_of hr)) (pv 0) pe_int (fun _ _ => rfl)) pe_int) (pe_op op_pow (pe_op op_addU (pv 3) pe_int) pe_int)) (pe_op op_mul pe_int (pv 3))))
      (pss_one (ps_ret (pe_op op_mod (pe_op op_fdiv (pe_op op_mod (pe_op op_pow (pe_op op_mod (pv 4) pe_int) pe_int) pe_int) pe_int) (pv 1))))))))), (runD0_ok (N := N_law_take) (by decide) (show SimS K E0 [0] _ (m_law_take) from (ss_seq (ss_while (st_and (st_test (se_opV os_ne (sv_view (sb_ix (sb_var 0) (se_c _))) (sv_of (se_lst sl_nil)))) (st_test (se_op os_lt (se_rd (sb_ix (sb_ix (sb_var 0) (se_c _)) (se_un us_neg (sv_of (se_c _))))) (sv_of (se_c _))))) (ss_drop (se_mut0 mu_pop ty_list (sb_ix (sb_var 0) (se_c _)))))
      (ss_seq (ss_if (st_test (se_opV os_ne (sv_view (sb_ix (sb_var 0) (se_c _))) (sv_of (se_lst sl_nil)))) (ss_seq (ss_set (by decide) (se_op os_mod (se_rd (sb_ix (sb_ix (sb_var 0) (se_c _)) (se_un us_neg (sv_of (se_c _))))) (sv_of (se_var 1))))
      (ss_seq (ss_storeL st_setI (so_of (se_op os_div (se_rd (sb_ix (sb_ix (sb_var 0) (se_c _)) (se_un us_neg (sv_of (se_c _))))) (sv_of (se_var 1)))) (sb_ix (sb_var 0) (se_c _)) (se_un us_neg (sv_of (se_c _))))
      (ss_ret (se_var 2)))) ss_next)
      (ss_seq (ss_storeL st_setI (so_of (se_op os_add (se_rd (sb_ix (sb_var 0) (se_c _))) (sv_of (se_c _)))) (sb_var 0) (se_c _))
      (ss_seq (ss_set (by decide) (se_rd (sb_ix (sb_var 0) (se_c _))))
      (ss_seq (ss_set (by decide) (se_op os_add (se_op os_mul (se_op os_add (se_rd (sb_ix (sb_var 0) (se_c _))) (sv_of (se_c _))) (sv_of (se_op os_pow (se_op os_add (se_var 3) (sv_of (se_c _))) (sv_of (se_c _))))) (sv_of (se_op os_mul (se_c _) (sv_of (se_var 3))))))
      (ss_ret (se_op os_mod (se_op os_div (se_op os_mod (se_op os_pow (se_op os_mod (se_var 4) (sv_of (se_c _))) (sv_of (se_c _))) (sv_of (se_c _))) (sv_of (se_c _))) (sv_of (se_var 1)))))))))) h).2⟩
/-! _law_classes -/
abbrev s_law_classes : Stmt := top 13
def N_law_classes : List Str := ["_law_e", "_law_some", "_law_k"]
theorem sc_law_classes : FnScope N_law_classes ["_law_e"] (defScope s_law_classes) := ⟨rfl, rfl, rfl, by decide +kernel, rfl, by decide +kernel, by decide +kernel⟩
noncomputable def m_law_classes_p1 (cModeError : Addr) (cNoBook : Addr) (cNoDeed : Addr) (cNoGuard : Addr) (cNoPart : Addr) (cNoRow : Addr) (cNoText : Addr) (cTooMany : Addr) (cUnlike : Addr) : Mo Bool := (xT (xOp dIx (xVar 1) (xVar 2)))
noncomputable def m_law_classes_p2 (cModeError : Addr) (cNoBook : Addr) (cNoDeed : Addr) (cNoGuard : Addr) (cNoPart : Addr) (cNoRow : Addr) (cNoText : Addr) (cTooMany : Addr) (cUnlike : Addr) : Mo D := (xVar 2)
noncomputable def m_law_classes (cModeError : Addr) (cNoBook : Addr) (cNoDeed : Addr) (cNoGuard : Addr) (cNoPart : Addr) (cNoRow : Addr) (cNoText : Addr) (cTooMany : Addr) (cUnlike : Addr) : MS := (mSeq (mSet 1 (xLst (lCons (xCb (dIsi (isT cModeError cNoBook cNoDeed cNoGuard cNoPart cNoRow cNoText cTooMany cUnlike)) (lCons (xVar 0) (lCons (xC (V.ref cNoBook)) lNil))) (lCons (xCb (dIsi (isT cModeError cNoBook cNoDeed cNoGuard cNoPart cNoRow cNoText cTooMany cUnlike)) (lCons (xVar 0) (lCons (xC (V.ref cNoDeed)) lNil))) (lCons (xCb (dIsi (isT cModeError cNoBook cNoDeed cNoGuard cNoPart cNoRow cNoText cTooMany cUnlike)) (lCons (xVar 0) (lCons (xC (V.ref cNoGuard)) lNil))) (lCons (xCb (dIsi (isT cModeError cNoBook cNoDeed cNoGuard cNoPart cNoRow cNoText cTooMany cUnlike)) (lCons (xVar 0) (lCons (xC (V.ref cNoPart)) lNil))) lNil))))))
      (mSeq (mSet 1 (xOp dAdd (xVar 1) (xLst (lCons (xCb (dIsi (isT cModeError cNoBook cNoDeed cNoGuard cNoPart cNoRow cNoText cTooMany cUnlike)) (lCons (xVar 0) (lCons (xC (V.ref cNoRow)) lNil))) (lCons (xCb (dIsi (isT cModeError cNoBook cNoDeed cNoGuard cNoPart cNoRow cNoText cTooMany cUnlike)) (lCons (xVar 0) (lCons (xC (V.ref cNoText)) lNil))) (lCons (xCb (dIsi (isT cModeError cNoBook cNoDeed cNoGuard cNoPart cNoRow cNoText cTooMany cUnlike)) (lCons (xVar 0) (lCons (xC (V.ref cTooMany)) lNil))) (lCons (xCb (dIsi (isT cModeError cNoBook cNoDeed cNoGuard cNoPart cNoRow cNoText cTooMany cUnlike)) (lCons (xVar 0) (lCons (xC (V.ref cUnlike)) lNil))) lNil)))))))
      (mRet (rBind (lCons (xC (V.int (8))) lNil) fun d => rBind (asR1 d) (lcRun (gN 2) (m_law_classes_p1 cModeError cNoBook cNoDeed cNoGuard cNoPart cNoRow cNoText cTooMany cUnlike) (m_law_classes_p2 cModeError cNoBook cNoDeed cNoGuard cNoPart cNoRow cNoText cTooMany cUnlike) [2])))))
noncomputable def law_classes (cModeError : Addr) (cNoBook : Addr) (cNoDeed : Addr) (cNoGuard : Addr) (cNoPart : Addr) (cNoRow : Addr) (cNoText : Addr) (cTooMany : Addr) (cUnlike : Addr) : List O → Option Res := runD0 1 3 [] (m_law_classes cModeError cNoBook cNoDeed cNoGuard cNoPart cNoRow cNoText cTooMany cUnlike)
theorem ok_law_classes {f : Addr} {fd : FuncData} (F : FnP K "_law_classes" "_law_classes" s_law_classes f fd) (T : Tx K mg cModeError cNoBook cNoDeed cNoGuard cNoPart cNoRow cNoText cTooMany cUnlike fE)  : FnOk P w K mg base CX0 1 f fd ["_law_e"] (spD K (law_classes cModeError cNoBook cNoDeed cNoGuard cNoPart cNoRow cNoText cTooMany cUnlike)) := by
  refine F.ok sc_law_classes (fun vs H Q E h => ?_) (fun cdv A outer s H vs Q E hr h => ?_)
  · obtain ⟨s0, os, res, R, _, hσ, hρ, hF, _⟩ := h
    exact len_of R hσ hρ hF
  · refine ⟨_, PSs.nox (pss_cons (ps_set (i := 1) sc_law_classes.nd rfl (by first | exact Or.inl rfl | exact Or.inr rfl) (pe_lst (pa_cons (pe_callB call_isA (by rfl) T.b_isinstance (by decide +kernel) (pa_cons (pv 0) (pa_cons (pe_glob (v := V.ref cNoBook) (by rfl) T.g_NoBook rfl) pa_nil))) (pa_cons (pe_callB call_isA (by rfl) T.b_isinstance (by decide +kernel) (pa_cons (pv 0) (pa_cons (pe_glob (v := V.ref cNoDeed) (by rfl) T.g_NoDeed rfl) pa_nil))) (pa_cons (pe_callB call_isA (by rfl) T.b_isinstance (by decide +kernel) (pa_cons (pv 0) (pa_cons (pe_glob (v := V.ref cNoGuard) (by rfl) T.g_NoGuard rfl) pa_nil))) (pa_cons (pe_callB call_isA (by rfl) T.b_isinstance (by decide +kernel) (pa_cons (pv 0) (pa_cons (pe_glob (v := V.ref cNoPart) (by rfl) T.g_NoPart rfl) pa_nil))) pa_nil))))))
      (pss_cons (ps_set (i := 1) sc_law_classes.nd rfl (by first | exact Or.inl rfl | exact Or.inr rfl) (pe_op op_addU (pv 1) (pe_lst (pa_cons (pe_callB call_isA (by rfl) T.b_isinstance (by decide +kernel) (pa_cons (pv 0) (pa_cons (pe_glob (v := V.ref cNoRow) (by rfl) T.g_NoRow rfl) pa_nil))) (pa_cons (pe_callB call_isA (by rfl) T.b_isinstance (by decide +kernel) (pa_cons (pv 0) (pa_cons (pe_glob (v := V.ref cNoText) (by rfl) T.g_NoText rfl) pa_nil))) (pa_cons (pe_callB call_isA (by rfl) T.b_isinstance (by decide +kernel) (pa_cons (pv 0) (pa_cons (pe_glob (v := V.ref cTooMany) (by rfl) T.g_TooMany rfl) pa_nil))) (pa_cons (pe_callB call_isA (by rfl) T.b_isinstance (by decide +kernel) (pa_cons (pv 0) (pa_cons (pe_glob (v := V.ref cUnlike) (by rfl) T.g_Unlike rfl) pa_nil))) pa_nil)))))))
      (pss_one (ps_ret (pe_lc (own := [("_law_k", 2)]) rfl sc_law_classes.nd (pi_range1 (by rfl) T.b_range (pa_cons pe_int pa_nil)) (blkOk_by (by kernel_rfl)) (fun _ _ _ _ _ => (pg_name (i := 2) sc_law_classes.nd rfl (by first | exact Or.inl rfl | exact Or.inr rfl))) (fun _ _ _ _ _ => (pts_one (pt_val (pe_ix (ix_all (hu_of hr)) (pv 1) (pv 2) (fun _ _ => rfl))))) (fun _ _ _ _ _ => (pv 2))))))), (runD0_ok (N := N_law_classes) (by decide) (show SimS K E0 [] _ (m_law_classes cModeError cNoBook cNoDeed cNoGuard cNoPart cNoRow cNoText cTooMany cUnlike) from (ss_seq (ss_set (by decide) (se_lst (sl_cons (se_cb (cl_isi T.is_ok) (sl_cons (se_var 0) (sl_cons (se_c (V.ref cNoBook)) sl_nil))) (sl_cons (se_cb (cl_isi T.is_ok) (sl_cons (se_var 0) (sl_cons (se_c (V.ref cNoDeed)) sl_nil))) (sl_cons (se_cb (cl_isi T.is_ok) (sl_cons (se_var 0) (sl_cons (se_c (V.ref cNoGuard)) sl_nil))) (sl_cons (se_cb (cl_isi T.is_ok) (sl_cons (se_var 0) (sl_cons (se_c (V.ref cNoPart)) sl_nil))) sl_nil))))))
      (ss_seq (ss_set (by decide) (se_op os_add (se_var 1) (sv_of (se_lst (sl_cons (se_cb (cl_isi T.is_ok) (sl_cons (se_var 0) (sl_cons (se_c (V.ref cNoRow)) sl_nil))) (sl_cons (se_cb (cl_isi T.is_ok) (sl_cons (se_var 0) (sl_cons (se_c (V.ref cNoText)) sl_nil))) (sl_cons (se_cb (cl_isi T.is_ok) (sl_cons (se_var 0) (sl_cons (se_c (V.ref cTooMany)) sl_nil))) (sl_cons (se_cb (cl_isi T.is_ok) (sl_cons (se_var 0) (sl_cons (se_c (V.ref cUnlike)) sl_nil))) sl_nil))))))))
      (ss_ret (se_lcR1 (sl_cons (se_c _) sl_nil) sg_name (st_B (se_op os_ix (se_var 1) (sv_of (se_var 2)))) (se_var 2) (by decide) (by decide)))))) h).2⟩
/-! law -/
abbrev s_law : Stmt := top 14
def N_law : List Str := ["_law_script", "_law_deck_here", "_law_number", "_law_what", "_law_some", "_law_k"]
theorem sc_law : FnScope N_law ["_law_script"] (defScope s_law) := ⟨rfl, rfl, rfl, by decide +kernel, rfl, by decide +kernel, by decide +kernel⟩
noncomputable def m_law_p1 (cModeError : Addr) (cNoBook : Addr) (cNoDeed : Addr) (cNoGuard : Addr) (cNoPart : Addr) (cNoRow : Addr) (cNoText : Addr) (cTooMany : Addr) (cUnlike : Addr) : MS := (mSeq (mIf (xOr (xT (xOp dNe (xFz (xCallO (law_classes cModeError cNoBook cNoDeed cNoGuard cNoPart cNoRow cNoText cTooMany cUnlike) (aCons (xRd 4 (pIx 4 pVar (xVar 5))) aNil) [])) (xLst (lCons (xVar 5) lNil)))) (xT (xOp dNe (xUn (dXf (exCs cModeError cNoBook cNoDeed cNoGuard cNoPart cNoRow cNoText cTooMany cUnlike) "what") (xRd 4 (pIx 4 pVar (xVar 5)))) (xVar 3)))) (mRet (xC (V.bl false))) mNext)
      (mIf (xOr (xNot (xT (xCb (dIsi (isT cModeError cNoBook cNoDeed cNoGuard cNoPart cNoRow cNoText cTooMany cUnlike)) (lCons (xRd 4 (pIx 4 pVar (xVar 5))) (lCons (xC (V.ref cModeError)) lNil))))) (xNot (xT (xCb (dIsi (isT cModeError cNoBook cNoDeed cNoGuard cNoPart cNoRow cNoText cTooMany cUnlike)) (lCons (xRd 4 (pIx 4 pVar (xVar 5))) (lCons (xC (V.ty "ValueError")) lNil)))))) (mRet (xC (V.bl false))) mNext))
noncomputable def m_law_p2 (cModeError : Addr) (cNoBook : Addr) (cNoDeed : Addr) (cNoGuard : Addr) (cNoPart : Addr) (cNoRow : Addr) (cNoText : Addr) (cTooMany : Addr) (cUnlike : Addr) : MS := (mSeq (mSetO 4 (oLst (olCons (oD (xUn (dExcOf cNoBook "what") (xVar 3))) (olCons (oD (xUn (dExcOf cNoDeed "what") (xVar 3))) (olCons (oD (xUn (dExcOf cNoGuard "what") (xVar 3))) (olCons (oD (xUn (dExcOf cNoPart "what") (xVar 3))) (olCons (oD (xUn (dExcOf cNoRow "what") (xVar 3))) (olCons (oD (xUn (dExcOf cNoText "what") (xVar 3))) (olCons (oD (xUn (dExcOf cTooMany "what") (xVar 3))) olNil)))))))))
      (mSeq (mE (xMut 4 pVar isL nAppend (lCons (xUn (dExcOf cUnlike "what") (xVar 3)) lNil)) fun _ => mNext)
      (mForE (rBind (lCons (xC (V.int (8))) lNil) asR1) (gN 5) (m_law_p1 cModeError cNoBook cNoDeed cNoGuard cNoPart cNoRow cNoText cTooMany cUnlike))))
noncomputable def m_law (cModeError : Addr) (cNoBook : Addr) (cNoDeed : Addr) (cNoGuard : Addr) (cNoPart : Addr) (cNoRow : Addr) (cNoText : Addr) (cTooMany : Addr) (cUnlike : Addr) : MS := (mSeq (mSetO 1 (xCallO law_deck (aCons (xVar 0) aNil) []))
      (mSeq (mSet 2 (xFz (xCallO law_take (aRef 1 (aCons (xOp dPow (xC (V.int (10))) (xC (V.int (9)))) aNil)) [])))
      (mSeq (mForE (rBind (xLst (lCons (xVar 2) (lCons (xC (V.str "name")) (lCons (xTup (lCons (xC (V.str "press")) (lCons (xC (V.str "go")) lNil))) (lCons (xC V.non) (lCons (xC (V.str "")) lNil)))))) asL) (gN 3) (m_law_p2 cModeError cNoBook cNoDeed cNoGuard cNoPart cNoRow cNoText cTooMany cUnlike))
      (mRet (xC (V.bl true))))))
noncomputable def law (cModeError : Addr) (cNoBook : Addr) (cNoDeed : Addr) (cNoGuard : Addr) (cNoPart : Addr) (cNoRow : Addr) (cNoText : Addr) (cTooMany : Addr) (cUnlike : Addr) : List O → Option Res := runD0 1 6 [] (m_law cModeError cNoBook cNoDeed cNoGuard cNoPart cNoRow cNoText cTooMany cUnlike)
theorem ok_law {f : Addr} {fd : FuncData} (F : FnP K "law" "law" s_law f fd) (T : Tx K mg cModeError cNoBook cNoDeed cNoGuard cNoPart cNoRow cNoText cTooMany cUnlike fE) (C_law_deck : Cal P w K mg base 1 "_law_deck" ["_law_script"] law_deck) (C_law_take : Cal P w K mg base 1 "_law_take" ["_law_deck_here", "_law_many"] law_take) (C_law_classes : Cal P w K mg base 1 "_law_classes" ["_law_e"] (law_classes cModeError cNoBook cNoDeed cNoGuard cNoPart cNoRow cNoText cTooMany cUnlike)) (C_exc : ExMk P w K mg base fE "what") : FnOk P w K mg base CX0 3 f fd ["_law_script"] (spD K (law cModeError cNoBook cNoDeed cNoGuard cNoPart cNoRow cNoText cTooMany cUnlike)) := by
  obtain ⟨⟨fd_exc, G_exc, hb_exc⟩, ht_exc⟩ := C_exc
  obtain ⟨f_law_deck, fd_law_deck, hm_law_deck, hk_law_deck, G_law_deck, hb_law_deck⟩ := C_law_deck.ex
  obtain ⟨f_law_take, fd_law_take, hm_law_take, hk_law_take, G_law_take, hb_law_take⟩ := C_law_take.ex
  obtain ⟨f_law_classes, fd_law_classes, hm_law_classes, hk_law_classes, G_law_classes, hb_law_classes⟩ := C_law_classes.ex
  refine F.ok sc_law (fun vs H Q E h => ?_) (fun cdv A outer s H vs Q E hr h => ?_)
  · obtain ⟨s0, os, res, R, _, hσ, hρ, hF, _⟩ := h
    exact len_of R hσ hρ hF
  · refine ⟨_, PSs.nox (pss_cons (ps_set (i := 1) sc_law.nd rfl (by first | exact Or.inl rfl | exact Or.inr rfl) (pe_call G_law_deck (hr.mono (by decide)) (by rfl) hm_law_deck hk_law_deck hb_law_deck .nil pass0 (pa_cons (pv 0) pa_nil)))
      (pss_cons (ps_set (i := 2) sc_law.nd rfl (by first | exact Or.inl rfl | exact Or.inr rfl) (pe_call G_law_take (hr.mono (by decide)) (by rfl) hm_law_take hk_law_take hb_law_take .nil pass0 (pa_cons (pv 1) (pa_cons (pe_op op_pow pe_int pe_int) pa_nil))))
      (pss_cons (ps_for PassesOwn.never rfl (pi_list (pe_lst (pa_cons (pv 2) (pa_cons pe_str (pa_cons (pe_tup (pa_cons pe_str (pa_cons pe_str pa_nil))) (pa_cons pe_non (pa_cons pe_str pa_nil))))))) (pg_name (i := 3) sc_law.nd rfl (by first | exact Or.inl rfl | exact Or.inr rfl)) (pss_cons (ps_set (i := 4) sc_law.nd rfl (by first | exact Or.inl rfl | exact Or.inr rfl) (pe_lst (pa_cons (pe_oexV T.ex_NoBook.o T.i_NoBook ht_exc G_exc (hr.mono (by decide)) hb_exc .nil pass0 (by rfl) T.g_NoBook (pa_cons (pv 3) pa_nil)) (pa_cons (pe_oexV T.ex_NoDeed.o T.i_NoDeed ht_exc G_exc (hr.mono (by decide)) hb_exc .nil pass0 (by rfl) T.g_NoDeed (pa_cons (pv 3) pa_nil)) (pa_cons (pe_oexV T.ex_NoGuard.o T.i_NoGuard ht_exc G_exc (hr.mono (by decide)) hb_exc .nil pass0 (by rfl) T.g_NoGuard (pa_cons (pv 3) pa_nil)) (pa_cons (pe_oexV T.ex_NoPart.o T.i_NoPart ht_exc G_exc (hr.mono (by decide)) hb_exc .nil pass0 (by rfl) T.g_NoPart (pa_cons (pv 3) pa_nil)) (pa_cons (pe_oexV T.ex_NoRow.o T.i_NoRow ht_exc G_exc (hr.mono (by decide)) hb_exc .nil pass0 (by rfl) T.g_NoRow (pa_cons (pv 3) pa_nil)) (pa_cons (pe_oexV T.ex_NoText.o T.i_NoText ht_exc G_exc (hr.mono (by decide)) hb_exc .nil pass0 (by rfl) T.g_NoText (pa_cons (pv 3) pa_nil)) (pa_cons (pe_oexV T.ex_TooMany.o T.i_TooMany ht_exc G_exc (hr.mono (by decide)) hb_exc .nil pass0 (by rfl) T.g_TooMany (pa_cons (pv 3) pa_nil)) pa_nil)))))))))
      (pss_cons (ps_expr (pe_bm PySem.F.plainAttrs_list PySem.F.slot_list_append PySem.F.type_list_append mt_append (pv 4) (pa_cons (pe_oexV T.ex_Unlike.o T.i_Unlike ht_exc G_exc (hr.mono (by decide)) hb_exc .nil pass0 (by rfl) T.g_Unlike (pa_cons (pv 3) pa_nil)) pa_nil)))
      (pss_one (ps_for PassesOwn.never rfl (pi_range1 (by rfl) T.b_range (pa_cons pe_int pa_nil)) (pg_name (i := 5) sc_law.nd rfl (by first | exact Or.inl rfl | exact Or.inr rfl)) (pss_cons (ps_if (PW.pt (pw_or (pt_cmpR (op_neD (hr.units)) (pe_call G_law_classes (hr.mono (by decide)) (by rfl) hm_law_classes hk_law_classes hb_law_classes .nil pass0 (pa_cons (pe_ix (ix_all (hu_of hr)) (pv 4) (pv 5) (fun _ _ => rfl)) pa_nil)) (pe_lst (pa_cons (pv 5) pa_nil)) (nomark _)) (pw_or1 (pt_cmpR (op_neD (hr.units)) (pe_xfV (pe_ix (ix_all (hu_of hr)) (pv 4) (pv 5) (fun _ _ => rfl))) (pv 3) (nomark _))))) (pss_one (ps_ret pe_bl)) pss_nil)
      (pss_one (ps_if (PW.pt (pw_or (pt_not (pt_val (pe_callB call_isA (by rfl) T.b_isinstance (by decide +kernel) (pa_cons (pe_ix (ix_all (hu_of hr)) (pv 4) (pv 5) (fun _ _ => rfl)) (pa_cons (pe_glob (v := V.ref cModeError) (by rfl) T.g_ModeError rfl) pa_nil))))) (pw_or1 (pt_not (pt_val (pe_callB call_isA (by rfl) T.b_isinstance (by decide +kernel) (pa_cons (pe_ix (ix_all (hu_of hr)) (pv 4) (pv 5) (fun _ _ => rfl)) (pa_cons (pe_bltn (v := V.ty "ValueError") (by rfl) T.b_ValueError (by decide +kernel) rfl) pa_nil)))))))) (pss_one (ps_ret pe_bl)) pss_nil))))))))
      (pss_one (ps_ret pe_bl))))), (runD0_ok (N := N_law) (by decide) (show SimS K E0 [] _ (m_law cModeError cNoBook cNoDeed cNoGuard cNoPart cNoRow cNoText cTooMany cUnlike) from (ss_seq (ss_setO (by decide) (so_call (sa_cons (se_var 0) sa_nil) (by decide) (fun _ => FrL.nil)))
      (ss_seq (ss_set (by decide) (se_fz (so_call (sa_ref (sa_cons (se_op os_pow (se_c _) (sv_of (se_c _))) sa_nil)) (by decide) (fun _ => FrL.nil))))
      (ss_seq (ss_forL (se_lst (sl_cons (se_var 2) (sl_cons (se_c _) (sl_cons (se_tup (sl_cons (se_c _) (sl_cons (se_c _) sl_nil))) (sl_cons (se_c _) (sl_cons (se_c _) sl_nil)))))) sg_name (by decide) (ss_seq (ss_setO (by decide) (so_lst (sol_cons (so_of (se_exc T.ex_NoBook (sv_of (se_var 3)))) (sol_cons (so_of (se_exc T.ex_NoDeed (sv_of (se_var 3)))) (sol_cons (so_of (se_exc T.ex_NoGuard (sv_of (se_var 3)))) (sol_cons (so_of (se_exc T.ex_NoPart (sv_of (se_var 3)))) (sol_cons (so_of (se_exc T.ex_NoRow (sv_of (se_var 3)))) (sol_cons (so_of (se_exc T.ex_NoText (sv_of (se_var 3)))) (sol_cons (so_of (se_exc T.ex_TooMany (sv_of (se_var 3)))) sol_nil)))))))))
      (ss_seq (ss_drop (se_mut mu_append ty_list (by decide) (sb_var 4) (sl_cons (se_exc T.ex_Unlike (sv_of (se_var 3))) sl_nil)))
      (ss_forR1 (sl_cons (se_c _) sl_nil) sg_name (by decide) (ss_seq (ss_if (st_or (st_test (se_op os_ne (se_fz (so_call (sa_cons (se_rd (sb_ix (sb_var 4) (se_var 5))) sa_nil) (by decide) (fun _ => FrL.nil))) (sv_of (se_lst (sl_cons (se_var 5) sl_nil))))) (st_test (se_op os_ne (se_xf T.exl (se_rd (sb_ix (sb_var 4) (se_var 5)))) (sv_of (se_var 3))))) (ss_ret (se_c _)) ss_next)
      (ss_if (st_or (st_not (st_B (se_cb (cl_isi T.is_ok) (sl_cons (se_rd (sb_ix (sb_var 4) (se_var 5))) (sl_cons (se_c (V.ref cModeError)) sl_nil))))) (st_not (st_B (se_cb (cl_isi T.is_ok) (sl_cons (se_rd (sb_ix (sb_var 4) (se_var 5))) (sl_cons (se_c (V.ty "ValueError")) sl_nil)))))) (ss_ret (se_c _)) ss_next))))))
      (ss_ret (se_c _)))))) h).2⟩
end
end Mo
namespace Mo
open PySem PySem.Spec PyProof.Rows L2 Dat DatE
abbrev oI (i : Int) : O := .d (.v (.int i))
def deckO (g : List Int) (f k : Int) : O := .lst [.lst (g.map oI), oI f, oI k]
theorem deck_loop (ns0 : List Int) : ∀ (ns g : List Int) (f : Int) (c : Option O), g.length + ns.length ≤ 1000 → 0 ≤ f → f < 2305843009213693951 → (∀ x ∈ g, 0 ≤ x) →
   ∃ (g' : List Int) (f' : Int) (c' : Option O), mFor (gN 3) m_law_deck_p1 (ns.map fun n => .v (.int n)) [some (.d (.scr ns0)), some (.lst (g.map oI)), some (oI f), c] =
     some (.nx, [some (.d (.scr ns0)), some (.lst (g'.map oI)), some (oI f'), c']) ∧ g'.length ≤ g.length + ns.length ∧ 0 ≤ f' ∧ f' < 2305843009213693951 ∧ (∀ x ∈ g', 0 ≤ x) := by
  intro ns
  induction ns with
  | nil => intro g f c _ h0 h1 h2; exact ⟨g, f, c, rfl, by simp, h0, h1, h2⟩
  | cons n ns ih =>
    intro g f c hl h0 h1 h2
    have hf : 0 ≤ (f * 1000003 + n) % 2305843009213693951 := Int.emod_nonneg _ (by decide)
    have hf2 : (f * 1000003 + n) % 2305843009213693951 < 2305843009213693951 := Int.emod_lt_of_pos _ (by decide)
    have hz : g.length < sizeLine := by rw [sizeLine_eq]; simp at hl; omega
    by_cases hc : (1000000000000000000 : Int) ≤ (if n < 0 then -n else n)
    · obtain ⟨g', f', c', e, r1, r2, r3, r4⟩ := ih (((if n < 0 then -n else n) - 1000000000000000000) :: g) _ (some (oI n)) (by simp at hl ⊢; omega) hf hf2 (fun x hx => by
        rcases List.mem_cons.mp hx with rfl | hx
        · omega
        · exact h2 x hx)
      refine ⟨g', f', c', ?_, by simp at r1 ⊢; omega, r2, r3, r4⟩
      rw [← e]
      simp [mFor, gN, m_law_deck_p1, mSeq, mSet, mE, xOp, rBind, rOpt, xVar, xC, rPure, mPut, dMod, dMul, dI2, dAdd, dAddS, mIf, xT, asB, dGe, xUn, dAbs, dPow, xMut, pVar, isL, nInsert, lCons, lNil, dSub, hc, mNext, O.get, O.put, hz]
    · obtain ⟨g', f', c', e, r1, r2, r3, r4⟩ := ih g _ (some (oI n)) (by simp at hl ⊢; omega) hf hf2 h2
      refine ⟨g', f', c', ?_, by simp at r1 ⊢; omega, r2, r3, r4⟩
      rw [← e]
      simp [mFor, gN, m_law_deck_p1, mSeq, mSet, mE, xOp, rBind, rOpt, xVar, xC, rPure, mPut, dMod, dMul, dI2, dAdd, dAddS, mIf, xT, asB, dGe, xUn, dAbs, dPow, xMut, pVar, isL, nInsert, lCons, lNil, dSub, hc, mNext, O.get, O.put, hz]
theorem deck_ok (ns : List Int) (hl : ns.length ≤ 63) : ∃ (g : List Int) (f : Int), law_deck [.d (.scr ns)] = some (.ret (deckO g f 0) [.d (.scr ns)]) ∧ 0 ≤ f ∧ f < 2305843009213693951 ∧ g.length ≤ ns.length ∧ ∀ x ∈ g, 0 ≤ x := by
  obtain ⟨g, f, c, e, h1, h2, h3, h4⟩ := deck_loop ns ns [] 11 none (by simp; omega) (by decide) (by decide) (by simp)
  refine ⟨g, f, ?_, h2, h3, by simpa using h1, h4⟩
  unfold law_deck runD0
  rw [if_pos ⟨rfl, rfl⟩]
  have e1 : m_law_deck ([O.d (.scr ns)].map some ++ List.replicate (4 - 1) none) = some (.ret (deckO g f 0), [some (.d (.scr ns)), none, some (oI f), c]) := by
    have z : List.map oI ([] : List Int) = [] := rfl
    rw [z] at e
    simp [m_law_deck, mSeq, mSetO, mE, oLst, olNil, rBind, rPure, mPut, mSet, xC, mForE, xVar, asS, sizeLine_eq, e, oMv, oD, mRetO, olCons, deckO]
  rw [e1]
  rfl
theorem eqv_nil_cons (p : PyData) (ps : List PyData) : PyData.eqv (.list (p :: ps)) (.list []) = false := by simp [PyData.eqv, PyData.eqvAll]
theorem pdL_int : ∀ g : List Int, D.pdL (O.toDL (g.map oI)) = some (g.map PyData.int)
  | [] => rfl
  | x :: g => by
    show (D.pd (.v (.int x))).bind _ = _
    rw [show D.pd (.v (.int x)) = some (.int x) from by unfold D.pd; rfl]
    show (D.pdL (O.toDL (g.map oI))).map _ = _
    rw [pdL_int g]; rfl
theorem lay_int : ∀ g : List Int, PyData.canLayAll0 (g.map PyData.int) = true
  | [] => by unfold PyData.canLayAll0; rfl
  | x :: g => by
    show PyData.canLayAll0 (.int x :: g.map PyData.int) = true
    unfold PyData.canLayAll0
    rw [lay_int g]
    unfold PyData.canLay0
    rfl
theorem allD_int : ∀ g : List Int, O.allD (g.map oI) = true
  | [] => rfl
  | x :: g => allD_int g
theorem depthAll_int : ∀ g : List Int, PyData.depthAll (g.map PyData.int) ≤ 1
  | [] => by unfold List.map PyData.depthAll; omega
  | x :: g => by
    show PyData.depthAll (.int x :: g.map PyData.int) ≤ 1
    have := depthAll_int g
    unfold PyData.depthAll
    have h : PyData.depth (.int x) ≤ 1 := by unfold PyData.depth; omega
    omega
theorem shaped_int (g : List Int) : SeqAt.shaped (.list (g.map PyData.int)) = true := by
  have h1 : PyData.canLay0 (.list (g.map PyData.int)) = true := by unfold PyData.canLay0; exact lay_int g
  have h2 : PyData.depth (.list (g.map PyData.int)) ≤ 64 := by
    have := depthAll_int g
    unfold PyData.depth; omega
  unfold SeqAt.shaped
  rw [h1, decide_eq_true h2]; rfl
theorem pd_lst (ds : List D) : D.pd (.lst ds) = (D.pdL ds).map .list := by rw [D.pd]
theorem ne_nil_int (g : List Int) : dNe (.lst (O.toDL (g.map oI))) (.lst []) = some (.v (.bl (decide (g ≠ [])))) := by
  have h0 : SeqAt.shaped (.list []) = true := shaped_int []
  have e0 : D.pdL [] = some [] := by unfold D.pdL; rfl
  unfold dNe dEqB
  rw [pd_lst, pd_lst, pdL_int, e0]
  simp only [Option.map_some, shaped_int, h0, Bool.and_self, if_true]
  cases g with
  | nil => simp [PyData.eqv, PyData.eqvAll]
  | cons x g => simp [PyData.eqv, PyData.eqvAll]
theorem ix30 : ixN 3 0 = some 0 := rfl
theorem ix31 : ixN 3 1 = some 1 := rfl
theorem ix32 : ixN 3 2 = some 2 := rfl
theorem ixL (n : Nat) : ixN (n + 1) (-1) = some n := by unfold ixN; rw [if_neg (by decide), if_pos (by omega)]; congr 1; omega
theorem cond_ok (f k : Int) (a b c d : Option O) (g : List Int) : m_law_take_p1 [some (deckO g f k), a, b, c, d] = some (.ok (match g.getLast? with | some x => decide (x < 2) | none => false), [some (deckO g f k), a, b, c, d]) := by
  have hn := ne_nil_int g
  rcases List.eq_nil_or_concat g with rfl | ⟨i, x, rfl⟩
  · have hn : dNe (.lst []) (.lst []) = some (.v (.bl false)) := hn
    simp [m_law_take_p1, xAnd, xT, xOp, xView, xLst, pIx, pVar, xC, rBind, rPure, rOpt, deckO, O.get, O.kidAt, O.kids, ix30, ix31, ix32, ixL, seqIndex?, O.view, O.allD, O.toDL, lNil, asB, hn]
  · have e : ixN (i.length + 1) (-1) = some i.length := by unfold ixN; rw [if_neg (by decide), if_pos (by omega)]; congr 1; omega
    have ha : O.allD (List.map oI i ++ [oI x]) = true := by have := allD_int (i ++ [x]); simpa using this
    simp at hn
    simp [m_law_take_p1, xAnd, xT, xOp, xView, xLst, pIx, pVar, xC, rBind, rPure, rOpt, deckO, O.get, O.kidAt, O.kids, ix30, ix31, ix32, ixL, O.view, ha, lNil, asB, hn, xRd, xUn, dNeg, dLt, dI2]
theorem body_ok (f k : Int) (a b c d : Option O) (g : List Int) (h : g ≠ []) : m_law_take_p2 [some (deckO g f k), a, b, c, d] = some (.nx, [some (deckO g.dropLast f k), a, b, c, d]) := by
  rcases List.eq_nil_or_concat g with rfl | ⟨i, x, rfl⟩
  · exact absurd rfl h
  · simp [m_law_take_p2, mE, xMut, pIx, pVar, xC, rPure, deckO, O.get, O.kidAt, O.kids, ix30, ix31, ix32, ixL, isL, nPop, lNil, rBind, O.dat, O.put, O.setKid, mNext]
theorem while_ok (f k : Int) (a b c d : Option O) : ∀ (n : Nat) (g : List Int), g.length ≤ n → (∀ x ∈ g, 0 ≤ x) → ∃ g' : List Int, mWhile m_law_take_p1 m_law_take_p2 (n + 1) [some (deckO g f k), a, b, c, d] = some (.nx, [some (deckO g' f k), a, b, c, d]) ∧
    g'.length ≤ g.length ∧ (∀ x ∈ g', 0 ≤ x) ∧ (g' = [] ∨ ∃ i x, g' = i ++ [x] ∧ 2 ≤ x) := by
  intro n
  induction n with
  | zero =>
    intro g h hg
    have : g = [] := List.eq_nil_of_length_eq_zero (by omega)
    subst this
    refine ⟨[], ?_, by simp, by simp, .inl rfl⟩
    unfold mWhile
    rw [cond_ok]
    rfl
  | succ n ih =>
    intro g h hg
    unfold mWhile
    rw [cond_ok]
    rcases List.eq_nil_or_concat g with rfl | ⟨i, x, rfl⟩
    · exact ⟨[], rfl, by simp, by simp, .inl rfl⟩
    · by_cases hx : x < 2
      · obtain ⟨g', e, h1, h2, h3⟩ := ih i (by simp at h; omega) (fun y hy => hg y (by simp [hy]))
        refine ⟨g', ?_, by simp; omega, h2, h3⟩
        simp [hx, body_ok]
        exact e
      · refine ⟨i ++ [x], ?_, by simp, by simpa using hg, .inr ⟨i, x, rfl, by omega⟩⟩
        simp [hx]
theorem take_ok (g : List Int) (f k n : Int) (hf : 0 ≤ f) (hf2 : f < 2305843009213693951) (hk : 0 ≤ k) (hk2 : k < 1000000000) (hn : 0 < n) (hn2 : n < 1073741824) (hg : ∀ x ∈ g, 0 ≤ x) :
    ∃ (g' : List Int) (k' r : Int), law_take [deckO g f k, oI n] = some (.ret (oI r) [deckO g' f k', oI n]) ∧ 0 ≤ r ∧ r < n ∧ g'.length ≤ g.length ∧ (∀ x ∈ g', 0 ≤ x) ∧ k ≤ k' ∧ k' ≤ k + 1 := by
  obtain ⟨g', e, h1, h2, h3⟩ := while_ok f k (some (oI n)) none none none g.length g (Nat.le_refl _) hg
  have ew := mWhileX_of e
  have hn' := ne_nil_int g'
  rcases h3 with rfl | ⟨i, x, rfl, hx⟩
  · have hn' : dNe (.lst []) (.lst []) = some (.v (.bl false)) := hn'
    let r : Int := (((f + 40503) * (k + 1 + 5) ^ 3 + 69621 * (k + 1)) % 2305843009213693951) ^ 3 % 1000000007 / 64 % n
    refine ⟨[], k + 1, r, ?_, Int.emod_nonneg _ (by omega), Int.emod_lt_of_pos _ hn, by simp, by simp, by omega, by omega⟩
    unfold law_take runD0
    rw [if_pos ⟨rfl, rfl⟩]
    have q1 : (f + 40503) < 18446744073709551616 := by omega
    have q2 : -18446744073709551616 < (f + 40503) := by omega
    have q3 : (k + 1 + 5).natAbs < 18446744073709551616 := by omega
    have m0 := Int.emod_nonneg ((f + 40503) * (k + 1 + 5) ^ 3 + 69621 * (k + 1)) (show (2305843009213693951 : Int) ≠ 0 by decide)
    have m1 := Int.emod_lt_of_pos ((f + 40503) * (k + 1 + 5) ^ 3 + 69621 * (k + 1)) (show (0 : Int) < 2305843009213693951 by decide)
    have q4 : (((f + 40503) * (k + 1 + 5) ^ 3 + 69621 * (k + 1)) % 2305843009213693951).natAbs < 18446744073709551616 := by omega
    have e1 : m_law_take ([deckO g f k, oI n].map some ++ List.replicate (5 - 2) none) = some (.ret (oI r), [some (deckO [] f (k + 1)), some (oI n), none, some (oI (k + 1)), some (oI ((f + 40503) * (k + 1 + 5) ^ 3 + 69621 * (k + 1)))]) := by
      simp [deckO] at ew
      simp [m_law_take, mSeq, deckO, ew, mIf, xT, xOp, xView, xLst, pIx, pVar, xC, rBind, rPure, rOpt, O.get, O.kidAt, O.kids, ix30, ix31, ix32, ixL, O.view, O.allD, O.toDL, lNil, asB, hn', mE, mNext, mStore, oD, xRd, dAdd, dAddS, dI2, nSetI, O.put, O.setKid, mSet, mPut, dMul, dPow, dMod, dDiv, xVar, mRet, q1, q2, q3, q4, hn, hn2]
      rfl
    rw [e1]
    rfl
  · let r : Int := x % n
    have hx0 : 0 ≤ x := by omega
    refine ⟨i ++ [x / n], k, r, ?_, Int.emod_nonneg _ (by omega), Int.emod_lt_of_pos _ hn, by simpa using h1, ?_, by omega, by omega⟩
    · unfold law_take runD0
      rw [if_pos ⟨rfl, rfl⟩]
      have e1 : m_law_take ([deckO g f k, oI n].map some ++ List.replicate (5 - 2) none) = some (.ret (oI r), [some (deckO (i ++ [x / n]) f k), some (oI n), some (oI r), none, none]) := by
        have ha : O.allD (List.map oI i ++ [oI x]) = true := by have := allD_int (i ++ [x]); simpa using this
        simp at hn'
        simp [deckO] at ew
        simp [m_law_take, mSeq, deckO, ew, mIf, xT, xOp, xView, xLst, pIx, pVar, xC, rBind, rPure, rOpt, O.get, O.kidAt, O.kids, ix30, ix31, ix32, ixL, O.view, ha, lNil, asB, hn', mE, mNext, mStore, oD, xRd, xUn, dNeg, nSetI, O.put, O.setKid, mSet, mPut, dI2, dMod, dDiv, xVar, mRet, hn, hn2]
        rfl
      rw [e1]
      rfl
    · intro y hy
      rcases List.mem_append.mp hy with hy | hy
      · exact h2 y (by simp [hy])
      · rw [List.mem_singleton.mp hy]
        exact Int.ediv_nonneg hx0 (by omega)
end Mo
namespace Mo
open PySem PySem.Spec PyProof.Rows L2 Dat DatE
section
variable {cModeError cNoBook cNoDeed cNoGuard cNoPart cNoRow cNoText cTooMany cUnlike : Addr}
theorem look_eq {T : IsTab} {e : D} {v : V} {t u : Cl} {b : Bool} (h1 : clD e = some t) (h2 : clV v = some u) (h : T.look t u = some b) : dIsi T [e, .v v] = some (.v (.bl b)) := by
  simp [dIsi, h1, h2, h]
theorem lk_NoBook_ModeError (nd : (exCs cModeError cNoBook cNoDeed cNoGuard cNoPart cNoRow cNoText cTooMany cUnlike).Nodup) : (isT cModeError cNoBook cNoDeed cNoGuard cNoPart cNoRow cNoText cTooMany cUnlike).look (.own cNoBook) (.own cModeError) = some true := by
  simp only [exCs, List.nodup_cons, List.mem_cons, not_or, List.not_mem_nil, not_false_eq_true, List.nodup_nil, and_true] at nd
  simp [IsTab.look, isT, nd, Ne.symm, eq_comm]
theorem lk_NoBook_NoBook (nd : (exCs cModeError cNoBook cNoDeed cNoGuard cNoPart cNoRow cNoText cTooMany cUnlike).Nodup) : (isT cModeError cNoBook cNoDeed cNoGuard cNoPart cNoRow cNoText cTooMany cUnlike).look (.own cNoBook) (.own cNoBook) = some true := by
  simp only [exCs, List.nodup_cons, List.mem_cons, not_or, List.not_mem_nil, not_false_eq_true, List.nodup_nil, and_true] at nd
  simp [IsTab.look, isT, nd, Ne.symm, eq_comm]
theorem lk_NoBook_NoDeed (nd : (exCs cModeError cNoBook cNoDeed cNoGuard cNoPart cNoRow cNoText cTooMany cUnlike).Nodup) : (isT cModeError cNoBook cNoDeed cNoGuard cNoPart cNoRow cNoText cTooMany cUnlike).look (.own cNoBook) (.own cNoDeed) = some false := by
  simp only [exCs, List.nodup_cons, List.mem_cons, not_or, List.not_mem_nil, not_false_eq_true, List.nodup_nil, and_true] at nd
  simp [IsTab.look, isT, nd, Ne.symm, eq_comm]
theorem lk_NoBook_NoGuard (nd : (exCs cModeError cNoBook cNoDeed cNoGuard cNoPart cNoRow cNoText cTooMany cUnlike).Nodup) : (isT cModeError cNoBook cNoDeed cNoGuard cNoPart cNoRow cNoText cTooMany cUnlike).look (.own cNoBook) (.own cNoGuard) = some false := by
  simp only [exCs, List.nodup_cons, List.mem_cons, not_or, List.not_mem_nil, not_false_eq_true, List.nodup_nil, and_true] at nd
  simp [IsTab.look, isT, nd, Ne.symm, eq_comm]
theorem lk_NoBook_NoPart (nd : (exCs cModeError cNoBook cNoDeed cNoGuard cNoPart cNoRow cNoText cTooMany cUnlike).Nodup) : (isT cModeError cNoBook cNoDeed cNoGuard cNoPart cNoRow cNoText cTooMany cUnlike).look (.own cNoBook) (.own cNoPart) = some false := by
  simp only [exCs, List.nodup_cons, List.mem_cons, not_or, List.not_mem_nil, not_false_eq_true, List.nodup_nil, and_true] at nd
  simp [IsTab.look, isT, nd, Ne.symm, eq_comm]
theorem lk_NoBook_NoRow (nd : (exCs cModeError cNoBook cNoDeed cNoGuard cNoPart cNoRow cNoText cTooMany cUnlike).Nodup) : (isT cModeError cNoBook cNoDeed cNoGuard cNoPart cNoRow cNoText cTooMany cUnlike).look (.own cNoBook) (.own cNoRow) = some false := by
  simp only [exCs, List.nodup_cons, List.mem_cons, not_or, List.not_mem_nil, not_false_eq_true, List.nodup_nil, and_true] at nd
  simp [IsTab.look, isT, nd, Ne.symm, eq_comm]
theorem lk_NoBook_NoText (nd : (exCs cModeError cNoBook cNoDeed cNoGuard cNoPart cNoRow cNoText cTooMany cUnlike).Nodup) : (isT cModeError cNoBook cNoDeed cNoGuard cNoPart cNoRow cNoText cTooMany cUnlike).look (.own cNoBook) (.own cNoText) = some false := by
  simp only [exCs, List.nodup_cons, List.mem_cons, not_or, List.not_mem_nil, not_false_eq_true, List.nodup_nil, and_true] at nd
  simp [IsTab.look, isT, nd, Ne.symm, eq_comm]
theorem lk_NoBook_TooMany (nd : (exCs cModeError cNoBook cNoDeed cNoGuard cNoPart cNoRow cNoText cTooMany cUnlike).Nodup) : (isT cModeError cNoBook cNoDeed cNoGuard cNoPart cNoRow cNoText cTooMany cUnlike).look (.own cNoBook) (.own cTooMany) = some false := by
  simp only [exCs, List.nodup_cons, List.mem_cons, not_or, List.not_mem_nil, not_false_eq_true, List.nodup_nil, and_true] at nd
  simp [IsTab.look, isT, nd, Ne.symm, eq_comm]
theorem lk_NoBook_Unlike (nd : (exCs cModeError cNoBook cNoDeed cNoGuard cNoPart cNoRow cNoText cTooMany cUnlike).Nodup) : (isT cModeError cNoBook cNoDeed cNoGuard cNoPart cNoRow cNoText cTooMany cUnlike).look (.own cNoBook) (.own cUnlike) = some false := by
  simp only [exCs, List.nodup_cons, List.mem_cons, not_or, List.not_mem_nil, not_false_eq_true, List.nodup_nil, and_true] at nd
  simp [IsTab.look, isT, nd, Ne.symm, eq_comm]
theorem lk_NoBook_ValueError (nd : (exCs cModeError cNoBook cNoDeed cNoGuard cNoPart cNoRow cNoText cTooMany cUnlike).Nodup) : (isT cModeError cNoBook cNoDeed cNoGuard cNoPart cNoRow cNoText cTooMany cUnlike).look (.own cNoBook) (.ty "ValueError") = some true := by
  simp only [exCs, List.nodup_cons, List.mem_cons, not_or, List.not_mem_nil, not_false_eq_true, List.nodup_nil, and_true] at nd
  simp [IsTab.look, isT, nd, Ne.symm, eq_comm]
theorem lk_NoDeed_ModeError (nd : (exCs cModeError cNoBook cNoDeed cNoGuard cNoPart cNoRow cNoText cTooMany cUnlike).Nodup) : (isT cModeError cNoBook cNoDeed cNoGuard cNoPart cNoRow cNoText cTooMany cUnlike).look (.own cNoDeed) (.own cModeError) = some true := by
  simp only [exCs, List.nodup_cons, List.mem_cons, not_or, List.not_mem_nil, not_false_eq_true, List.nodup_nil, and_true] at nd
  simp [IsTab.look, isT, nd, Ne.symm, eq_comm]
theorem lk_NoDeed_NoBook (nd : (exCs cModeError cNoBook cNoDeed cNoGuard cNoPart cNoRow cNoText cTooMany cUnlike).Nodup) : (isT cModeError cNoBook cNoDeed cNoGuard cNoPart cNoRow cNoText cTooMany cUnlike).look (.own cNoDeed) (.own cNoBook) = some false := by
  simp only [exCs, List.nodup_cons, List.mem_cons, not_or, List.not_mem_nil, not_false_eq_true, List.nodup_nil, and_true] at nd
  simp [IsTab.look, isT, nd, Ne.symm, eq_comm]
theorem lk_NoDeed_NoDeed (nd : (exCs cModeError cNoBook cNoDeed cNoGuard cNoPart cNoRow cNoText cTooMany cUnlike).Nodup) : (isT cModeError cNoBook cNoDeed cNoGuard cNoPart cNoRow cNoText cTooMany cUnlike).look (.own cNoDeed) (.own cNoDeed) = some true := by
  simp only [exCs, List.nodup_cons, List.mem_cons, not_or, List.not_mem_nil, not_false_eq_true, List.nodup_nil, and_true] at nd
  simp [IsTab.look, isT, nd, Ne.symm, eq_comm]
theorem lk_NoDeed_NoGuard (nd : (exCs cModeError cNoBook cNoDeed cNoGuard cNoPart cNoRow cNoText cTooMany cUnlike).Nodup) : (isT cModeError cNoBook cNoDeed cNoGuard cNoPart cNoRow cNoText cTooMany cUnlike).look (.own cNoDeed) (.own cNoGuard) = some false := by
  simp only [exCs, List.nodup_cons, List.mem_cons, not_or, List.not_mem_nil, not_false_eq_true, List.nodup_nil, and_true] at nd
  simp [IsTab.look, isT, nd, Ne.symm, eq_comm]
theorem lk_NoDeed_NoPart (nd : (exCs cModeError cNoBook cNoDeed cNoGuard cNoPart cNoRow cNoText cTooMany cUnlike).Nodup) : (isT cModeError cNoBook cNoDeed cNoGuard cNoPart cNoRow cNoText cTooMany cUnlike).look (.own cNoDeed) (.own cNoPart) = some false := by
  simp only [exCs, List.nodup_cons, List.mem_cons, not_or, List.not_mem_nil, not_false_eq_true, List.nodup_nil, and_true] at nd
  simp [IsTab.look, isT, nd, Ne.symm, eq_comm]
theorem lk_NoDeed_NoRow (nd : (exCs cModeError cNoBook cNoDeed cNoGuard cNoPart cNoRow cNoText cTooMany cUnlike).Nodup) : (isT cModeError cNoBook cNoDeed cNoGuard cNoPart cNoRow cNoText cTooMany cUnlike).look (.own cNoDeed) (.own cNoRow) = some false := by
  simp only [exCs, List.nodup_cons, List.mem_cons, not_or, List.not_mem_nil, not_false_eq_true, List.nodup_nil, and_true] at nd
  simp [IsTab.look, isT, nd, Ne.symm, eq_comm]
theorem lk_NoDeed_NoText (nd : (exCs cModeError cNoBook cNoDeed cNoGuard cNoPart cNoRow cNoText cTooMany cUnlike).Nodup) : (isT cModeError cNoBook cNoDeed cNoGuard cNoPart cNoRow cNoText cTooMany cUnlike).look (.own cNoDeed) (.own cNoText) = some false := by
  simp only [exCs, List.nodup_cons, List.mem_cons, not_or, List.not_mem_nil, not_false_eq_true, List.nodup_nil, and_true] at nd
  simp [IsTab.look, isT, nd, Ne.symm, eq_comm]
theorem lk_NoDeed_TooMany (nd : (exCs cModeError cNoBook cNoDeed cNoGuard cNoPart cNoRow cNoText cTooMany cUnlike).Nodup) : (isT cModeError cNoBook cNoDeed cNoGuard cNoPart cNoRow cNoText cTooMany cUnlike).look (.own cNoDeed) (.own cTooMany) = some false := by
  simp only [exCs, List.nodup_cons, List.mem_cons, not_or, List.not_mem_nil, not_false_eq_true, List.nodup_nil, and_true] at nd
  simp [IsTab.look, isT, nd, Ne.symm, eq_comm]
theorem lk_NoDeed_Unlike (nd : (exCs cModeError cNoBook cNoDeed cNoGuard cNoPart cNoRow cNoText cTooMany cUnlike).Nodup) : (isT cModeError cNoBook cNoDeed cNoGuard cNoPart cNoRow cNoText cTooMany cUnlike).look (.own cNoDeed) (.own cUnlike) = some false := by
  simp only [exCs, List.nodup_cons, List.mem_cons, not_or, List.not_mem_nil, not_false_eq_true, List.nodup_nil, and_true] at nd
  simp [IsTab.look, isT, nd, Ne.symm, eq_comm]
theorem lk_NoDeed_ValueError (nd : (exCs cModeError cNoBook cNoDeed cNoGuard cNoPart cNoRow cNoText cTooMany cUnlike).Nodup) : (isT cModeError cNoBook cNoDeed cNoGuard cNoPart cNoRow cNoText cTooMany cUnlike).look (.own cNoDeed) (.ty "ValueError") = some true := by
  simp only [exCs, List.nodup_cons, List.mem_cons, not_or, List.not_mem_nil, not_false_eq_true, List.nodup_nil, and_true] at nd
  simp [IsTab.look, isT, nd, Ne.symm, eq_comm]
theorem lk_NoGuard_ModeError (nd : (exCs cModeError cNoBook cNoDeed cNoGuard cNoPart cNoRow cNoText cTooMany cUnlike).Nodup) : (isT cModeError cNoBook cNoDeed cNoGuard cNoPart cNoRow cNoText cTooMany cUnlike).look (.own cNoGuard) (.own cModeError) = some true := by
  simp only [exCs, List.nodup_cons, List.mem_cons, not_or, List.not_mem_nil, not_false_eq_true, List.nodup_nil, and_true] at nd
  simp [IsTab.look, isT, nd, Ne.symm, eq_comm]
theorem lk_NoGuard_NoBook (nd : (exCs cModeError cNoBook cNoDeed cNoGuard cNoPart cNoRow cNoText cTooMany cUnlike).Nodup) : (isT cModeError cNoBook cNoDeed cNoGuard cNoPart cNoRow cNoText cTooMany cUnlike).look (.own cNoGuard) (.own cNoBook) = some false := by
  simp only [exCs, List.nodup_cons, List.mem_cons, not_or, List.not_mem_nil, not_false_eq_true, List.nodup_nil, and_true] at nd
  simp [IsTab.look, isT, nd, Ne.symm, eq_comm]
theorem lk_NoGuard_NoDeed (nd : (exCs cModeError cNoBook cNoDeed cNoGuard cNoPart cNoRow cNoText cTooMany cUnlike).Nodup) : (isT cModeError cNoBook cNoDeed cNoGuard cNoPart cNoRow cNoText cTooMany cUnlike).look (.own cNoGuard) (.own cNoDeed) = some false := by
  simp only [exCs, List.nodup_cons, List.mem_cons, not_or, List.not_mem_nil, not_false_eq_true, List.nodup_nil, and_true] at nd
  simp [IsTab.look, isT, nd, Ne.symm, eq_comm]
theorem lk_NoGuard_NoGuard (nd : (exCs cModeError cNoBook cNoDeed cNoGuard cNoPart cNoRow cNoText cTooMany cUnlike).Nodup) : (isT cModeError cNoBook cNoDeed cNoGuard cNoPart cNoRow cNoText cTooMany cUnlike).look (.own cNoGuard) (.own cNoGuard) = some true := by
  simp only [exCs, List.nodup_cons, List.mem_cons, not_or, List.not_mem_nil, not_false_eq_true, List.nodup_nil, and_true] at nd
  simp [IsTab.look, isT, nd, Ne.symm, eq_comm]
theorem lk_NoGuard_NoPart (nd : (exCs cModeError cNoBook cNoDeed cNoGuard cNoPart cNoRow cNoText cTooMany cUnlike).Nodup) : (isT cModeError cNoBook cNoDeed cNoGuard cNoPart cNoRow cNoText cTooMany cUnlike).look (.own cNoGuard) (.own cNoPart) = some false := by
  simp only [exCs, List.nodup_cons, List.mem_cons, not_or, List.not_mem_nil, not_false_eq_true, List.nodup_nil, and_true] at nd
  simp [IsTab.look, isT, nd, Ne.symm, eq_comm]
theorem lk_NoGuard_NoRow (nd : (exCs cModeError cNoBook cNoDeed cNoGuard cNoPart cNoRow cNoText cTooMany cUnlike).Nodup) : (isT cModeError cNoBook cNoDeed cNoGuard cNoPart cNoRow cNoText cTooMany cUnlike).look (.own cNoGuard) (.own cNoRow) = some false := by
  simp only [exCs, List.nodup_cons, List.mem_cons, not_or, List.not_mem_nil, not_false_eq_true, List.nodup_nil, and_true] at nd
  simp [IsTab.look, isT, nd, Ne.symm, eq_comm]
theorem lk_NoGuard_NoText (nd : (exCs cModeError cNoBook cNoDeed cNoGuard cNoPart cNoRow cNoText cTooMany cUnlike).Nodup) : (isT cModeError cNoBook cNoDeed cNoGuard cNoPart cNoRow cNoText cTooMany cUnlike).look (.own cNoGuard) (.own cNoText) = some false := by
  simp only [exCs, List.nodup_cons, List.mem_cons, not_or, List.not_mem_nil, not_false_eq_true, List.nodup_nil, and_true] at nd
  simp [IsTab.look, isT, nd, Ne.symm, eq_comm]
theorem lk_NoGuard_TooMany (nd : (exCs cModeError cNoBook cNoDeed cNoGuard cNoPart cNoRow cNoText cTooMany cUnlike).Nodup) : (isT cModeError cNoBook cNoDeed cNoGuard cNoPart cNoRow cNoText cTooMany cUnlike).look (.own cNoGuard) (.own cTooMany) = some false := by
  simp only [exCs, List.nodup_cons, List.mem_cons, not_or, List.not_mem_nil, not_false_eq_true, List.nodup_nil, and_true] at nd
  simp [IsTab.look, isT, nd, Ne.symm, eq_comm]
theorem lk_NoGuard_Unlike (nd : (exCs cModeError cNoBook cNoDeed cNoGuard cNoPart cNoRow cNoText cTooMany cUnlike).Nodup) : (isT cModeError cNoBook cNoDeed cNoGuard cNoPart cNoRow cNoText cTooMany cUnlike).look (.own cNoGuard) (.own cUnlike) = some false := by
  simp only [exCs, List.nodup_cons, List.mem_cons, not_or, List.not_mem_nil, not_false_eq_true, List.nodup_nil, and_true] at nd
  simp [IsTab.look, isT, nd, Ne.symm, eq_comm]
theorem lk_NoGuard_ValueError (nd : (exCs cModeError cNoBook cNoDeed cNoGuard cNoPart cNoRow cNoText cTooMany cUnlike).Nodup) : (isT cModeError cNoBook cNoDeed cNoGuard cNoPart cNoRow cNoText cTooMany cUnlike).look (.own cNoGuard) (.ty "ValueError") = some true := by
  simp only [exCs, List.nodup_cons, List.mem_cons, not_or, List.not_mem_nil, not_false_eq_true, List.nodup_nil, and_true] at nd
  simp [IsTab.look, isT, nd, Ne.symm, eq_comm]
theorem lk_NoPart_ModeError (nd : (exCs cModeError cNoBook cNoDeed cNoGuard cNoPart cNoRow cNoText cTooMany cUnlike).Nodup) : (isT cModeError cNoBook cNoDeed cNoGuard cNoPart cNoRow cNoText cTooMany cUnlike).look (.own cNoPart) (.own cModeError) = some true := by
  simp only [exCs, List.nodup_cons, List.mem_cons, not_or, List.not_mem_nil, not_false_eq_true, List.nodup_nil, and_true] at nd
  simp [IsTab.look, isT, nd, Ne.symm, eq_comm]
theorem lk_NoPart_NoBook (nd : (exCs cModeError cNoBook cNoDeed cNoGuard cNoPart cNoRow cNoText cTooMany cUnlike).Nodup) : (isT cModeError cNoBook cNoDeed cNoGuard cNoPart cNoRow cNoText cTooMany cUnlike).look (.own cNoPart) (.own cNoBook) = some false := by
  simp only [exCs, List.nodup_cons, List.mem_cons, not_or, List.not_mem_nil, not_false_eq_true, List.nodup_nil, and_true] at nd
  simp [IsTab.look, isT, nd, Ne.symm, eq_comm]
theorem lk_NoPart_NoDeed (nd : (exCs cModeError cNoBook cNoDeed cNoGuard cNoPart cNoRow cNoText cTooMany cUnlike).Nodup) : (isT cModeError cNoBook cNoDeed cNoGuard cNoPart cNoRow cNoText cTooMany cUnlike).look (.own cNoPart) (.own cNoDeed) = some false := by
  simp only [exCs, List.nodup_cons, List.mem_cons, not_or, List.not_mem_nil, not_false_eq_true, List.nodup_nil, and_true] at nd
  simp [IsTab.look, isT, nd, Ne.symm, eq_comm]
theorem lk_NoPart_NoGuard (nd : (exCs cModeError cNoBook cNoDeed cNoGuard cNoPart cNoRow cNoText cTooMany cUnlike).Nodup) : (isT cModeError cNoBook cNoDeed cNoGuard cNoPart cNoRow cNoText cTooMany cUnlike).look (.own cNoPart) (.own cNoGuard) = some false := by
  simp only [exCs, List.nodup_cons, List.mem_cons, not_or, List.not_mem_nil, not_false_eq_true, List.nodup_nil, and_true] at nd
  simp [IsTab.look, isT, nd, Ne.symm, eq_comm]
theorem lk_NoPart_NoPart (nd : (exCs cModeError cNoBook cNoDeed cNoGuard cNoPart cNoRow cNoText cTooMany cUnlike).Nodup) : (isT cModeError cNoBook cNoDeed cNoGuard cNoPart cNoRow cNoText cTooMany cUnlike).look (.own cNoPart) (.own cNoPart) = some true := by
  simp only [exCs, List.nodup_cons, List.mem_cons, not_or, List.not_mem_nil, not_false_eq_true, List.nodup_nil, and_true] at nd
  simp [IsTab.look, isT, nd, Ne.symm, eq_comm]
theorem lk_NoPart_NoRow (nd : (exCs cModeError cNoBook cNoDeed cNoGuard cNoPart cNoRow cNoText cTooMany cUnlike).Nodup) : (isT cModeError cNoBook cNoDeed cNoGuard cNoPart cNoRow cNoText cTooMany cUnlike).look (.own cNoPart) (.own cNoRow) = some false := by
  simp only [exCs, List.nodup_cons, List.mem_cons, not_or, List.not_mem_nil, not_false_eq_true, List.nodup_nil, and_true] at nd
  simp [IsTab.look, isT, nd, Ne.symm, eq_comm]
theorem lk_NoPart_NoText (nd : (exCs cModeError cNoBook cNoDeed cNoGuard cNoPart cNoRow cNoText cTooMany cUnlike).Nodup) : (isT cModeError cNoBook cNoDeed cNoGuard cNoPart cNoRow cNoText cTooMany cUnlike).look (.own cNoPart) (.own cNoText) = some false := by
  simp only [exCs, List.nodup_cons, List.mem_cons, not_or, List.not_mem_nil, not_false_eq_true, List.nodup_nil, and_true] at nd
  simp [IsTab.look, isT, nd, Ne.symm, eq_comm]
theorem lk_NoPart_TooMany (nd : (exCs cModeError cNoBook cNoDeed cNoGuard cNoPart cNoRow cNoText cTooMany cUnlike).Nodup) : (isT cModeError cNoBook cNoDeed cNoGuard cNoPart cNoRow cNoText cTooMany cUnlike).look (.own cNoPart) (.own cTooMany) = some false := by
  simp only [exCs, List.nodup_cons, List.mem_cons, not_or, List.not_mem_nil, not_false_eq_true, List.nodup_nil, and_true] at nd
  simp [IsTab.look, isT, nd, Ne.symm, eq_comm]
theorem lk_NoPart_Unlike (nd : (exCs cModeError cNoBook cNoDeed cNoGuard cNoPart cNoRow cNoText cTooMany cUnlike).Nodup) : (isT cModeError cNoBook cNoDeed cNoGuard cNoPart cNoRow cNoText cTooMany cUnlike).look (.own cNoPart) (.own cUnlike) = some false := by
  simp only [exCs, List.nodup_cons, List.mem_cons, not_or, List.not_mem_nil, not_false_eq_true, List.nodup_nil, and_true] at nd
  simp [IsTab.look, isT, nd, Ne.symm, eq_comm]
theorem lk_NoPart_ValueError (nd : (exCs cModeError cNoBook cNoDeed cNoGuard cNoPart cNoRow cNoText cTooMany cUnlike).Nodup) : (isT cModeError cNoBook cNoDeed cNoGuard cNoPart cNoRow cNoText cTooMany cUnlike).look (.own cNoPart) (.ty "ValueError") = some true := by
  simp only [exCs, List.nodup_cons, List.mem_cons, not_or, List.not_mem_nil, not_false_eq_true, List.nodup_nil, and_true] at nd
  simp [IsTab.look, isT, nd, Ne.symm, eq_comm]
theorem lk_NoRow_ModeError (nd : (exCs cModeError cNoBook cNoDeed cNoGuard cNoPart cNoRow cNoText cTooMany cUnlike).Nodup) : (isT cModeError cNoBook cNoDeed cNoGuard cNoPart cNoRow cNoText cTooMany cUnlike).look (.own cNoRow) (.own cModeError) = some true := by
  simp only [exCs, List.nodup_cons, List.mem_cons, not_or, List.not_mem_nil, not_false_eq_true, List.nodup_nil, and_true] at nd
  simp [IsTab.look, isT, nd, Ne.symm, eq_comm]
theorem lk_NoRow_NoBook (nd : (exCs cModeError cNoBook cNoDeed cNoGuard cNoPart cNoRow cNoText cTooMany cUnlike).Nodup) : (isT cModeError cNoBook cNoDeed cNoGuard cNoPart cNoRow cNoText cTooMany cUnlike).look (.own cNoRow) (.own cNoBook) = some false := by
  simp only [exCs, List.nodup_cons, List.mem_cons, not_or, List.not_mem_nil, not_false_eq_true, List.nodup_nil, and_true] at nd
  simp [IsTab.look, isT, nd, Ne.symm, eq_comm]
theorem lk_NoRow_NoDeed (nd : (exCs cModeError cNoBook cNoDeed cNoGuard cNoPart cNoRow cNoText cTooMany cUnlike).Nodup) : (isT cModeError cNoBook cNoDeed cNoGuard cNoPart cNoRow cNoText cTooMany cUnlike).look (.own cNoRow) (.own cNoDeed) = some false := by
  simp only [exCs, List.nodup_cons, List.mem_cons, not_or, List.not_mem_nil, not_false_eq_true, List.nodup_nil, and_true] at nd
  simp [IsTab.look, isT, nd, Ne.symm, eq_comm]
theorem lk_NoRow_NoGuard (nd : (exCs cModeError cNoBook cNoDeed cNoGuard cNoPart cNoRow cNoText cTooMany cUnlike).Nodup) : (isT cModeError cNoBook cNoDeed cNoGuard cNoPart cNoRow cNoText cTooMany cUnlike).look (.own cNoRow) (.own cNoGuard) = some false := by
  simp only [exCs, List.nodup_cons, List.mem_cons, not_or, List.not_mem_nil, not_false_eq_true, List.nodup_nil, and_true] at nd
  simp [IsTab.look, isT, nd, Ne.symm, eq_comm]
theorem lk_NoRow_NoPart (nd : (exCs cModeError cNoBook cNoDeed cNoGuard cNoPart cNoRow cNoText cTooMany cUnlike).Nodup) : (isT cModeError cNoBook cNoDeed cNoGuard cNoPart cNoRow cNoText cTooMany cUnlike).look (.own cNoRow) (.own cNoPart) = some false := by
  simp only [exCs, List.nodup_cons, List.mem_cons, not_or, List.not_mem_nil, not_false_eq_true, List.nodup_nil, and_true] at nd
  simp [IsTab.look, isT, nd, Ne.symm, eq_comm]
theorem lk_NoRow_NoRow (nd : (exCs cModeError cNoBook cNoDeed cNoGuard cNoPart cNoRow cNoText cTooMany cUnlike).Nodup) : (isT cModeError cNoBook cNoDeed cNoGuard cNoPart cNoRow cNoText cTooMany cUnlike).look (.own cNoRow) (.own cNoRow) = some true := by
  simp only [exCs, List.nodup_cons, List.mem_cons, not_or, List.not_mem_nil, not_false_eq_true, List.nodup_nil, and_true] at nd
  simp [IsTab.look, isT, nd, Ne.symm, eq_comm]
theorem lk_NoRow_NoText (nd : (exCs cModeError cNoBook cNoDeed cNoGuard cNoPart cNoRow cNoText cTooMany cUnlike).Nodup) : (isT cModeError cNoBook cNoDeed cNoGuard cNoPart cNoRow cNoText cTooMany cUnlike).look (.own cNoRow) (.own cNoText) = some false := by
  simp only [exCs, List.nodup_cons, List.mem_cons, not_or, List.not_mem_nil, not_false_eq_true, List.nodup_nil, and_true] at nd
  simp [IsTab.look, isT, nd, Ne.symm, eq_comm]
theorem lk_NoRow_TooMany (nd : (exCs cModeError cNoBook cNoDeed cNoGuard cNoPart cNoRow cNoText cTooMany cUnlike).Nodup) : (isT cModeError cNoBook cNoDeed cNoGuard cNoPart cNoRow cNoText cTooMany cUnlike).look (.own cNoRow) (.own cTooMany) = some false := by
  simp only [exCs, List.nodup_cons, List.mem_cons, not_or, List.not_mem_nil, not_false_eq_true, List.nodup_nil, and_true] at nd
  simp [IsTab.look, isT, nd, Ne.symm, eq_comm]
theorem lk_NoRow_Unlike (nd : (exCs cModeError cNoBook cNoDeed cNoGuard cNoPart cNoRow cNoText cTooMany cUnlike).Nodup) : (isT cModeError cNoBook cNoDeed cNoGuard cNoPart cNoRow cNoText cTooMany cUnlike).look (.own cNoRow) (.own cUnlike) = some false := by
  simp only [exCs, List.nodup_cons, List.mem_cons, not_or, List.not_mem_nil, not_false_eq_true, List.nodup_nil, and_true] at nd
  simp [IsTab.look, isT, nd, Ne.symm, eq_comm]
theorem lk_NoRow_ValueError (nd : (exCs cModeError cNoBook cNoDeed cNoGuard cNoPart cNoRow cNoText cTooMany cUnlike).Nodup) : (isT cModeError cNoBook cNoDeed cNoGuard cNoPart cNoRow cNoText cTooMany cUnlike).look (.own cNoRow) (.ty "ValueError") = some true := by
  simp only [exCs, List.nodup_cons, List.mem_cons, not_or, List.not_mem_nil, not_false_eq_true, List.nodup_nil, and_true] at nd
  simp [IsTab.look, isT, nd, Ne.symm, eq_comm]
theorem lk_NoText_ModeError (nd : (exCs cModeError cNoBook cNoDeed cNoGuard cNoPart cNoRow cNoText cTooMany cUnlike).Nodup) : (isT cModeError cNoBook cNoDeed cNoGuard cNoPart cNoRow cNoText cTooMany cUnlike).look (.own cNoText) (.own cModeError) = some true := by
  simp only [exCs, List.nodup_cons, List.mem_cons, not_or, List.not_mem_nil, not_false_eq_true, List.nodup_nil, and_true] at nd
  simp [IsTab.look, isT, nd, Ne.symm, eq_comm]
theorem lk_NoText_NoBook (nd : (exCs cModeError cNoBook cNoDeed cNoGuard cNoPart cNoRow cNoText cTooMany cUnlike).Nodup) : (isT cModeError cNoBook cNoDeed cNoGuard cNoPart cNoRow cNoText cTooMany cUnlike).look (.own cNoText) (.own cNoBook) = some false := by
  simp only [exCs, List.nodup_cons, List.mem_cons, not_or, List.not_mem_nil, not_false_eq_true, List.nodup_nil, and_true] at nd
  simp [IsTab.look, isT, nd, Ne.symm, eq_comm]
theorem lk_NoText_NoDeed (nd : (exCs cModeError cNoBook cNoDeed cNoGuard cNoPart cNoRow cNoText cTooMany cUnlike).Nodup) : (isT cModeError cNoBook cNoDeed cNoGuard cNoPart cNoRow cNoText cTooMany cUnlike).look (.own cNoText) (.own cNoDeed) = some false := by
  simp only [exCs, List.nodup_cons, List.mem_cons, not_or, List.not_mem_nil, not_false_eq_true, List.nodup_nil, and_true] at nd
  simp [IsTab.look, isT, nd, Ne.symm, eq_comm]
theorem lk_NoText_NoGuard (nd : (exCs cModeError cNoBook cNoDeed cNoGuard cNoPart cNoRow cNoText cTooMany cUnlike).Nodup) : (isT cModeError cNoBook cNoDeed cNoGuard cNoPart cNoRow cNoText cTooMany cUnlike).look (.own cNoText) (.own cNoGuard) = some false := by
  simp only [exCs, List.nodup_cons, List.mem_cons, not_or, List.not_mem_nil, not_false_eq_true, List.nodup_nil, and_true] at nd
  simp [IsTab.look, isT, nd, Ne.symm, eq_comm]
theorem lk_NoText_NoPart (nd : (exCs cModeError cNoBook cNoDeed cNoGuard cNoPart cNoRow cNoText cTooMany cUnlike).Nodup) : (isT cModeError cNoBook cNoDeed cNoGuard cNoPart cNoRow cNoText cTooMany cUnlike).look (.own cNoText) (.own cNoPart) = some false := by
  simp only [exCs, List.nodup_cons, List.mem_cons, not_or, List.not_mem_nil, not_false_eq_true, List.nodup_nil, and_true] at nd
  simp [IsTab.look, isT, nd, Ne.symm, eq_comm]
theorem lk_NoText_NoRow (nd : (exCs cModeError cNoBook cNoDeed cNoGuard cNoPart cNoRow cNoText cTooMany cUnlike).Nodup) : (isT cModeError cNoBook cNoDeed cNoGuard cNoPart cNoRow cNoText cTooMany cUnlike).look (.own cNoText) (.own cNoRow) = some false := by
  simp only [exCs, List.nodup_cons, List.mem_cons, not_or, List.not_mem_nil, not_false_eq_true, List.nodup_nil, and_true] at nd
  simp [IsTab.look, isT, nd, Ne.symm, eq_comm]
theorem lk_NoText_NoText (nd : (exCs cModeError cNoBook cNoDeed cNoGuard cNoPart cNoRow cNoText cTooMany cUnlike).Nodup) : (isT cModeError cNoBook cNoDeed cNoGuard cNoPart cNoRow cNoText cTooMany cUnlike).look (.own cNoText) (.own cNoText) = some true := by
  simp only [exCs, List.nodup_cons, List.mem_cons, not_or, List.not_mem_nil, not_false_eq_true, List.nodup_nil, and_true] at nd
  simp [IsTab.look, isT, nd, Ne.symm, eq_comm]
theorem lk_NoText_TooMany (nd : (exCs cModeError cNoBook cNoDeed cNoGuard cNoPart cNoRow cNoText cTooMany cUnlike).Nodup) : (isT cModeError cNoBook cNoDeed cNoGuard cNoPart cNoRow cNoText cTooMany cUnlike).look (.own cNoText) (.own cTooMany) = some false := by
  simp only [exCs, List.nodup_cons, List.mem_cons, not_or, List.not_mem_nil, not_false_eq_true, List.nodup_nil, and_true] at nd
  simp [IsTab.look, isT, nd, Ne.symm, eq_comm]
theorem lk_NoText_Unlike (nd : (exCs cModeError cNoBook cNoDeed cNoGuard cNoPart cNoRow cNoText cTooMany cUnlike).Nodup) : (isT cModeError cNoBook cNoDeed cNoGuard cNoPart cNoRow cNoText cTooMany cUnlike).look (.own cNoText) (.own cUnlike) = some false := by
  simp only [exCs, List.nodup_cons, List.mem_cons, not_or, List.not_mem_nil, not_false_eq_true, List.nodup_nil, and_true] at nd
  simp [IsTab.look, isT, nd, Ne.symm, eq_comm]
theorem lk_NoText_ValueError (nd : (exCs cModeError cNoBook cNoDeed cNoGuard cNoPart cNoRow cNoText cTooMany cUnlike).Nodup) : (isT cModeError cNoBook cNoDeed cNoGuard cNoPart cNoRow cNoText cTooMany cUnlike).look (.own cNoText) (.ty "ValueError") = some true := by
  simp only [exCs, List.nodup_cons, List.mem_cons, not_or, List.not_mem_nil, not_false_eq_true, List.nodup_nil, and_true] at nd
  simp [IsTab.look, isT, nd, Ne.symm, eq_comm]
theorem lk_TooMany_ModeError (nd : (exCs cModeError cNoBook cNoDeed cNoGuard cNoPart cNoRow cNoText cTooMany cUnlike).Nodup) : (isT cModeError cNoBook cNoDeed cNoGuard cNoPart cNoRow cNoText cTooMany cUnlike).look (.own cTooMany) (.own cModeError) = some true := by
  simp only [exCs, List.nodup_cons, List.mem_cons, not_or, List.not_mem_nil, not_false_eq_true, List.nodup_nil, and_true] at nd
  simp [IsTab.look, isT, nd, Ne.symm, eq_comm]
theorem lk_TooMany_NoBook (nd : (exCs cModeError cNoBook cNoDeed cNoGuard cNoPart cNoRow cNoText cTooMany cUnlike).Nodup) : (isT cModeError cNoBook cNoDeed cNoGuard cNoPart cNoRow cNoText cTooMany cUnlike).look (.own cTooMany) (.own cNoBook) = some false := by
  simp only [exCs, List.nodup_cons, List.mem_cons, not_or, List.not_mem_nil, not_false_eq_true, List.nodup_nil, and_true] at nd
  simp [IsTab.look, isT, nd, Ne.symm, eq_comm]
theorem lk_TooMany_NoDeed (nd : (exCs cModeError cNoBook cNoDeed cNoGuard cNoPart cNoRow cNoText cTooMany cUnlike).Nodup) : (isT cModeError cNoBook cNoDeed cNoGuard cNoPart cNoRow cNoText cTooMany cUnlike).look (.own cTooMany) (.own cNoDeed) = some false := by
  simp only [exCs, List.nodup_cons, List.mem_cons, not_or, List.not_mem_nil, not_false_eq_true, List.nodup_nil, and_true] at nd
  simp [IsTab.look, isT, nd, Ne.symm, eq_comm]
theorem lk_TooMany_NoGuard (nd : (exCs cModeError cNoBook cNoDeed cNoGuard cNoPart cNoRow cNoText cTooMany cUnlike).Nodup) : (isT cModeError cNoBook cNoDeed cNoGuard cNoPart cNoRow cNoText cTooMany cUnlike).look (.own cTooMany) (.own cNoGuard) = some false := by
  simp only [exCs, List.nodup_cons, List.mem_cons, not_or, List.not_mem_nil, not_false_eq_true, List.nodup_nil, and_true] at nd
  simp [IsTab.look, isT, nd, Ne.symm, eq_comm]
theorem lk_TooMany_NoPart (nd : (exCs cModeError cNoBook cNoDeed cNoGuard cNoPart cNoRow cNoText cTooMany cUnlike).Nodup) : (isT cModeError cNoBook cNoDeed cNoGuard cNoPart cNoRow cNoText cTooMany cUnlike).look (.own cTooMany) (.own cNoPart) = some false := by
  simp only [exCs, List.nodup_cons, List.mem_cons, not_or, List.not_mem_nil, not_false_eq_true, List.nodup_nil, and_true] at nd
  simp [IsTab.look, isT, nd, Ne.symm, eq_comm]
theorem lk_TooMany_NoRow (nd : (exCs cModeError cNoBook cNoDeed cNoGuard cNoPart cNoRow cNoText cTooMany cUnlike).Nodup) : (isT cModeError cNoBook cNoDeed cNoGuard cNoPart cNoRow cNoText cTooMany cUnlike).look (.own cTooMany) (.own cNoRow) = some false := by
  simp only [exCs, List.nodup_cons, List.mem_cons, not_or, List.not_mem_nil, not_false_eq_true, List.nodup_nil, and_true] at nd
  simp [IsTab.look, isT, nd, Ne.symm, eq_comm]
theorem lk_TooMany_NoText (nd : (exCs cModeError cNoBook cNoDeed cNoGuard cNoPart cNoRow cNoText cTooMany cUnlike).Nodup) : (isT cModeError cNoBook cNoDeed cNoGuard cNoPart cNoRow cNoText cTooMany cUnlike).look (.own cTooMany) (.own cNoText) = some false := by
  simp only [exCs, List.nodup_cons, List.mem_cons, not_or, List.not_mem_nil, not_false_eq_true, List.nodup_nil, and_true] at nd
  simp [IsTab.look, isT, nd, Ne.symm, eq_comm]
theorem lk_TooMany_TooMany (nd : (exCs cModeError cNoBook cNoDeed cNoGuard cNoPart cNoRow cNoText cTooMany cUnlike).Nodup) : (isT cModeError cNoBook cNoDeed cNoGuard cNoPart cNoRow cNoText cTooMany cUnlike).look (.own cTooMany) (.own cTooMany) = some true := by
  simp only [exCs, List.nodup_cons, List.mem_cons, not_or, List.not_mem_nil, not_false_eq_true, List.nodup_nil, and_true] at nd
  simp [IsTab.look, isT, nd, Ne.symm, eq_comm]
theorem lk_TooMany_Unlike (nd : (exCs cModeError cNoBook cNoDeed cNoGuard cNoPart cNoRow cNoText cTooMany cUnlike).Nodup) : (isT cModeError cNoBook cNoDeed cNoGuard cNoPart cNoRow cNoText cTooMany cUnlike).look (.own cTooMany) (.own cUnlike) = some false := by
  simp only [exCs, List.nodup_cons, List.mem_cons, not_or, List.not_mem_nil, not_false_eq_true, List.nodup_nil, and_true] at nd
  simp [IsTab.look, isT, nd, Ne.symm, eq_comm]
theorem lk_TooMany_ValueError (nd : (exCs cModeError cNoBook cNoDeed cNoGuard cNoPart cNoRow cNoText cTooMany cUnlike).Nodup) : (isT cModeError cNoBook cNoDeed cNoGuard cNoPart cNoRow cNoText cTooMany cUnlike).look (.own cTooMany) (.ty "ValueError") = some true := by
  simp only [exCs, List.nodup_cons, List.mem_cons, not_or, List.not_mem_nil, not_false_eq_true, List.nodup_nil, and_true] at nd
  simp [IsTab.look, isT, nd, Ne.symm, eq_comm]
theorem lk_Unlike_ModeError (nd : (exCs cModeError cNoBook cNoDeed cNoGuard cNoPart cNoRow cNoText cTooMany cUnlike).Nodup) : (isT cModeError cNoBook cNoDeed cNoGuard cNoPart cNoRow cNoText cTooMany cUnlike).look (.own cUnlike) (.own cModeError) = some true := by
  simp only [exCs, List.nodup_cons, List.mem_cons, not_or, List.not_mem_nil, not_false_eq_true, List.nodup_nil, and_true] at nd
  simp [IsTab.look, isT, nd, Ne.symm, eq_comm]
theorem lk_Unlike_NoBook (nd : (exCs cModeError cNoBook cNoDeed cNoGuard cNoPart cNoRow cNoText cTooMany cUnlike).Nodup) : (isT cModeError cNoBook cNoDeed cNoGuard cNoPart cNoRow cNoText cTooMany cUnlike).look (.own cUnlike) (.own cNoBook) = some false := by
  simp only [exCs, List.nodup_cons, List.mem_cons, not_or, List.not_mem_nil, not_false_eq_true, List.nodup_nil, and_true] at nd
  simp [IsTab.look, isT, nd, Ne.symm, eq_comm]
theorem lk_Unlike_NoDeed (nd : (exCs cModeError cNoBook cNoDeed cNoGuard cNoPart cNoRow cNoText cTooMany cUnlike).Nodup) : (isT cModeError cNoBook cNoDeed cNoGuard cNoPart cNoRow cNoText cTooMany cUnlike).look (.own cUnlike) (.own cNoDeed) = some false := by
  simp only [exCs, List.nodup_cons, List.mem_cons, not_or, List.not_mem_nil, not_false_eq_true, List.nodup_nil, and_true] at nd
  simp [IsTab.look, isT, nd, Ne.symm, eq_comm]
theorem lk_Unlike_NoGuard (nd : (exCs cModeError cNoBook cNoDeed cNoGuard cNoPart cNoRow cNoText cTooMany cUnlike).Nodup) : (isT cModeError cNoBook cNoDeed cNoGuard cNoPart cNoRow cNoText cTooMany cUnlike).look (.own cUnlike) (.own cNoGuard) = some false := by
  simp only [exCs, List.nodup_cons, List.mem_cons, not_or, List.not_mem_nil, not_false_eq_true, List.nodup_nil, and_true] at nd
  simp [IsTab.look, isT, nd, Ne.symm, eq_comm]
theorem lk_Unlike_NoPart (nd : (exCs cModeError cNoBook cNoDeed cNoGuard cNoPart cNoRow cNoText cTooMany cUnlike).Nodup) : (isT cModeError cNoBook cNoDeed cNoGuard cNoPart cNoRow cNoText cTooMany cUnlike).look (.own cUnlike) (.own cNoPart) = some false := by
  simp only [exCs, List.nodup_cons, List.mem_cons, not_or, List.not_mem_nil, not_false_eq_true, List.nodup_nil, and_true] at nd
  simp [IsTab.look, isT, nd, Ne.symm, eq_comm]
theorem lk_Unlike_NoRow (nd : (exCs cModeError cNoBook cNoDeed cNoGuard cNoPart cNoRow cNoText cTooMany cUnlike).Nodup) : (isT cModeError cNoBook cNoDeed cNoGuard cNoPart cNoRow cNoText cTooMany cUnlike).look (.own cUnlike) (.own cNoRow) = some false := by
  simp only [exCs, List.nodup_cons, List.mem_cons, not_or, List.not_mem_nil, not_false_eq_true, List.nodup_nil, and_true] at nd
  simp [IsTab.look, isT, nd, Ne.symm, eq_comm]
theorem lk_Unlike_NoText (nd : (exCs cModeError cNoBook cNoDeed cNoGuard cNoPart cNoRow cNoText cTooMany cUnlike).Nodup) : (isT cModeError cNoBook cNoDeed cNoGuard cNoPart cNoRow cNoText cTooMany cUnlike).look (.own cUnlike) (.own cNoText) = some false := by
  simp only [exCs, List.nodup_cons, List.mem_cons, not_or, List.not_mem_nil, not_false_eq_true, List.nodup_nil, and_true] at nd
  simp [IsTab.look, isT, nd, Ne.symm, eq_comm]
theorem lk_Unlike_TooMany (nd : (exCs cModeError cNoBook cNoDeed cNoGuard cNoPart cNoRow cNoText cTooMany cUnlike).Nodup) : (isT cModeError cNoBook cNoDeed cNoGuard cNoPart cNoRow cNoText cTooMany cUnlike).look (.own cUnlike) (.own cTooMany) = some false := by
  simp only [exCs, List.nodup_cons, List.mem_cons, not_or, List.not_mem_nil, not_false_eq_true, List.nodup_nil, and_true] at nd
  simp [IsTab.look, isT, nd, Ne.symm, eq_comm]
theorem lk_Unlike_Unlike (nd : (exCs cModeError cNoBook cNoDeed cNoGuard cNoPart cNoRow cNoText cTooMany cUnlike).Nodup) : (isT cModeError cNoBook cNoDeed cNoGuard cNoPart cNoRow cNoText cTooMany cUnlike).look (.own cUnlike) (.own cUnlike) = some true := by
  simp only [exCs, List.nodup_cons, List.mem_cons, not_or, List.not_mem_nil, not_false_eq_true, List.nodup_nil, and_true] at nd
  simp [IsTab.look, isT, nd, Ne.symm, eq_comm]
theorem lk_Unlike_ValueError (nd : (exCs cModeError cNoBook cNoDeed cNoGuard cNoPart cNoRow cNoText cTooMany cUnlike).Nodup) : (isT cModeError cNoBook cNoDeed cNoGuard cNoPart cNoRow cNoText cTooMany cUnlike).look (.own cUnlike) (.ty "ValueError") = some true := by
  simp only [exCs, List.nodup_cons, List.mem_cons, not_or, List.not_mem_nil, not_false_eq_true, List.nodup_nil, and_true] at nd
  simp [IsTab.look, isT, nd, Ne.symm, eq_comm]
end
end Mo
namespace Mo
open PySem PySem.Spec PyProof.Rows L2 Dat DatE
section
variable {cModeError cNoBook cNoDeed cNoGuard cNoPart cNoRow cNoText cTooMany cUnlike : Addr}
theorem cl_NoBook (nd : (exCs cModeError cNoBook cNoDeed cNoGuard cNoPart cNoRow cNoText cTooMany cUnlike).Nodup) (f : Str) (d : D) (hf : f ≠ Str.ofString "__class__") : law_classes cModeError cNoBook cNoDeed cNoGuard cNoPart cNoRow cNoText cTooMany cUnlike [.d (.exc cNoBook f d)] = some (.ret (.d (.lst [.v (.int 0)])) [.d (.exc cNoBook f d)]) := by
  have hc : clD (.exc cNoBook f d) = some (.own cNoBook) := by simp [clD, hf]
  unfold law_classes runD0
  rw [if_pos ⟨rfl, rfl⟩]
  have e1 : m_law_classes cModeError cNoBook cNoDeed cNoGuard cNoPart cNoRow cNoText cTooMany cUnlike ([O.d (.exc cNoBook f d)].map some ++ List.replicate (3 - 1) none) = some (.ret (.d (.lst [.v (.int 0)])), [some (.d (.exc cNoBook f d)), some (.d (.lst [.v (.bl true), .v (.bl false), .v (.bl false), .v (.bl false), .v (.bl false), .v (.bl false), .v (.bl false), .v (.bl false)])), none]) := by
    refine s_seq (ρ1 := [some (.d (.exc cNoBook f d)), some (.d (.lst [.v (.bl true), .v (.bl false), .v (.bl false), .v (.bl false)])), none]) (s_set (v_lst (l_cons (v_cb (l_cons v_var (l_cons v_c l_nil)) (look_eq hc rfl (lk_NoBook_NoBook nd))) (l_cons (v_cb (l_cons v_var (l_cons v_c l_nil)) (look_eq hc rfl (lk_NoBook_NoDeed nd))) (l_cons (v_cb (l_cons v_var (l_cons v_c l_nil)) (look_eq hc rfl (lk_NoBook_NoGuard nd))) (l_cons (v_cb (l_cons v_var (l_cons v_c l_nil)) (look_eq hc rfl (lk_NoBook_NoPart nd))) l_nil)))))) ?_
    refine s_seq (ρ1 := [some (.d (.exc cNoBook f d)), some (.d (.lst [.v (.bl true), .v (.bl false), .v (.bl false), .v (.bl false), .v (.bl false), .v (.bl false), .v (.bl false), .v (.bl false)])), none]) (s_set (v_op v_var (v_lst (l_cons (v_cb (l_cons v_var (l_cons v_c l_nil)) (look_eq hc rfl (lk_NoBook_NoRow nd))) (l_cons (v_cb (l_cons v_var (l_cons v_c l_nil)) (look_eq hc rfl (lk_NoBook_NoText nd))) (l_cons (v_cb (l_cons v_var (l_cons v_c l_nil)) (look_eq hc rfl (lk_NoBook_TooMany nd))) (l_cons (v_cb (l_cons v_var (l_cons v_c l_nil)) (look_eq hc rfl (lk_NoBook_Unlike nd))) l_nil))))) (show dAdd (.lst [.v (.bl true), .v (.bl false), .v (.bl false), .v (.bl false)]) (.lst [.v (.bl false), .v (.bl false), .v (.bl false), .v (.bl false)]) = some (.lst [.v (.bl true), .v (.bl false), .v (.bl false), .v (.bl false), .v (.bl false), .v (.bl false), .v (.bl false), .v (.bl false)]) from by simp [dAdd, sizeLine_eq]))) ?_
    refine s_ret ?_
    simp [rBind, lCons, lNil, xC, rPure, asR1, show List.range 8 = [0, 1, 2, 3, 4, 5, 6, 7] from rfl, lcRun, hideOk, wipeE, lcGo, gN, m_law_classes_p1, m_law_classes_p2, xT, xOp, xVar, asB, rOpt, dIx, atI, ixN, sizeLine_eq, restE]
  rw [e1]; rfl
theorem cl_NoDeed (nd : (exCs cModeError cNoBook cNoDeed cNoGuard cNoPart cNoRow cNoText cTooMany cUnlike).Nodup) (f : Str) (d : D) (hf : f ≠ Str.ofString "__class__") : law_classes cModeError cNoBook cNoDeed cNoGuard cNoPart cNoRow cNoText cTooMany cUnlike [.d (.exc cNoDeed f d)] = some (.ret (.d (.lst [.v (.int 1)])) [.d (.exc cNoDeed f d)]) := by
  have hc : clD (.exc cNoDeed f d) = some (.own cNoDeed) := by simp [clD, hf]
  unfold law_classes runD0
  rw [if_pos ⟨rfl, rfl⟩]
  have e1 : m_law_classes cModeError cNoBook cNoDeed cNoGuard cNoPart cNoRow cNoText cTooMany cUnlike ([O.d (.exc cNoDeed f d)].map some ++ List.replicate (3 - 1) none) = some (.ret (.d (.lst [.v (.int 1)])), [some (.d (.exc cNoDeed f d)), some (.d (.lst [.v (.bl false), .v (.bl true), .v (.bl false), .v (.bl false), .v (.bl false), .v (.bl false), .v (.bl false), .v (.bl false)])), none]) := by
    refine s_seq (ρ1 := [some (.d (.exc cNoDeed f d)), some (.d (.lst [.v (.bl false), .v (.bl true), .v (.bl false), .v (.bl false)])), none]) (s_set (v_lst (l_cons (v_cb (l_cons v_var (l_cons v_c l_nil)) (look_eq hc rfl (lk_NoDeed_NoBook nd))) (l_cons (v_cb (l_cons v_var (l_cons v_c l_nil)) (look_eq hc rfl (lk_NoDeed_NoDeed nd))) (l_cons (v_cb (l_cons v_var (l_cons v_c l_nil)) (look_eq hc rfl (lk_NoDeed_NoGuard nd))) (l_cons (v_cb (l_cons v_var (l_cons v_c l_nil)) (look_eq hc rfl (lk_NoDeed_NoPart nd))) l_nil)))))) ?_
    refine s_seq (ρ1 := [some (.d (.exc cNoDeed f d)), some (.d (.lst [.v (.bl false), .v (.bl true), .v (.bl false), .v (.bl false), .v (.bl false), .v (.bl false), .v (.bl false), .v (.bl false)])), none]) (s_set (v_op v_var (v_lst (l_cons (v_cb (l_cons v_var (l_cons v_c l_nil)) (look_eq hc rfl (lk_NoDeed_NoRow nd))) (l_cons (v_cb (l_cons v_var (l_cons v_c l_nil)) (look_eq hc rfl (lk_NoDeed_NoText nd))) (l_cons (v_cb (l_cons v_var (l_cons v_c l_nil)) (look_eq hc rfl (lk_NoDeed_TooMany nd))) (l_cons (v_cb (l_cons v_var (l_cons v_c l_nil)) (look_eq hc rfl (lk_NoDeed_Unlike nd))) l_nil))))) (show dAdd (.lst [.v (.bl false), .v (.bl true), .v (.bl false), .v (.bl false)]) (.lst [.v (.bl false), .v (.bl false), .v (.bl false), .v (.bl false)]) = some (.lst [.v (.bl false), .v (.bl true), .v (.bl false), .v (.bl false), .v (.bl false), .v (.bl false), .v (.bl false), .v (.bl false)]) from by simp [dAdd, sizeLine_eq]))) ?_
    refine s_ret ?_
    simp [rBind, lCons, lNil, xC, rPure, asR1, show List.range 8 = [0, 1, 2, 3, 4, 5, 6, 7] from rfl, lcRun, hideOk, wipeE, lcGo, gN, m_law_classes_p1, m_law_classes_p2, xT, xOp, xVar, asB, rOpt, dIx, atI, ixN, sizeLine_eq, restE]
  rw [e1]; rfl
theorem cl_NoGuard (nd : (exCs cModeError cNoBook cNoDeed cNoGuard cNoPart cNoRow cNoText cTooMany cUnlike).Nodup) (f : Str) (d : D) (hf : f ≠ Str.ofString "__class__") : law_classes cModeError cNoBook cNoDeed cNoGuard cNoPart cNoRow cNoText cTooMany cUnlike [.d (.exc cNoGuard f d)] = some (.ret (.d (.lst [.v (.int 2)])) [.d (.exc cNoGuard f d)]) := by
  have hc : clD (.exc cNoGuard f d) = some (.own cNoGuard) := by simp [clD, hf]
  unfold law_classes runD0
  rw [if_pos ⟨rfl, rfl⟩]
  have e1 : m_law_classes cModeError cNoBook cNoDeed cNoGuard cNoPart cNoRow cNoText cTooMany cUnlike ([O.d (.exc cNoGuard f d)].map some ++ List.replicate (3 - 1) none) = some (.ret (.d (.lst [.v (.int 2)])), [some (.d (.exc cNoGuard f d)), some (.d (.lst [.v (.bl false), .v (.bl false), .v (.bl true), .v (.bl false), .v (.bl false), .v (.bl false), .v (.bl false), .v (.bl false)])), none]) := by
    refine s_seq (ρ1 := [some (.d (.exc cNoGuard f d)), some (.d (.lst [.v (.bl false), .v (.bl false), .v (.bl true), .v (.bl false)])), none]) (s_set (v_lst (l_cons (v_cb (l_cons v_var (l_cons v_c l_nil)) (look_eq hc rfl (lk_NoGuard_NoBook nd))) (l_cons (v_cb (l_cons v_var (l_cons v_c l_nil)) (look_eq hc rfl (lk_NoGuard_NoDeed nd))) (l_cons (v_cb (l_cons v_var (l_cons v_c l_nil)) (look_eq hc rfl (lk_NoGuard_NoGuard nd))) (l_cons (v_cb (l_cons v_var (l_cons v_c l_nil)) (look_eq hc rfl (lk_NoGuard_NoPart nd))) l_nil)))))) ?_
    refine s_seq (ρ1 := [some (.d (.exc cNoGuard f d)), some (.d (.lst [.v (.bl false), .v (.bl false), .v (.bl true), .v (.bl false), .v (.bl false), .v (.bl false), .v (.bl false), .v (.bl false)])), none]) (s_set (v_op v_var (v_lst (l_cons (v_cb (l_cons v_var (l_cons v_c l_nil)) (look_eq hc rfl (lk_NoGuard_NoRow nd))) (l_cons (v_cb (l_cons v_var (l_cons v_c l_nil)) (look_eq hc rfl (lk_NoGuard_NoText nd))) (l_cons (v_cb (l_cons v_var (l_cons v_c l_nil)) (look_eq hc rfl (lk_NoGuard_TooMany nd))) (l_cons (v_cb (l_cons v_var (l_cons v_c l_nil)) (look_eq hc rfl (lk_NoGuard_Unlike nd))) l_nil))))) (show dAdd (.lst [.v (.bl false), .v (.bl false), .v (.bl true), .v (.bl false)]) (.lst [.v (.bl false), .v (.bl false), .v (.bl false), .v (.bl false)]) = some (.lst [.v (.bl false), .v (.bl false), .v (.bl true), .v (.bl false), .v (.bl false), .v (.bl false), .v (.bl false), .v (.bl false)]) from by simp [dAdd, sizeLine_eq]))) ?_
    refine s_ret ?_
    simp [rBind, lCons, lNil, xC, rPure, asR1, show List.range 8 = [0, 1, 2, 3, 4, 5, 6, 7] from rfl, lcRun, hideOk, wipeE, lcGo, gN, m_law_classes_p1, m_law_classes_p2, xT, xOp, xVar, asB, rOpt, dIx, atI, ixN, sizeLine_eq, restE]
  rw [e1]; rfl
theorem cl_NoPart (nd : (exCs cModeError cNoBook cNoDeed cNoGuard cNoPart cNoRow cNoText cTooMany cUnlike).Nodup) (f : Str) (d : D) (hf : f ≠ Str.ofString "__class__") : law_classes cModeError cNoBook cNoDeed cNoGuard cNoPart cNoRow cNoText cTooMany cUnlike [.d (.exc cNoPart f d)] = some (.ret (.d (.lst [.v (.int 3)])) [.d (.exc cNoPart f d)]) := by
  have hc : clD (.exc cNoPart f d) = some (.own cNoPart) := by simp [clD, hf]
  unfold law_classes runD0
  rw [if_pos ⟨rfl, rfl⟩]
  have e1 : m_law_classes cModeError cNoBook cNoDeed cNoGuard cNoPart cNoRow cNoText cTooMany cUnlike ([O.d (.exc cNoPart f d)].map some ++ List.replicate (3 - 1) none) = some (.ret (.d (.lst [.v (.int 3)])), [some (.d (.exc cNoPart f d)), some (.d (.lst [.v (.bl false), .v (.bl false), .v (.bl false), .v (.bl true), .v (.bl false), .v (.bl false), .v (.bl false), .v (.bl false)])), none]) := by
    refine s_seq (ρ1 := [some (.d (.exc cNoPart f d)), some (.d (.lst [.v (.bl false), .v (.bl false), .v (.bl false), .v (.bl true)])), none]) (s_set (v_lst (l_cons (v_cb (l_cons v_var (l_cons v_c l_nil)) (look_eq hc rfl (lk_NoPart_NoBook nd))) (l_cons (v_cb (l_cons v_var (l_cons v_c l_nil)) (look_eq hc rfl (lk_NoPart_NoDeed nd))) (l_cons (v_cb (l_cons v_var (l_cons v_c l_nil)) (look_eq hc rfl (lk_NoPart_NoGuard nd))) (l_cons (v_cb (l_cons v_var (l_cons v_c l_nil)) (look_eq hc rfl (lk_NoPart_NoPart nd))) l_nil)))))) ?_
    refine s_seq (ρ1 := [some (.d (.exc cNoPart f d)), some (.d (.lst [.v (.bl false), .v (.bl false), .v (.bl false), .v (.bl true), .v (.bl false), .v (.bl false), .v (.bl false), .v (.bl false)])), none]) (s_set (v_op v_var (v_lst (l_cons (v_cb (l_cons v_var (l_cons v_c l_nil)) (look_eq hc rfl (lk_NoPart_NoRow nd))) (l_cons (v_cb (l_cons v_var (l_cons v_c l_nil)) (look_eq hc rfl (lk_NoPart_NoText nd))) (l_cons (v_cb (l_cons v_var (l_cons v_c l_nil)) (look_eq hc rfl (lk_NoPart_TooMany nd))) (l_cons (v_cb (l_cons v_var (l_cons v_c l_nil)) (look_eq hc rfl (lk_NoPart_Unlike nd))) l_nil))))) (show dAdd (.lst [.v (.bl false), .v (.bl false), .v (.bl false), .v (.bl true)]) (.lst [.v (.bl false), .v (.bl false), .v (.bl false), .v (.bl false)]) = some (.lst [.v (.bl false), .v (.bl false), .v (.bl false), .v (.bl true), .v (.bl false), .v (.bl false), .v (.bl false), .v (.bl false)]) from by simp [dAdd, sizeLine_eq]))) ?_
    refine s_ret ?_
    simp [rBind, lCons, lNil, xC, rPure, asR1, show List.range 8 = [0, 1, 2, 3, 4, 5, 6, 7] from rfl, lcRun, hideOk, wipeE, lcGo, gN, m_law_classes_p1, m_law_classes_p2, xT, xOp, xVar, asB, rOpt, dIx, atI, ixN, sizeLine_eq, restE]
  rw [e1]; rfl
theorem cl_NoRow (nd : (exCs cModeError cNoBook cNoDeed cNoGuard cNoPart cNoRow cNoText cTooMany cUnlike).Nodup) (f : Str) (d : D) (hf : f ≠ Str.ofString "__class__") : law_classes cModeError cNoBook cNoDeed cNoGuard cNoPart cNoRow cNoText cTooMany cUnlike [.d (.exc cNoRow f d)] = some (.ret (.d (.lst [.v (.int 4)])) [.d (.exc cNoRow f d)]) := by
  have hc : clD (.exc cNoRow f d) = some (.own cNoRow) := by simp [clD, hf]
  unfold law_classes runD0
  rw [if_pos ⟨rfl, rfl⟩]
  have e1 : m_law_classes cModeError cNoBook cNoDeed cNoGuard cNoPart cNoRow cNoText cTooMany cUnlike ([O.d (.exc cNoRow f d)].map some ++ List.replicate (3 - 1) none) = some (.ret (.d (.lst [.v (.int 4)])), [some (.d (.exc cNoRow f d)), some (.d (.lst [.v (.bl false), .v (.bl false), .v (.bl false), .v (.bl false), .v (.bl true), .v (.bl false), .v (.bl false), .v (.bl false)])), none]) := by
    refine s_seq (ρ1 := [some (.d (.exc cNoRow f d)), some (.d (.lst [.v (.bl false), .v (.bl false), .v (.bl false), .v (.bl false)])), none]) (s_set (v_lst (l_cons (v_cb (l_cons v_var (l_cons v_c l_nil)) (look_eq hc rfl (lk_NoRow_NoBook nd))) (l_cons (v_cb (l_cons v_var (l_cons v_c l_nil)) (look_eq hc rfl (lk_NoRow_NoDeed nd))) (l_cons (v_cb (l_cons v_var (l_cons v_c l_nil)) (look_eq hc rfl (lk_NoRow_NoGuard nd))) (l_cons (v_cb (l_cons v_var (l_cons v_c l_nil)) (look_eq hc rfl (lk_NoRow_NoPart nd))) l_nil)))))) ?_
    refine s_seq (ρ1 := [some (.d (.exc cNoRow f d)), some (.d (.lst [.v (.bl false), .v (.bl false), .v (.bl false), .v (.bl false), .v (.bl true), .v (.bl false), .v (.bl false), .v (.bl false)])), none]) (s_set (v_op v_var (v_lst (l_cons (v_cb (l_cons v_var (l_cons v_c l_nil)) (look_eq hc rfl (lk_NoRow_NoRow nd))) (l_cons (v_cb (l_cons v_var (l_cons v_c l_nil)) (look_eq hc rfl (lk_NoRow_NoText nd))) (l_cons (v_cb (l_cons v_var (l_cons v_c l_nil)) (look_eq hc rfl (lk_NoRow_TooMany nd))) (l_cons (v_cb (l_cons v_var (l_cons v_c l_nil)) (look_eq hc rfl (lk_NoRow_Unlike nd))) l_nil))))) (show dAdd (.lst [.v (.bl false), .v (.bl false), .v (.bl false), .v (.bl false)]) (.lst [.v (.bl true), .v (.bl false), .v (.bl false), .v (.bl false)]) = some (.lst [.v (.bl false), .v (.bl false), .v (.bl false), .v (.bl false), .v (.bl true), .v (.bl false), .v (.bl false), .v (.bl false)]) from by simp [dAdd, sizeLine_eq]))) ?_
    refine s_ret ?_
    simp [rBind, lCons, lNil, xC, rPure, asR1, show List.range 8 = [0, 1, 2, 3, 4, 5, 6, 7] from rfl, lcRun, hideOk, wipeE, lcGo, gN, m_law_classes_p1, m_law_classes_p2, xT, xOp, xVar, asB, rOpt, dIx, atI, ixN, sizeLine_eq, restE]
  rw [e1]; rfl
theorem cl_NoText (nd : (exCs cModeError cNoBook cNoDeed cNoGuard cNoPart cNoRow cNoText cTooMany cUnlike).Nodup) (f : Str) (d : D) (hf : f ≠ Str.ofString "__class__") : law_classes cModeError cNoBook cNoDeed cNoGuard cNoPart cNoRow cNoText cTooMany cUnlike [.d (.exc cNoText f d)] = some (.ret (.d (.lst [.v (.int 5)])) [.d (.exc cNoText f d)]) := by
  have hc : clD (.exc cNoText f d) = some (.own cNoText) := by simp [clD, hf]
  unfold law_classes runD0
  rw [if_pos ⟨rfl, rfl⟩]
  have e1 : m_law_classes cModeError cNoBook cNoDeed cNoGuard cNoPart cNoRow cNoText cTooMany cUnlike ([O.d (.exc cNoText f d)].map some ++ List.replicate (3 - 1) none) = some (.ret (.d (.lst [.v (.int 5)])), [some (.d (.exc cNoText f d)), some (.d (.lst [.v (.bl false), .v (.bl false), .v (.bl false), .v (.bl false), .v (.bl false), .v (.bl true), .v (.bl false), .v (.bl false)])), none]) := by
    refine s_seq (ρ1 := [some (.d (.exc cNoText f d)), some (.d (.lst [.v (.bl false), .v (.bl false), .v (.bl false), .v (.bl false)])), none]) (s_set (v_lst (l_cons (v_cb (l_cons v_var (l_cons v_c l_nil)) (look_eq hc rfl (lk_NoText_NoBook nd))) (l_cons (v_cb (l_cons v_var (l_cons v_c l_nil)) (look_eq hc rfl (lk_NoText_NoDeed nd))) (l_cons (v_cb (l_cons v_var (l_cons v_c l_nil)) (look_eq hc rfl (lk_NoText_NoGuard nd))) (l_cons (v_cb (l_cons v_var (l_cons v_c l_nil)) (look_eq hc rfl (lk_NoText_NoPart nd))) l_nil)))))) ?_
    refine s_seq (ρ1 := [some (.d (.exc cNoText f d)), some (.d (.lst [.v (.bl false), .v (.bl false), .v (.bl false), .v (.bl false), .v (.bl false), .v (.bl true), .v (.bl false), .v (.bl false)])), none]) (s_set (v_op v_var (v_lst (l_cons (v_cb (l_cons v_var (l_cons v_c l_nil)) (look_eq hc rfl (lk_NoText_NoRow nd))) (l_cons (v_cb (l_cons v_var (l_cons v_c l_nil)) (look_eq hc rfl (lk_NoText_NoText nd))) (l_cons (v_cb (l_cons v_var (l_cons v_c l_nil)) (look_eq hc rfl (lk_NoText_TooMany nd))) (l_cons (v_cb (l_cons v_var (l_cons v_c l_nil)) (look_eq hc rfl (lk_NoText_Unlike nd))) l_nil))))) (show dAdd (.lst [.v (.bl false), .v (.bl false), .v (.bl false), .v (.bl false)]) (.lst [.v (.bl false), .v (.bl true), .v (.bl false), .v (.bl false)]) = some (.lst [.v (.bl false), .v (.bl false), .v (.bl false), .v (.bl false), .v (.bl false), .v (.bl true), .v (.bl false), .v (.bl false)]) from by simp [dAdd, sizeLine_eq]))) ?_
    refine s_ret ?_
    simp [rBind, lCons, lNil, xC, rPure, asR1, show List.range 8 = [0, 1, 2, 3, 4, 5, 6, 7] from rfl, lcRun, hideOk, wipeE, lcGo, gN, m_law_classes_p1, m_law_classes_p2, xT, xOp, xVar, asB, rOpt, dIx, atI, ixN, sizeLine_eq, restE]
  rw [e1]; rfl
theorem cl_TooMany (nd : (exCs cModeError cNoBook cNoDeed cNoGuard cNoPart cNoRow cNoText cTooMany cUnlike).Nodup) (f : Str) (d : D) (hf : f ≠ Str.ofString "__class__") : law_classes cModeError cNoBook cNoDeed cNoGuard cNoPart cNoRow cNoText cTooMany cUnlike [.d (.exc cTooMany f d)] = some (.ret (.d (.lst [.v (.int 6)])) [.d (.exc cTooMany f d)]) := by
  have hc : clD (.exc cTooMany f d) = some (.own cTooMany) := by simp [clD, hf]
  unfold law_classes runD0
  rw [if_pos ⟨rfl, rfl⟩]
  have e1 : m_law_classes cModeError cNoBook cNoDeed cNoGuard cNoPart cNoRow cNoText cTooMany cUnlike ([O.d (.exc cTooMany f d)].map some ++ List.replicate (3 - 1) none) = some (.ret (.d (.lst [.v (.int 6)])), [some (.d (.exc cTooMany f d)), some (.d (.lst [.v (.bl false), .v (.bl false), .v (.bl false), .v (.bl false), .v (.bl false), .v (.bl false), .v (.bl true), .v (.bl false)])), none]) := by
    refine s_seq (ρ1 := [some (.d (.exc cTooMany f d)), some (.d (.lst [.v (.bl false), .v (.bl false), .v (.bl false), .v (.bl false)])), none]) (s_set (v_lst (l_cons (v_cb (l_cons v_var (l_cons v_c l_nil)) (look_eq hc rfl (lk_TooMany_NoBook nd))) (l_cons (v_cb (l_cons v_var (l_cons v_c l_nil)) (look_eq hc rfl (lk_TooMany_NoDeed nd))) (l_cons (v_cb (l_cons v_var (l_cons v_c l_nil)) (look_eq hc rfl (lk_TooMany_NoGuard nd))) (l_cons (v_cb (l_cons v_var (l_cons v_c l_nil)) (look_eq hc rfl (lk_TooMany_NoPart nd))) l_nil)))))) ?_
    refine s_seq (ρ1 := [some (.d (.exc cTooMany f d)), some (.d (.lst [.v (.bl false), .v (.bl false), .v (.bl false), .v (.bl false), .v (.bl false), .v (.bl false), .v (.bl true), .v (.bl false)])), none]) (s_set (v_op v_var (v_lst (l_cons (v_cb (l_cons v_var (l_cons v_c l_nil)) (look_eq hc rfl (lk_TooMany_NoRow nd))) (l_cons (v_cb (l_cons v_var (l_cons v_c l_nil)) (look_eq hc rfl (lk_TooMany_NoText nd))) (l_cons (v_cb (l_cons v_var (l_cons v_c l_nil)) (look_eq hc rfl (lk_TooMany_TooMany nd))) (l_cons (v_cb (l_cons v_var (l_cons v_c l_nil)) (look_eq hc rfl (lk_TooMany_Unlike nd))) l_nil))))) (show dAdd (.lst [.v (.bl false), .v (.bl false), .v (.bl false), .v (.bl false)]) (.lst [.v (.bl false), .v (.bl false), .v (.bl true), .v (.bl false)]) = some (.lst [.v (.bl false), .v (.bl false), .v (.bl false), .v (.bl false), .v (.bl false), .v (.bl false), .v (.bl true), .v (.bl false)]) from by simp [dAdd, sizeLine_eq]))) ?_
    refine s_ret ?_
    simp [rBind, lCons, lNil, xC, rPure, asR1, show List.range 8 = [0, 1, 2, 3, 4, 5, 6, 7] from rfl, lcRun, hideOk, wipeE, lcGo, gN, m_law_classes_p1, m_law_classes_p2, xT, xOp, xVar, asB, rOpt, dIx, atI, ixN, sizeLine_eq, restE]
  rw [e1]; rfl
theorem cl_Unlike (nd : (exCs cModeError cNoBook cNoDeed cNoGuard cNoPart cNoRow cNoText cTooMany cUnlike).Nodup) (f : Str) (d : D) (hf : f ≠ Str.ofString "__class__") : law_classes cModeError cNoBook cNoDeed cNoGuard cNoPart cNoRow cNoText cTooMany cUnlike [.d (.exc cUnlike f d)] = some (.ret (.d (.lst [.v (.int 7)])) [.d (.exc cUnlike f d)]) := by
  have hc : clD (.exc cUnlike f d) = some (.own cUnlike) := by simp [clD, hf]
  unfold law_classes runD0
  rw [if_pos ⟨rfl, rfl⟩]
  have e1 : m_law_classes cModeError cNoBook cNoDeed cNoGuard cNoPart cNoRow cNoText cTooMany cUnlike ([O.d (.exc cUnlike f d)].map some ++ List.replicate (3 - 1) none) = some (.ret (.d (.lst [.v (.int 7)])), [some (.d (.exc cUnlike f d)), some (.d (.lst [.v (.bl false), .v (.bl false), .v (.bl false), .v (.bl false), .v (.bl false), .v (.bl false), .v (.bl false), .v (.bl true)])), none]) := by
    refine s_seq (ρ1 := [some (.d (.exc cUnlike f d)), some (.d (.lst [.v (.bl false), .v (.bl false), .v (.bl false), .v (.bl false)])), none]) (s_set (v_lst (l_cons (v_cb (l_cons v_var (l_cons v_c l_nil)) (look_eq hc rfl (lk_Unlike_NoBook nd))) (l_cons (v_cb (l_cons v_var (l_cons v_c l_nil)) (look_eq hc rfl (lk_Unlike_NoDeed nd))) (l_cons (v_cb (l_cons v_var (l_cons v_c l_nil)) (look_eq hc rfl (lk_Unlike_NoGuard nd))) (l_cons (v_cb (l_cons v_var (l_cons v_c l_nil)) (look_eq hc rfl (lk_Unlike_NoPart nd))) l_nil)))))) ?_
    refine s_seq (ρ1 := [some (.d (.exc cUnlike f d)), some (.d (.lst [.v (.bl false), .v (.bl false), .v (.bl false), .v (.bl false), .v (.bl false), .v (.bl false), .v (.bl false), .v (.bl true)])), none]) (s_set (v_op v_var (v_lst (l_cons (v_cb (l_cons v_var (l_cons v_c l_nil)) (look_eq hc rfl (lk_Unlike_NoRow nd))) (l_cons (v_cb (l_cons v_var (l_cons v_c l_nil)) (look_eq hc rfl (lk_Unlike_NoText nd))) (l_cons (v_cb (l_cons v_var (l_cons v_c l_nil)) (look_eq hc rfl (lk_Unlike_TooMany nd))) (l_cons (v_cb (l_cons v_var (l_cons v_c l_nil)) (look_eq hc rfl (lk_Unlike_Unlike nd))) l_nil))))) (show dAdd (.lst [.v (.bl false), .v (.bl false), .v (.bl false), .v (.bl false)]) (.lst [.v (.bl false), .v (.bl false), .v (.bl false), .v (.bl true)]) = some (.lst [.v (.bl false), .v (.bl false), .v (.bl false), .v (.bl false), .v (.bl false), .v (.bl false), .v (.bl false), .v (.bl true)]) from by simp [dAdd, sizeLine_eq]))) ?_
    refine s_ret ?_
    simp [rBind, lCons, lNil, xC, rPure, asR1, show List.range 8 = [0, 1, 2, 3, 4, 5, 6, 7] from rfl, lcRun, hideOk, wipeE, lcGo, gN, m_law_classes_p1, m_law_classes_p2, xT, xOp, xVar, asB, rOpt, dIx, atI, ixN, sizeLine_eq, restE]
  rw [e1]; rfl
abbrev excsO (cNoBook cNoDeed cNoGuard cNoPart cNoRow cNoText cTooMany cUnlike : Addr) (w : D) : O := .lst [.d (.exc cNoBook (Str.ofString "what") w), .d (.exc cNoDeed (Str.ofString "what") w), .d (.exc cNoGuard (Str.ofString "what") w), .d (.exc cNoPart (Str.ofString "what") w), .d (.exc cNoRow (Str.ofString "what") w), .d (.exc cNoText (Str.ofString "what") w), .d (.exc cTooMany (Str.ofString "what") w), .d (.exc cUnlike (Str.ofString "what") w)]
theorem what_ne : Str.ofString "what" ≠ Str.ofString "__class__" := by decide
theorem ne_one (i : Int) : dNe (.lst [.v (.int i)]) (.lst [.v (.int i)]) = some (.v (.bl false)) := by
  simp [dNe, dEqB, D.pd, D.pdL, SeqAt.shaped, PyData.canLay0, PyData.canLayAll0, PyData.depth, PyData.depthAll, PyData.eqv, PyData.eqvAll]
theorem p1_NoBook (nd : (exCs cModeError cNoBook cNoDeed cNoGuard cNoPart cNoRow cNoText cTooMany cUnlike).Nodup) (s dk nn : Option O) (w : D) (hw : dNe w w = some (.v (.bl false))) : m_law_p1 cModeError cNoBook cNoDeed cNoGuard cNoPart cNoRow cNoText cTooMany cUnlike [s, dk, nn, some (.d w), some (excsO cNoBook cNoDeed cNoGuard cNoPart cNoRow cNoText cTooMany cUnlike w), some (.d (.v (.int 0)))] = some (.nx, [s, dk, nn, some (.d w), some (excsO cNoBook cNoDeed cNoGuard cNoPart cNoRow cNoText cTooMany cUnlike w), some (.d (.v (.int 0)))]) := by
  have hc : clD (.exc cNoBook (Str.ofString "what") w) = some (.own cNoBook) := by simp [clD, what_ne]
  have hx : dXf (exCs cModeError cNoBook cNoDeed cNoGuard cNoPart cNoRow cNoText cTooMany cUnlike) "what" (.exc cNoBook (Str.ofString "what") w) = some w := by simp [dXf, exCs]
  refine s_seq (ρ1 := [s, dk, nn, some (.d w), some (excsO cNoBook cNoDeed cNoGuard cNoPart cNoRow cNoText cTooMany cUnlike w), some (.d (.v (.int 0)))]) (s_if0 (ρ1 := [s, dk, nn, some (.d w), some (excsO cNoBook cNoDeed cNoGuard cNoPart cNoRow cNoText cTooMany cUnlike w), some (.d (.v (.int 0)))]) (t_or0 (t_T (v_op (v_fz (x := .lst [.v (.int 0)]) (o_call (ar_cons (v_rd (p_ixL p_var v_var)) ar_nil) rfl (cl_NoBook nd _ w what_ne) rfl) rfl) (v_lst (l_cons v_var l_nil)) (ne_one 0))) (t_T (v_op (v_un (v_rd (p_ixL p_var v_var)) hx) v_var hw))) s_next) ?_
  exact s_if0 (ρ1 := [s, dk, nn, some (.d w), some (excsO cNoBook cNoDeed cNoGuard cNoPart cNoRow cNoText cTooMany cUnlike w), some (.d (.v (.int 0)))]) (t_or0 (t_not (t_T (v_cb (l_cons (v_rd (p_ixL p_var v_var)) (l_cons v_c l_nil)) (look_eq hc rfl (lk_NoBook_ModeError nd))))) (t_not (t_T (v_cb (l_cons (v_rd (p_ixL p_var v_var)) (l_cons v_c l_nil)) (look_eq hc rfl (lk_NoBook_ValueError nd)))))) s_next
theorem p1_NoDeed (nd : (exCs cModeError cNoBook cNoDeed cNoGuard cNoPart cNoRow cNoText cTooMany cUnlike).Nodup) (s dk nn : Option O) (w : D) (hw : dNe w w = some (.v (.bl false))) : m_law_p1 cModeError cNoBook cNoDeed cNoGuard cNoPart cNoRow cNoText cTooMany cUnlike [s, dk, nn, some (.d w), some (excsO cNoBook cNoDeed cNoGuard cNoPart cNoRow cNoText cTooMany cUnlike w), some (.d (.v (.int 1)))] = some (.nx, [s, dk, nn, some (.d w), some (excsO cNoBook cNoDeed cNoGuard cNoPart cNoRow cNoText cTooMany cUnlike w), some (.d (.v (.int 1)))]) := by
  have hc : clD (.exc cNoDeed (Str.ofString "what") w) = some (.own cNoDeed) := by simp [clD, what_ne]
  have hx : dXf (exCs cModeError cNoBook cNoDeed cNoGuard cNoPart cNoRow cNoText cTooMany cUnlike) "what" (.exc cNoDeed (Str.ofString "what") w) = some w := by simp [dXf, exCs]
  refine s_seq (ρ1 := [s, dk, nn, some (.d w), some (excsO cNoBook cNoDeed cNoGuard cNoPart cNoRow cNoText cTooMany cUnlike w), some (.d (.v (.int 1)))]) (s_if0 (ρ1 := [s, dk, nn, some (.d w), some (excsO cNoBook cNoDeed cNoGuard cNoPart cNoRow cNoText cTooMany cUnlike w), some (.d (.v (.int 1)))]) (t_or0 (t_T (v_op (v_fz (x := .lst [.v (.int 1)]) (o_call (ar_cons (v_rd (p_ixL p_var v_var)) ar_nil) rfl (cl_NoDeed nd _ w what_ne) rfl) rfl) (v_lst (l_cons v_var l_nil)) (ne_one 1))) (t_T (v_op (v_un (v_rd (p_ixL p_var v_var)) hx) v_var hw))) s_next) ?_
  exact s_if0 (ρ1 := [s, dk, nn, some (.d w), some (excsO cNoBook cNoDeed cNoGuard cNoPart cNoRow cNoText cTooMany cUnlike w), some (.d (.v (.int 1)))]) (t_or0 (t_not (t_T (v_cb (l_cons (v_rd (p_ixL p_var v_var)) (l_cons v_c l_nil)) (look_eq hc rfl (lk_NoDeed_ModeError nd))))) (t_not (t_T (v_cb (l_cons (v_rd (p_ixL p_var v_var)) (l_cons v_c l_nil)) (look_eq hc rfl (lk_NoDeed_ValueError nd)))))) s_next
theorem p1_NoGuard (nd : (exCs cModeError cNoBook cNoDeed cNoGuard cNoPart cNoRow cNoText cTooMany cUnlike).Nodup) (s dk nn : Option O) (w : D) (hw : dNe w w = some (.v (.bl false))) : m_law_p1 cModeError cNoBook cNoDeed cNoGuard cNoPart cNoRow cNoText cTooMany cUnlike [s, dk, nn, some (.d w), some (excsO cNoBook cNoDeed cNoGuard cNoPart cNoRow cNoText cTooMany cUnlike w), some (.d (.v (.int 2)))] = some (.nx, [s, dk, nn, some (.d w), some (excsO cNoBook cNoDeed cNoGuard cNoPart cNoRow cNoText cTooMany cUnlike w), some (.d (.v (.int 2)))]) := by
  have hc : clD (.exc cNoGuard (Str.ofString "what") w) = some (.own cNoGuard) := by simp [clD, what_ne]
  have hx : dXf (exCs cModeError cNoBook cNoDeed cNoGuard cNoPart cNoRow cNoText cTooMany cUnlike) "what" (.exc cNoGuard (Str.ofString "what") w) = some w := by simp [dXf, exCs]
  refine s_seq (ρ1 := [s, dk, nn, some (.d w), some (excsO cNoBook cNoDeed cNoGuard cNoPart cNoRow cNoText cTooMany cUnlike w), some (.d (.v (.int 2)))]) (s_if0 (ρ1 := [s, dk, nn, some (.d w), some (excsO cNoBook cNoDeed cNoGuard cNoPart cNoRow cNoText cTooMany cUnlike w), some (.d (.v (.int 2)))]) (t_or0 (t_T (v_op (v_fz (x := .lst [.v (.int 2)]) (o_call (ar_cons (v_rd (p_ixL p_var v_var)) ar_nil) rfl (cl_NoGuard nd _ w what_ne) rfl) rfl) (v_lst (l_cons v_var l_nil)) (ne_one 2))) (t_T (v_op (v_un (v_rd (p_ixL p_var v_var)) hx) v_var hw))) s_next) ?_
  exact s_if0 (ρ1 := [s, dk, nn, some (.d w), some (excsO cNoBook cNoDeed cNoGuard cNoPart cNoRow cNoText cTooMany cUnlike w), some (.d (.v (.int 2)))]) (t_or0 (t_not (t_T (v_cb (l_cons (v_rd (p_ixL p_var v_var)) (l_cons v_c l_nil)) (look_eq hc rfl (lk_NoGuard_ModeError nd))))) (t_not (t_T (v_cb (l_cons (v_rd (p_ixL p_var v_var)) (l_cons v_c l_nil)) (look_eq hc rfl (lk_NoGuard_ValueError nd)))))) s_next
theorem p1_NoPart (nd : (exCs cModeError cNoBook cNoDeed cNoGuard cNoPart cNoRow cNoText cTooMany cUnlike).Nodup) (s dk nn : Option O) (w : D) (hw : dNe w w = some (.v (.bl false))) : m_law_p1 cModeError cNoBook cNoDeed cNoGuard cNoPart cNoRow cNoText cTooMany cUnlike [s, dk, nn, some (.d w), some (excsO cNoBook cNoDeed cNoGuard cNoPart cNoRow cNoText cTooMany cUnlike w), some (.d (.v (.int 3)))] = some (.nx, [s, dk, nn, some (.d w), some (excsO cNoBook cNoDeed cNoGuard cNoPart cNoRow cNoText cTooMany cUnlike w), some (.d (.v (.int 3)))]) := by
  have hc : clD (.exc cNoPart (Str.ofString "what") w) = some (.own cNoPart) := by simp [clD, what_ne]
  have hx : dXf (exCs cModeError cNoBook cNoDeed cNoGuard cNoPart cNoRow cNoText cTooMany cUnlike) "what" (.exc cNoPart (Str.ofString "what") w) = some w := by simp [dXf, exCs]
  refine s_seq (ρ1 := [s, dk, nn, some (.d w), some (excsO cNoBook cNoDeed cNoGuard cNoPart cNoRow cNoText cTooMany cUnlike w), some (.d (.v (.int 3)))]) (s_if0 (ρ1 := [s, dk, nn, some (.d w), some (excsO cNoBook cNoDeed cNoGuard cNoPart cNoRow cNoText cTooMany cUnlike w), some (.d (.v (.int 3)))]) (t_or0 (t_T (v_op (v_fz (x := .lst [.v (.int 3)]) (o_call (ar_cons (v_rd (p_ixL p_var v_var)) ar_nil) rfl (cl_NoPart nd _ w what_ne) rfl) rfl) (v_lst (l_cons v_var l_nil)) (ne_one 3))) (t_T (v_op (v_un (v_rd (p_ixL p_var v_var)) hx) v_var hw))) s_next) ?_
  exact s_if0 (ρ1 := [s, dk, nn, some (.d w), some (excsO cNoBook cNoDeed cNoGuard cNoPart cNoRow cNoText cTooMany cUnlike w), some (.d (.v (.int 3)))]) (t_or0 (t_not (t_T (v_cb (l_cons (v_rd (p_ixL p_var v_var)) (l_cons v_c l_nil)) (look_eq hc rfl (lk_NoPart_ModeError nd))))) (t_not (t_T (v_cb (l_cons (v_rd (p_ixL p_var v_var)) (l_cons v_c l_nil)) (look_eq hc rfl (lk_NoPart_ValueError nd)))))) s_next
theorem p1_NoRow (nd : (exCs cModeError cNoBook cNoDeed cNoGuard cNoPart cNoRow cNoText cTooMany cUnlike).Nodup) (s dk nn : Option O) (w : D) (hw : dNe w w = some (.v (.bl false))) : m_law_p1 cModeError cNoBook cNoDeed cNoGuard cNoPart cNoRow cNoText cTooMany cUnlike [s, dk, nn, some (.d w), some (excsO cNoBook cNoDeed cNoGuard cNoPart cNoRow cNoText cTooMany cUnlike w), some (.d (.v (.int 4)))] = some (.nx, [s, dk, nn, some (.d w), some (excsO cNoBook cNoDeed cNoGuard cNoPart cNoRow cNoText cTooMany cUnlike w), some (.d (.v (.int 4)))]) := by
  have hc : clD (.exc cNoRow (Str.ofString "what") w) = some (.own cNoRow) := by simp [clD, what_ne]
  have hx : dXf (exCs cModeError cNoBook cNoDeed cNoGuard cNoPart cNoRow cNoText cTooMany cUnlike) "what" (.exc cNoRow (Str.ofString "what") w) = some w := by simp [dXf, exCs]
  refine s_seq (ρ1 := [s, dk, nn, some (.d w), some (excsO cNoBook cNoDeed cNoGuard cNoPart cNoRow cNoText cTooMany cUnlike w), some (.d (.v (.int 4)))]) (s_if0 (ρ1 := [s, dk, nn, some (.d w), some (excsO cNoBook cNoDeed cNoGuard cNoPart cNoRow cNoText cTooMany cUnlike w), some (.d (.v (.int 4)))]) (t_or0 (t_T (v_op (v_fz (x := .lst [.v (.int 4)]) (o_call (ar_cons (v_rd (p_ixL p_var v_var)) ar_nil) rfl (cl_NoRow nd _ w what_ne) rfl) rfl) (v_lst (l_cons v_var l_nil)) (ne_one 4))) (t_T (v_op (v_un (v_rd (p_ixL p_var v_var)) hx) v_var hw))) s_next) ?_
  exact s_if0 (ρ1 := [s, dk, nn, some (.d w), some (excsO cNoBook cNoDeed cNoGuard cNoPart cNoRow cNoText cTooMany cUnlike w), some (.d (.v (.int 4)))]) (t_or0 (t_not (t_T (v_cb (l_cons (v_rd (p_ixL p_var v_var)) (l_cons v_c l_nil)) (look_eq hc rfl (lk_NoRow_ModeError nd))))) (t_not (t_T (v_cb (l_cons (v_rd (p_ixL p_var v_var)) (l_cons v_c l_nil)) (look_eq hc rfl (lk_NoRow_ValueError nd)))))) s_next
theorem p1_NoText (nd : (exCs cModeError cNoBook cNoDeed cNoGuard cNoPart cNoRow cNoText cTooMany cUnlike).Nodup) (s dk nn : Option O) (w : D) (hw : dNe w w = some (.v (.bl false))) : m_law_p1 cModeError cNoBook cNoDeed cNoGuard cNoPart cNoRow cNoText cTooMany cUnlike [s, dk, nn, some (.d w), some (excsO cNoBook cNoDeed cNoGuard cNoPart cNoRow cNoText cTooMany cUnlike w), some (.d (.v (.int 5)))] = some (.nx, [s, dk, nn, some (.d w), some (excsO cNoBook cNoDeed cNoGuard cNoPart cNoRow cNoText cTooMany cUnlike w), some (.d (.v (.int 5)))]) := by
  have hc : clD (.exc cNoText (Str.ofString "what") w) = some (.own cNoText) := by simp [clD, what_ne]
  have hx : dXf (exCs cModeError cNoBook cNoDeed cNoGuard cNoPart cNoRow cNoText cTooMany cUnlike) "what" (.exc cNoText (Str.ofString "what") w) = some w := by simp [dXf, exCs]
  refine s_seq (ρ1 := [s, dk, nn, some (.d w), some (excsO cNoBook cNoDeed cNoGuard cNoPart cNoRow cNoText cTooMany cUnlike w), some (.d (.v (.int 5)))]) (s_if0 (ρ1 := [s, dk, nn, some (.d w), some (excsO cNoBook cNoDeed cNoGuard cNoPart cNoRow cNoText cTooMany cUnlike w), some (.d (.v (.int 5)))]) (t_or0 (t_T (v_op (v_fz (x := .lst [.v (.int 5)]) (o_call (ar_cons (v_rd (p_ixL p_var v_var)) ar_nil) rfl (cl_NoText nd _ w what_ne) rfl) rfl) (v_lst (l_cons v_var l_nil)) (ne_one 5))) (t_T (v_op (v_un (v_rd (p_ixL p_var v_var)) hx) v_var hw))) s_next) ?_
  exact s_if0 (ρ1 := [s, dk, nn, some (.d w), some (excsO cNoBook cNoDeed cNoGuard cNoPart cNoRow cNoText cTooMany cUnlike w), some (.d (.v (.int 5)))]) (t_or0 (t_not (t_T (v_cb (l_cons (v_rd (p_ixL p_var v_var)) (l_cons v_c l_nil)) (look_eq hc rfl (lk_NoText_ModeError nd))))) (t_not (t_T (v_cb (l_cons (v_rd (p_ixL p_var v_var)) (l_cons v_c l_nil)) (look_eq hc rfl (lk_NoText_ValueError nd)))))) s_next
theorem p1_TooMany (nd : (exCs cModeError cNoBook cNoDeed cNoGuard cNoPart cNoRow cNoText cTooMany cUnlike).Nodup) (s dk nn : Option O) (w : D) (hw : dNe w w = some (.v (.bl false))) : m_law_p1 cModeError cNoBook cNoDeed cNoGuard cNoPart cNoRow cNoText cTooMany cUnlike [s, dk, nn, some (.d w), some (excsO cNoBook cNoDeed cNoGuard cNoPart cNoRow cNoText cTooMany cUnlike w), some (.d (.v (.int 6)))] = some (.nx, [s, dk, nn, some (.d w), some (excsO cNoBook cNoDeed cNoGuard cNoPart cNoRow cNoText cTooMany cUnlike w), some (.d (.v (.int 6)))]) := by
  have hc : clD (.exc cTooMany (Str.ofString "what") w) = some (.own cTooMany) := by simp [clD, what_ne]
  have hx : dXf (exCs cModeError cNoBook cNoDeed cNoGuard cNoPart cNoRow cNoText cTooMany cUnlike) "what" (.exc cTooMany (Str.ofString "what") w) = some w := by simp [dXf, exCs]
  refine s_seq (ρ1 := [s, dk, nn, some (.d w), some (excsO cNoBook cNoDeed cNoGuard cNoPart cNoRow cNoText cTooMany cUnlike w), some (.d (.v (.int 6)))]) (s_if0 (ρ1 := [s, dk, nn, some (.d w), some (excsO cNoBook cNoDeed cNoGuard cNoPart cNoRow cNoText cTooMany cUnlike w), some (.d (.v (.int 6)))]) (t_or0 (t_T (v_op (v_fz (x := .lst [.v (.int 6)]) (o_call (ar_cons (v_rd (p_ixL p_var v_var)) ar_nil) rfl (cl_TooMany nd _ w what_ne) rfl) rfl) (v_lst (l_cons v_var l_nil)) (ne_one 6))) (t_T (v_op (v_un (v_rd (p_ixL p_var v_var)) hx) v_var hw))) s_next) ?_
  exact s_if0 (ρ1 := [s, dk, nn, some (.d w), some (excsO cNoBook cNoDeed cNoGuard cNoPart cNoRow cNoText cTooMany cUnlike w), some (.d (.v (.int 6)))]) (t_or0 (t_not (t_T (v_cb (l_cons (v_rd (p_ixL p_var v_var)) (l_cons v_c l_nil)) (look_eq hc rfl (lk_TooMany_ModeError nd))))) (t_not (t_T (v_cb (l_cons (v_rd (p_ixL p_var v_var)) (l_cons v_c l_nil)) (look_eq hc rfl (lk_TooMany_ValueError nd)))))) s_next
theorem p1_Unlike (nd : (exCs cModeError cNoBook cNoDeed cNoGuard cNoPart cNoRow cNoText cTooMany cUnlike).Nodup) (s dk nn : Option O) (w : D) (hw : dNe w w = some (.v (.bl false))) : m_law_p1 cModeError cNoBook cNoDeed cNoGuard cNoPart cNoRow cNoText cTooMany cUnlike [s, dk, nn, some (.d w), some (excsO cNoBook cNoDeed cNoGuard cNoPart cNoRow cNoText cTooMany cUnlike w), some (.d (.v (.int 7)))] = some (.nx, [s, dk, nn, some (.d w), some (excsO cNoBook cNoDeed cNoGuard cNoPart cNoRow cNoText cTooMany cUnlike w), some (.d (.v (.int 7)))]) := by
  have hc : clD (.exc cUnlike (Str.ofString "what") w) = some (.own cUnlike) := by simp [clD, what_ne]
  have hx : dXf (exCs cModeError cNoBook cNoDeed cNoGuard cNoPart cNoRow cNoText cTooMany cUnlike) "what" (.exc cUnlike (Str.ofString "what") w) = some w := by simp [dXf, exCs]
  refine s_seq (ρ1 := [s, dk, nn, some (.d w), some (excsO cNoBook cNoDeed cNoGuard cNoPart cNoRow cNoText cTooMany cUnlike w), some (.d (.v (.int 7)))]) (s_if0 (ρ1 := [s, dk, nn, some (.d w), some (excsO cNoBook cNoDeed cNoGuard cNoPart cNoRow cNoText cTooMany cUnlike w), some (.d (.v (.int 7)))]) (t_or0 (t_T (v_op (v_fz (x := .lst [.v (.int 7)]) (o_call (ar_cons (v_rd (p_ixL p_var v_var)) ar_nil) rfl (cl_Unlike nd _ w what_ne) rfl) rfl) (v_lst (l_cons v_var l_nil)) (ne_one 7))) (t_T (v_op (v_un (v_rd (p_ixL p_var v_var)) hx) v_var hw))) s_next) ?_
  exact s_if0 (ρ1 := [s, dk, nn, some (.d w), some (excsO cNoBook cNoDeed cNoGuard cNoPart cNoRow cNoText cTooMany cUnlike w), some (.d (.v (.int 7)))]) (t_or0 (t_not (t_T (v_cb (l_cons (v_rd (p_ixL p_var v_var)) (l_cons v_c l_nil)) (look_eq hc rfl (lk_Unlike_ModeError nd))))) (t_not (t_T (v_cb (l_cons (v_rd (p_ixL p_var v_var)) (l_cons v_c l_nil)) (look_eq hc rfl (lk_Unlike_ValueError nd)))))) s_next
end
end Mo
namespace Mo
open PySem PySem.Spec PyProof.Rows L2 Dat DatE
section
variable {cModeError cNoBook cNoDeed cNoGuard cNoPart cNoRow cNoText cTooMany cUnlike : Addr}
theorem p2_ok (nd : (exCs cModeError cNoBook cNoDeed cNoGuard cNoPart cNoRow cNoText cTooMany cUnlike).Nodup) (s dk nn x4 x5 : Option O) (w : D) (hw : dNe w w = some (.v (.bl false))) (he : ∀ C, dExcOf C "what" w = some (.exc C (Str.ofString "what") w)) : m_law_p2 cModeError cNoBook cNoDeed cNoGuard cNoPart cNoRow cNoText cTooMany cUnlike [s, dk, nn, some (.d w), x4, x5] = some (.nx, [s, dk, nn, some (.d w), some (excsO cNoBook cNoDeed cNoGuard cNoPart cNoRow cNoText cTooMany cUnlike w), some (.d (.v (.int 7)))]) := by
  refine s_seq (ρ1 := [s, dk, nn, some (.d w), some (.lst [.d (.exc cNoBook (Str.ofString "what") w), .d (.exc cNoDeed (Str.ofString "what") w), .d (.exc cNoGuard (Str.ofString "what") w), .d (.exc cNoPart (Str.ofString "what") w), .d (.exc cNoRow (Str.ofString "what") w), .d (.exc cNoText (Str.ofString "what") w), .d (.exc cTooMany (Str.ofString "what") w)]), x5]) (s_setO (o_lst (o_cons (o_D (v_un v_var (he cNoBook))) (o_cons (o_D (v_un v_var (he cNoDeed))) (o_cons (o_D (v_un v_var (he cNoGuard))) (o_cons (o_D (v_un v_var (he cNoPart))) (o_cons (o_D (v_un v_var (he cNoRow))) (o_cons (o_D (v_un v_var (he cNoText))) (o_cons (o_D (v_un v_var (he cTooMany))) o_nil))))))))) ?_
  refine s_seq (ρ1 := [s, dk, nn, some (.d w), some (excsO cNoBook cNoDeed cNoGuard cNoPart cNoRow cNoText cTooMany cUnlike w), x5]) (s_drop (v_mut p_var rfl rfl rfl (l_cons (v_un v_var (he cUnlike)) l_nil) (n_append) rfl rfl)) ?_
  refine s_forE (ρ1 := [s, dk, nn, some (.d w), some (excsO cNoBook cNoDeed cNoGuard cNoPart cNoRow cNoText cTooMany cUnlike w), x5]) (ds := [.v (.int 0), .v (.int 1), .v (.int 2), .v (.int 3), .v (.int 4), .v (.int 5), .v (.int 6), .v (.int 7)]) (b_asL (l_cons v_c l_nil) rfl) ?_
  exact (s_forC (g_N (ρ2 := [s, dk, nn, some (.d w), some (excsO cNoBook cNoDeed cNoGuard cNoPart cNoRow cNoText cTooMany cUnlike w), some (.d (.v (.int 0)))])) (p1_NoBook nd s dk nn w hw) (s_forC (g_N (ρ2 := [s, dk, nn, some (.d w), some (excsO cNoBook cNoDeed cNoGuard cNoPart cNoRow cNoText cTooMany cUnlike w), some (.d (.v (.int 1)))])) (p1_NoDeed nd s dk nn w hw) (s_forC (g_N (ρ2 := [s, dk, nn, some (.d w), some (excsO cNoBook cNoDeed cNoGuard cNoPart cNoRow cNoText cTooMany cUnlike w), some (.d (.v (.int 2)))])) (p1_NoGuard nd s dk nn w hw) (s_forC (g_N (ρ2 := [s, dk, nn, some (.d w), some (excsO cNoBook cNoDeed cNoGuard cNoPart cNoRow cNoText cTooMany cUnlike w), some (.d (.v (.int 3)))])) (p1_NoPart nd s dk nn w hw) (s_forC (g_N (ρ2 := [s, dk, nn, some (.d w), some (excsO cNoBook cNoDeed cNoGuard cNoPart cNoRow cNoText cTooMany cUnlike w), some (.d (.v (.int 4)))])) (p1_NoRow nd s dk nn w hw) (s_forC (g_N (ρ2 := [s, dk, nn, some (.d w), some (excsO cNoBook cNoDeed cNoGuard cNoPart cNoRow cNoText cTooMany cUnlike w), some (.d (.v (.int 5)))])) (p1_NoText nd s dk nn w hw) (s_forC (g_N (ρ2 := [s, dk, nn, some (.d w), some (excsO cNoBook cNoDeed cNoGuard cNoPart cNoRow cNoText cTooMany cUnlike w), some (.d (.v (.int 6)))])) (p1_TooMany nd s dk nn w hw) (s_forC (g_N (ρ2 := [s, dk, nn, some (.d w), some (excsO cNoBook cNoDeed cNoGuard cNoPart cNoRow cNoText cTooMany cUnlike w), some (.d (.v (.int 7)))])) (p1_Unlike nd s dk nn w hw) s_for0))))))))
theorem ne_int (i : Int) : dNe (.v (.int i)) (.v (.int i)) = some (.v (.bl false)) := by
  simp [dNe, dEqB, D.pd, SeqAt.shaped, PyData.canLay0, PyData.depth, PyData.eqv]
theorem ne_non : dNe (.v .non) (.v .non) = some (.v (.bl false)) := by
  simp [dNe, dEqB, D.pd, SeqAt.shaped, PyData.canLay0, PyData.depth, PyData.eqv]
theorem ne_str (x : Str) (h : PyData.strOk x = true) : dNe (.v (.str x)) (.v (.str x)) = some (.v (.bl false)) := by
  simp [dNe, dEqB, D.pd, SeqAt.shaped, PyData.canLay0, PyData.depth, PyData.eqv, h]
theorem ne_tup (x y : Str) (h : PyData.strOk x = true) (h2 : PyData.strOk y = true) : dNe (.tup [.v (.str x), .v (.str y)]) (.tup [.v (.str x), .v (.str y)]) = some (.v (.bl false)) := by
  simp [dNe, dEqB, D.pd, D.pdL, SeqAt.shaped, PyData.canLay0, PyData.canLayAll0, PyData.depth, PyData.depthAll, PyData.eqv, PyData.eqvAll, h, h2]
theorem law_true (nd : (exCs cModeError cNoBook cNoDeed cNoGuard cNoPart cNoRow cNoText cTooMany cUnlike).Nodup) (ns : List Int) (hl : ns.length ≤ 63) : law cModeError cNoBook cNoDeed cNoGuard cNoPart cNoRow cNoText cTooMany cUnlike [.d (.scr ns)] = some (.ret (.d (.v (.bl true))) [.d (.scr ns)]) := by
  obtain ⟨g, f, e1, hf, hf2, hg, hg2⟩ := deck_ok ns hl
  obtain ⟨g', k', r, e2, h1, h2, h3, h4, h5, h6⟩ := take_ok g f 0 1000000000 hf hf2 (by decide) (by decide) (by decide) (by decide) hg2
  unfold law runD0
  rw [if_pos ⟨rfl, rfl⟩]
  have e : m_law cModeError cNoBook cNoDeed cNoGuard cNoPart cNoRow cNoText cTooMany cUnlike ([O.d (.scr ns)].map some ++ List.replicate (6 - 1) none) = some (.ret (.d (.v (.bl true))), [some (.d (.scr ns)), some (deckO g' f k'), some (oI r), some (.d (.v (.str ""))), some (excsO cNoBook cNoDeed cNoGuard cNoPart cNoRow cNoText cTooMany cUnlike (.v (.str ""))), some (oI 7)]) := by
    refine s_seq (ρ1 := [some (.d (.scr ns)), some (deckO g f 0), none, none, none, none]) (s_setO (o_call (ρ2 := [some (.d (.scr ns)), none, none, none, none, none]) (ar_cons v_var ar_nil) rfl e1 rfl)) ?_
    refine s_seq (ρ1 := [some (.d (.scr ns)), some (deckO g' f k'), some (oI r), none, none, none]) (s_set (v_fz (x := .v (.int r)) (o_call (ρ2 := [some (.d (.scr ns)), some (deckO g' f k'), none, none, none, none]) (ar_ref rfl (ar_cons (v_op (z := .v (.int 1000000000)) v_c v_c (by simp [dPow, dI2])) ar_nil)) rfl e2 rfl))) ?_
    refine s_seq (s_forE (b_as (v_lst (l_cons v_var (l_cons v_c (l_cons (v_tup (l_cons v_c (l_cons v_c l_nil))) (l_cons v_c (l_cons v_c l_nil)))))) a_L) ?_) (s_ret v_c)
    refine s_forC (g_N) (p2_ok nd _ _ _ _ _ _ (ne_int r) fun _ => rfl) ?_
    refine s_forC (g_N) (p2_ok nd _ _ _ _ _ _ (ne_str _ (by decide +kernel)) fun _ => rfl) ?_
    refine s_forC (g_N) (p2_ok nd _ _ _ _ _ _ (ne_tup _ _ (by decide +kernel) (by decide +kernel)) fun _ => rfl) ?_
    refine s_forC (g_N) (p2_ok nd _ _ _ _ _ _ ne_non fun _ => rfl) ?_
    refine s_forC (g_N) (p2_ok nd _ _ _ _ _ _ (ne_str _ (by decide +kernel)) fun _ => rfl) ?_
    exact s_for0
  rw [e]; rfl
end
end Mo
namespace Mo
open PySem PySem.Spec PyProof.Rows L2 Dat DatE
def kid (s : Stmt) (i : Nat) : Stmt := match s with
  | .ClassDef (body := b) .. => b.getD i (.Pass ⟨0, 0, 0, 0⟩)
  | _ => .Pass ⟨0, 0, 0, 0⟩
abbrev s_init : Stmt := kid (top 1) 0
def N_init : List Str := ["self", "what"]
theorem sc_init : FnScope N_init N_init (defScope s_init) := ⟨rfl, rfl, rfl, by decide +kernel, rfl, by decide +kernel, by decide +kernel⟩
section
variable {P : Program} {w : World} {K : PySem.W.Frag} {mg : Str → Option Value} {base : Heap} {f : Addr} {fd : FuncData}
theorem ok_init (F : FnP K "__init__" "ModeError.__init__" s_init f fd) : FnOk P w K mg base CX0 1 f fd ["self", "what"] (spEx K "what") := by
  refine F.ok sc_init (fun vs H Q E h => ?_) (fun cdv A outer s H vs Q E hr h => ⟨_, PSs.nox (pss_one (ps_ost (pv 0) (pv 1))), ?_⟩)
  · obtain ⟨a, C, x, rfl, _⟩ := h
    rfl
  · obtain ⟨a, C, x, rfl, h1, h2, h3, q⟩ := h
    exact ⟨_, rfl, _, rfl, a, C, rfl, h1, h2, .inl ⟨h3, fun dx n ne => q dx n ne⟩⟩
end
end Mo
--HEAD
namespace Mo
open PySem PySem.Spec PyProof.Rows L2 Dat DatE
def dI : He.DefD := ⟨("ModeError", some "__init__"), "__init__", "ModeError.__init__", defArgs s_init, defBody s_init, defScope s_init, [], []⟩
def d_law_deck : He.DefD := ⟨("_law_deck", none), "_law_deck", "_law_deck", defArgs s_law_deck, defBody s_law_deck, defScope s_law_deck, [], []⟩
def d_law_take : He.DefD := ⟨("_law_take", none), "_law_take", "_law_take", defArgs s_law_take, defBody s_law_take, defScope s_law_take, [], []⟩
def d_law_classes : He.DefD := ⟨("_law_classes", none), "_law_classes", "_law_classes", defArgs s_law_classes, defBody s_law_classes, defScope s_law_classes, [], []⟩
def d_law : He.DefD := ⟨("law", none), "law", "law", defArgs s_law, defBody s_law, defScope s_law, [], []⟩
def fn : List He.DefD := [dI, d_law_deck, d_law_take, d_law_classes, d_law]
def fa : List He.Fa := [.glo "ModeError", .glo "NoBook", .glo "NoDeed", .glo "NoGuard", .glo "NoPart", .glo "NoRow", .glo "NoText", .glo "TooMany", .glo "Unlike", .glo "_law_deck", .glo "_law_take", .glo "_law_classes", .glo "law", .free "ValueError", .free "abs", .free "isinstance", .free "range"]
def fE (K : PySem.W.Frag) : Addr := He.ma K (He.ga K "ModeError") "__init__"
def ex0 (K : PySem.W.Frag) : Bool := exB K "what" (He.ga K "ModeError")
def ex1 (K : PySem.W.Frag) : Bool := exB K "what" (He.ga K "NoBook")
def ex2 (K : PySem.W.Frag) : Bool := exB K "what" (He.ga K "NoDeed")
def ex3 (K : PySem.W.Frag) : Bool := exB K "what" (He.ga K "NoGuard")
def ex4 (K : PySem.W.Frag) : Bool := exB K "what" (He.ga K "NoPart")
def ex5 (K : PySem.W.Frag) : Bool := exB K "what" (He.ga K "NoRow")
def ex6 (K : PySem.W.Frag) : Bool := exB K "what" (He.ga K "NoText")
def ex7 (K : PySem.W.Frag) : Bool := exB K "what" (He.ga K "TooMany")
def ex8 (K : PySem.W.Frag) : Bool := exB K "what" (He.ga K "Unlike")
def ex9 (K : PySem.W.Frag) : Bool := decide (PySem.W.findIn K (.ref (He.ga K "ModeError")) "__init__" = some (some (.ref (fE K))))
def ex10 (K : PySem.W.Frag) : Bool := decide (PySem.W.findIn K (.ref (He.ga K "NoBook")) "__init__" = some (some (.ref (fE K))))
def ex11 (K : PySem.W.Frag) : Bool := decide (PySem.W.findIn K (.ref (He.ga K "NoDeed")) "__init__" = some (some (.ref (fE K))))
def ex12 (K : PySem.W.Frag) : Bool := decide (PySem.W.findIn K (.ref (He.ga K "NoGuard")) "__init__" = some (some (.ref (fE K))))
def ex13 (K : PySem.W.Frag) : Bool := decide (PySem.W.findIn K (.ref (He.ga K "NoPart")) "__init__" = some (some (.ref (fE K))))
def ex14 (K : PySem.W.Frag) : Bool := decide (PySem.W.findIn K (.ref (He.ga K "NoRow")) "__init__" = some (some (.ref (fE K))))
def ex15 (K : PySem.W.Frag) : Bool := decide (PySem.W.findIn K (.ref (He.ga K "NoText")) "__init__" = some (some (.ref (fE K))))
def ex16 (K : PySem.W.Frag) : Bool := decide (PySem.W.findIn K (.ref (He.ga K "TooMany")) "__init__" = some (some (.ref (fE K))))
def ex17 (K : PySem.W.Frag) : Bool := decide (PySem.W.findIn K (.ref (He.ga K "Unlike")) "__init__" = some (some (.ref (fE K))))
def ex18 (K : PySem.W.Frag) : Bool := isB K (isT (He.ga K "ModeError") (He.ga K "NoBook") (He.ga K "NoDeed") (He.ga K "NoGuard") (He.ga K "NoPart") (He.ga K "NoRow") (He.ga K "NoText") (He.ga K "TooMany") (He.ga K "Unlike"))
def ex19 (K : PySem.W.Frag) : Bool := decide (exCs (He.ga K "ModeError") (He.ga K "NoBook") (He.ga K "NoDeed") (He.ga K "NoGuard") (He.ga K "NoPart") (He.ga K "NoRow") (He.ga K "NoText") (He.ga K "TooMany") (He.ga K "Unlike")).Nodup
def ex20 (K : PySem.W.Frag) : Bool := decide (PySem.W.typeIn K (.ref (fE K)) = some (.type "function"))
def ex (K : PySem.W.Frag) : Bool := ex0 K && (ex1 K && (ex2 K && (ex3 K && (ex4 K && (ex5 K && (ex6 K && (ex7 K && (ex8 K && (ex9 K && (ex10 K && (ex11 K && (ex12 K && (ex13 K && (ex14 K && (ex15 K && (ex16 K && (ex17 K && (ex18 K && (ex19 K && (ex20 K))))))))))))))))))))
abbrev R : PySem.W.OpenRow := PySem.W.OpenLaw.row PySem.Challenge.rw_modeholds_k05_refusals_made
abbrev hk : PySem.W.Hook := He.hookX 4 fa fn [] [] ex
def ob (s : PySem.W.SharedT) : He.AlX := He.obsX 4 fa fn [] [] ex (HandSHeadRun.getT s)
theorem ob_eq (s : PySem.W.SharedT) : ob s = hk.obs s.abs := He.obsX_eq (HandSHeadRun.getT_eq s)
def loose : List Str := ["__name__", "ModeError", "NoBook", "NoDeed", "NoGuard", "NoPart", "TooMany", "Unlike", "NoText", "NoRow", "_law_deck", "_law_take", "_law_classes"]
theorem run (w : World) : HandSHeadRun.RunEq R (PySem.W.view R.prog [14]) hk ob 30000 loose w := by
  intro os
  kernel_rfl
theorem exs {K : PySem.W.Frag} (h : ex K = true) : ex0 K = true ∧ ex1 K = true ∧ ex2 K = true ∧ ex3 K = true ∧ ex4 K = true ∧ ex5 K = true ∧ ex6 K = true ∧ ex7 K = true ∧ ex8 K = true ∧ ex9 K = true ∧ ex10 K = true ∧ ex11 K = true ∧ ex12 K = true ∧ ex13 K = true ∧ ex14 K = true ∧ ex15 K = true ∧ ex16 K = true ∧ ex17 K = true ∧ ex18 K = true ∧ ex19 K = true ∧ ex20 K = true := by
  unfold ex at h
  obtain ⟨x0, h⟩ := and2 h
  obtain ⟨x1, h⟩ := and2 h
  obtain ⟨x2, h⟩ := and2 h
  obtain ⟨x3, h⟩ := and2 h
  obtain ⟨x4, h⟩ := and2 h
  obtain ⟨x5, h⟩ := and2 h
  obtain ⟨x6, h⟩ := and2 h
  obtain ⟨x7, h⟩ := and2 h
  obtain ⟨x8, h⟩ := and2 h
  obtain ⟨x9, h⟩ := and2 h
  obtain ⟨x10, h⟩ := and2 h
  obtain ⟨x11, h⟩ := and2 h
  obtain ⟨x12, h⟩ := and2 h
  obtain ⟨x13, h⟩ := and2 h
  obtain ⟨x14, h⟩ := and2 h
  obtain ⟨x15, h⟩ := and2 h
  obtain ⟨x16, h⟩ := and2 h
  obtain ⟨x17, h⟩ := and2 h
  obtain ⟨x18, h⟩ := and2 h
  obtain ⟨x19, h⟩ := and2 h
  exact ⟨x0, x1, x2, x3, x4, x5, x6, x7, x8, x9, x10, x11, x12, x13, x14, x15, x16, x17, x18, x19, h⟩
section
variable {P : Program} {w : World} {K : PySem.W.Frag} {h : Heap} {mg : Str → Option Value}
theorem tx (X : K.In h) (G : h.Ns mainGlobals mg) (c : He.SaysD fa fn K) (e : ex K = true) : Tx K mg (He.ga K "ModeError") (He.ga K "NoBook") (He.ga K "NoDeed") (He.ga K "NoGuard") (He.ga K "NoPart") (He.ga K "NoRow") (He.ga K "NoText") (He.ga K "TooMany") (He.ga K "Unlike") (fE K) := by
  obtain ⟨x0, x1, x2, x3, x4, x5, x6, x7, x8, x9, x10, x11, x12, x13, x14, x15, x16, x17, x18, x19, x20⟩ := exs e
  exact {
    b_ValueError := He.free_ok X G (c.fact 13 (f := .free "ValueError") rfl)
    b_abs := He.free_ok X G (c.fact 14 (f := .free "abs") rfl)
    b_isinstance := He.free_ok X G (c.fact 15 (f := .free "isinstance") rfl)
    b_range := He.free_ok X G (c.fact 16 (f := .free "range") rfl)
    g_ModeError := He.glo_ok X G (c.fact 0 (f := .glo "ModeError") rfl)
    ex_ModeError := exB_ok x0
    i_ModeError := of_decide_eq_true x9
    g_NoBook := He.glo_ok X G (c.fact 1 (f := .glo "NoBook") rfl)
    ex_NoBook := exB_ok x1
    i_NoBook := of_decide_eq_true x10
    g_NoDeed := He.glo_ok X G (c.fact 2 (f := .glo "NoDeed") rfl)
    ex_NoDeed := exB_ok x2
    i_NoDeed := of_decide_eq_true x11
    g_NoGuard := He.glo_ok X G (c.fact 3 (f := .glo "NoGuard") rfl)
    ex_NoGuard := exB_ok x3
    i_NoGuard := of_decide_eq_true x12
    g_NoPart := He.glo_ok X G (c.fact 4 (f := .glo "NoPart") rfl)
    ex_NoPart := exB_ok x4
    i_NoPart := of_decide_eq_true x13
    g_NoRow := He.glo_ok X G (c.fact 5 (f := .glo "NoRow") rfl)
    ex_NoRow := exB_ok x5
    i_NoRow := of_decide_eq_true x14
    g_NoText := He.glo_ok X G (c.fact 6 (f := .glo "NoText") rfl)
    ex_NoText := exB_ok x6
    i_NoText := of_decide_eq_true x15
    g_TooMany := He.glo_ok X G (c.fact 7 (f := .glo "TooMany") rfl)
    ex_TooMany := exB_ok x7
    i_TooMany := of_decide_eq_true x16
    g_Unlike := He.glo_ok X G (c.fact 8 (f := .glo "Unlike") rfl)
    ex_Unlike := exB_ok x8
    i_Unlike := of_decide_eq_true x17
    exl := fun C hC => by
      simp only [exCs, List.mem_cons, List.not_mem_nil, or_false] at hC
      rcases hC with rfl | rfl | rfl | rfl | rfl | rfl | rfl | rfl | rfl
      · exact exB_ok x0
      · exact exB_ok x1
      · exact exB_ok x2
      · exact exB_ok x3
      · exact exB_ok x4
      · exact exB_ok x5
      · exact exB_ok x6
      · exact exB_ok x7
      · exact exB_ok x8
    is_ok := isB_ok x18 }
theorem cal {x : Str} {f : Addr} {fd : FuncData} {base : Heap} {k : Nat} {ps : List Str} {F : List O → Option Res} (g : mg x = some (.ref f)) (kp : PySem.W.keepIn K (.ref f) = true) (ok : FnOk P w K mg base CX0 k f fd ps (spD K F)) (b : Binds K fd ps []) : Cal P w K mg base k x ps F := ⟨⟨f, fd, g, kp, ok, b⟩⟩
theorem facts {f : Addr} (X : K.In h) (G : h.Ns mainGlobals mg) (hfa : mg ("law" : Str) = some (.ref f)) (c : He.SaysD fa fn K) (e : ex K = true) :
    ∃ fd : FuncData, (∀ (s : Shared) (v : Value), BindsTo s fd ⟨[v], []⟩ [("_law_script", v)]) ∧ ∀ base : Heap, K.In base → base.Ns mainGlobals mg → FnOk P w K mg base CX0 3 f fd ["_law_script"] (spD K (law (He.ga K "ModeError") (He.ga K "NoBook") (He.ga K "NoDeed") (He.ga K "NoGuard") (He.ga K "NoPart") (He.ga K "NoRow") (He.ga K "NoText") (He.ga K "TooMany") (He.ga K "Unlike"))) := by
  have T := tx X G c e
  obtain ⟨y0, y1, y2, y3, y4, y5, y6, y7, y8, y9, y10, y11, y12, y13, y14, y15, y16, y17, y18, y19, y20⟩ := exs e
  obtain ⟨fdI, FI⟩ := c.def_ 0 (d := dI) rfl
  obtain ⟨fd1, F1⟩ := c.def_ 1 (d := d_law_deck) rfl
  obtain ⟨fd2, F2⟩ := c.def_ 2 (d := d_law_take) rfl
  obtain ⟨fd3, F3⟩ := c.def_ 3 (d := d_law_classes) rfl
  obtain ⟨fd, F⟩ := c.def_ 4 (d := d_law) rfl
  have ef := hfa.symm.trans (He.glo_ok X G (c.fact 12 (f := .glo "law") rfl))
  cases ef
  have bI : Binds K fdI ["self", "what"] [] := FunD.bindsN FI fun _ _ _ _ _ _ us hl => match us, hl with | [_, _], _ => rfl
  have b1 : Binds K fd1 ["_law_script"] [] := FunD.bindsN F1 fun _ _ _ _ _ _ us hl => match us, hl with | [_], _ => rfl
  have b2 : Binds K fd2 ["_law_deck_here", "_law_many"] [] := FunD.bindsN F2 fun _ _ _ _ _ _ us hl => match us, hl with | [_, _], _ => rfl
  have b3 : Binds K fd3 ["_law_e"] [] := FunD.bindsN F3 fun _ _ _ _ _ _ us hl => match us, hl with | [_], _ => rfl
  have b := FunD.bindsA (ps := ["_law_script"]) F fun _ _ _ _ _ _ us hl => match us, hl with | [_], _ => rfl
  refine ⟨fd, fun s v => b s [v] rfl, fun base _ _ => ?_⟩
  exact ok_law F T (cal (He.glo_ok X G (c.fact 9 (f := .glo "_law_deck") rfl)) F1.kp (ok_law_deck F1 T) b1) (cal (He.glo_ok X G (c.fact 10 (f := .glo "_law_take") rfl)) F2.kp (ok_law_take F2 T) b2)
    (cal (He.glo_ok X G (c.fact 11 (f := .glo "_law_classes") rfl)) F3.kp (ok_law_classes F3 T) b3) ⟨⟨fdI, ok_init FI, bI⟩, of_decide_eq_true y20⟩
theorem nd_ok (e : ex K = true) : (exCs (He.ga K "ModeError") (He.ga K "NoBook") (He.ga K "NoDeed") (He.ga K "NoGuard") (He.ga K "NoPart") (He.ga K "NoRow") (He.ga K "NoText") (He.ga K "TooMany") (He.ga K "Unlike")).Nodup := by
  obtain ⟨y0, y1, y2, y3, y4, y5, y6, y7, y8, y9, y10, y11, y12, y13, y14, y15, y16, y17, y18, y19, y20⟩ := exs e
  exact of_decide_eq_true y19
/-- the promise -/
theorem prom {H : Hp} {a : Addr} {ns : List Int} (hl : ns.length ≤ 63) (nd : (exCs (He.ga K "ModeError") (He.ga K "NoBook") (He.ga K "NoDeed") (He.ga K "NoGuard") (He.ga K "NoPart") (He.ga K "NoRow") (He.ga K "NoText") (He.ga K "TooMany") (He.ga K "Unlike")).Nodup) (hS : SqL K H a (ns.map V.int)) : spD K (law (He.ga K "ModeError") (He.ga K "NoBook") (He.ga K "NoDeed") (He.ga K "NoGuard") (He.ga K "NoPart") (He.ga K "NoRow") (He.ga K "NoText") (He.ga K "TooMany") (He.ga K "Unlike")) [.ref a] H (fun v _ => v = .bl true) fun _ _ _ => False := by
  refine ⟨{ Z := H, H := H, σ := [some (.ref a)], ρ := [some (.d (.scr ns))], Fs := fun _ => [] }, [.d (.scr ns)], _, ?_, rfl, rfl, rfl, law_true nd ns hl, fun o outs eq v Fv s' n hs hρ tm => ?_, fun x outs eq => nomatch eq⟩
  · refine ⟨Same.refl _, rfl, fun i o e => ?_, fun _ _ => rfl, fun _ => List.nodup_nil, fun i j b _ h => absurd h (by simp)⟩
    match i, e with
    | 0, e => cases e; exact ⟨.ref a, rfl, Ow.d_iff.mpr ⟨rfl, Fr.scr_iff.mpr ⟨a, rfl, hS⟩⟩⟩
    | i + 1, e => simp at e
  · cases eq
    exact Fr.v_iff.mp (Ow.d_iff.mp tm.ow).2
end
end Mo
open PySem PySem.W PySem.Calls PyProof.Rows
theorem PySem.Challenge.cw_modeholds_k05_refusals_made_holds : PySem.Challenge.rw_modeholds_k05_refusals_made.Holds := by
  w_on; o_law
  refine HandSHeadRun.head_any (r := OpenLaw.row PySem.Challenge.rw_modeholds_k05_refusals_made) (q := view (OpenLaw.row PySem.Challenge.rw_modeholds_k05_refusals_made).prog [14]) (H := Mo.hk) (ob := Mo.ob) (M := 30000) (loose := Mo.loose) (d := HandSHeadRun.topDef (OpenLaw.row PySem.Challenge.rw_modeholds_k05_refusals_made).prog 14) (kwd := []) Mo.ob_eq
    (by kernel_rfl) (fun s => by kernel_rfl) Mo.run (by kernel_rfl) (by kernel_rfl) (by kernel_rfl) (by rfl) (by first | assumption | decide +kernel) (by decide +kernel) ⟨rfl, rfl, rfl, rfl, rfl, by decide +kernel⟩ ?hw ?hc
  case hw => w_witness2
  case hc =>
    refine L2.walk_ofE (l := PySem.Challenge.rw_modeholds_k05_refusals_made) (n := 63) (k := 3) (x := "_law_script") (CX := L2.CX0) rfl (by decide) (by kernel_rfl) ⟨rfl, by decide, by decide⟩ ?F (fun _ _ _ _ z => z)
    intro w mg fa h Y G hmg0
    obtain ⟨K, KX, c⟩ := Y
    have hmg : mg ("law" : PySem.Str) = some (.ref fa) := by
      have e : (HandSHeadRun.topDef (OpenLaw.row PySem.Challenge.rw_modeholds_k05_refusals_made).prog 14).name = ("law" : PySem.Str) := by kernel_rfl
      rw [← e]
      exact hmg0
    obtain ⟨fd, hb, hF⟩ := Mo.facts (P := (PySem.Challenge.rw_modeholds_k05_refusals_made).prog) (w := w) KX G hmg c.t.d c.more
    exact ⟨K, fd, _, KX, hb, fun H a ns hl _ hS => Mo.prom hl (Mo.nd_ok c.more) hS, hF⟩
