import PyProof.Rows.All
import Wide.All
import OpenK.AllK
import Wide.FinOn
import KE.KIsAll
import KE.KMatchCls
import HandS.ForMost
import HandS.IsInst
import HandS.ExcIs
import HandS.ExcInit
import HandS.ClsMeth
import HandS.CallSlots
import HandS.Flow
import HandS.Style
import HandS.Strs
import HandS.Exc
import HandS.FStr
import HandS.Dict
import PySem.Challenge.RW_bookplaces_k01_wholes_and_names
set_option Elab.async false
set_option linter.all false
set_option maxRecDepth 100000
set_option maxHeartbeats 4000000
/-! Mini e1: own errors as plain values: made, asked for their class. -/
namespace Mi
open PySem PySem.Spec PyProof.Rows L2
section
variable {P : Program} {w : World} {A : Around} {E : Value → Shared → Prop} {s : Shared} {K : PySem.W.Frag} {x D : Addr} {ox : Obj} {od : Option Obj}
/-- e.__class__, e an error with or without attributes of its own -/
theorem ex_class (C : ExcC K D) {Q : Option Value → Shared → Prop} (kin : K.In s.heap) (inst : PySem.W.InstAt s.heap x ox D od) (fin : Q (some (.ref D)) { s with toks := s.toks + 1 }) :
    wpAny (model P w) A (getAttr? (.ref x) "__class__") Q E s := by
  have isC : (PySem.W.clsIn K D).isSome = true := let ⟨_, q, _⟩ := PySem.W.any_some C.hd; by rw [q]; rfl
  have found : PySem.W.findObj K D od "__class__" = some (.bind (.builtin "getset_descriptor.__get__") (.builtin "object.__class__")) := by
    cases od with
    | none => exact PySem.W.findObj_dataN isC C.ha C.hn C.ht
    | some o => exact PySem.W.findObj_data isC C.ha C.hn C.ht
  have other : (Value.builtin "BaseException.__getattribute__" == Value.builtin "object.__getattribute__") = false := by decide +kernel
  obtain ⟨hp, gs, dr, tk, os⟩ := s
  have lt := inst.type (M := model P w)
  have lg := PySem.W.looks_findIn (M := model P w) kin C.hg
  have lk := PySem.W.looks_findIn (M := model P w) kin C.hk
  have lf := PySem.W.looks_find (M := model P w) kin inst found
  have lb : PySem.W.Looks (model P w) hp (isInstance (.ref x) (.type "BaseException")) true := lt.andThen (PySem.W.looks_subIn kin C.hs)
  unfold getAttr?
  refine wpAny_bind (wpAny_mkText ?_)
  unfold getAttrBy? getAttrBy
  refine wpAny_bind (wpAny_attempt ?_)
  refine wpAny_holding (wpAny_bind (lt.at ?_))
  refine wpAny_bind (lg.at ?_)
  have pick : (onTheHeap (Value.ref D) && Value.builtin "BaseException.__getattribute__" == Value.builtin "object.__getattribute__") = false := by rw [other, Bool.and_false]
  dsimp only
  rw [if_neg (by rw [pick]; exact Bool.false_ne_true)]
  unfold getAttrByItsOwn hookBefore callGetattribute
  refine wpAny_bind ?_
  rw [if_pos (by rfl : onTheHeap (Value.ref D) = true)]
  refine lk.at (wpAny_bind (wpAny_attempt ?_))
  refine wpAny_holding ?_
  rw [if_neg (by show ¬ (false && onTheHeap (Value.builtin "BaseException.__getattribute__")) = true; exact Bool.false_ne_true)]
  unfold boundAndCalled
  rw [PySem.F.excAttr_ValueError.ga.bind (.ref x)]
  refine wpAny_bind (wpAny_pure ?_)
  dsimp only
  refine wpAny_call (codeAny_call_builtin PySem.F.excAttr_ValueError.ga.plain PySem.F.entry_bexc_ga ?_)
  refine PySem.W.check_slot (M := model P w) (s := ⟨hp, gs, dr, tk + 1, os⟩) (i := "BaseException.__getattribute__") (owner := "BaseException") (n := "__getattribute__") (self := .ref x) (rest := [.str "__class__" tk]) (kw := [])
    (by decide +kernel) (by decide +kernel) lb (PySem.F.args_bexc_ga (.ref x) (.str "__class__" tk)) ?_
  unfold Builtin.«object.__getattribute__»
  refine wpAny_bind (wpAny_of_eq (a := ((Value.ref x : Value), [Value.str "__class__" tk])) (by first | rfl | (simp only [slotArgs]; rfl)) ?_)
  refine wpAny_bind (wpAny_pure ?_)
  refine wpAny_bind (lt.at ?_)
  refine wpAny_bind (lf.at ?_)
  refine wpAny_bind (wpAny_holding ?_)
  refine wpAny_call (PySem.W.class_get (s := ⟨hp, gs, dr, tk + 1, os⟩) (ox := ox) (od := od) kin inst C.hm ?_)
  refine wpAny_pure ?_
  have out : handedOut (Value.ref D) = pure (.ref D) := PySem.W.handedOut_of (v := .ref D) rfl
  show wpAny _ _ (handedOut (.ref D)) _ _ _
  rw [out]
  first
  | exact wpAny_pure fin
  | exact wpAny_pure (wpAny_pure fin)
  | exact wpAny_pure (wpAny_bind (wpAny_pure (wpAny_pure fin)))
theorem kit_exc (C : ExcC K D) : PySem.W.KitX K (.ref x) (.ref D) (fun h => PySem.W.InstAt h x ox D od) where
  ty := fun _ _ _ i => i.type
  it := fun M h kin _ => PySem.W.mc_isType (s := ⟨h, #[], {}, 0, {}⟩) kin C.hd
  ne := fun h tp dd its n sl kin e => by
    cases q : (Value.ref D == Value.ref tp) with
    | false => rfl
    | true =>
      exfalso
      cases Value.ref.inj (beq_iff_eq.mp q)
      obtain ⟨_, hc, _⟩ := PySem.W.any_some C.hd
      unfold PySem.W.clsIn at hc
      split at hc
      · rename_i hl
        have z := (kin _ _ hl).symm.trans e
        cases z
      · cases hc
  ca := fun kin i k => ex_class C kin i k
end
/-- isinstance(e, c), e an error that is tracked -/
def rIsX (K : PySem.W.Frag) : List V → Hp → VK → Prop := fun xs H Q => ∃ (a D d : Addr) (fs : List (Str × V)) (c : V) (cv : Value) (b : Bool), xs = [.ref a, c] ∧ ClsV c cv ∧ H a = some (exo a D (some d)) ∧ H d = some (exd d fs) ∧ ExcC K D ∧ PySem.W.kitOne K (.ref D) cv = some b ∧ Q (.bl b) H
theorem call_isX {X : Cx} : CallR X (.builtin "isinstance") (rIsX X.K) := by
  intro pins s σ H xs us Q I r h
  obtain ⟨a, D, d, fs, c, cv, b, rfl, k, ha, hd, C, e, q⟩ := h
  obtain ⟨u1, u2, rfl, r1, r2⟩ := vals2 r
  have e2 := k.eq r2
  subst e2
  cases (show u1 = Value.ref a from r1)
  obtain ⟨t1, hget⟩ := exo_at I.hok ha
  obtain ⟨mA, ⟨ob, es, ep, hob, _⟩, _⟩ := exd_at I.hok hd
  have J : PySem.W.InstAt s.heap a _ D (some ob) := ⟨hget, rfl, rfl, hob⟩
  exact PySem.W.kia_one (kit_exc C) I.kIn J e (fun z => nomatch z) fun tk => ⟨.bl b, H, I.kept (t' := tk) fun _ _ z => z, rfl, q⟩

section
variable {X : Cx} {CX : CXT} {k : Nat} {C f fI : Addr} {mc : Value} {fd : FuncData} {ps : List Str} {sp : Sp} {E : XK} {o e : Expr} {es : List Expr} {x m : Str} {p pos apos : Pos} {to : TE} {ta : TA} {pl : Sem Bool}
/-- C.m(..), C a class, m a def of its body -/
theorem pe_cfn (he : PE X o to) (r : ClX.CRead X.K C mc) (c : PySem.W.findCls X.K (.ref C) mc m = some (.val (.ref f))) (hk : PySem.W.keepIn X.K (.ref f) = true) (F : FnOk X.prog X.w X.K X.mg X.base CX k f fd ps sp) (hr : Room k X.A) (hb : Binds X.K fd ps []) (hx : Passes CX X E) (ha : PA X (e :: es) ta)
    (hs : starEach (e :: es) X.env = (false, eval e X.env) :: starEach es X.env := by rfl) (hp : (backTo pos (starEach es X.env)).any (·.1) = false := by rfl)
    (ht : eval (.Call (.Attribute o m apos) (e :: es) [] pos) X.env = (do
      let ov ← eval o X.env
      standAt apos.atName
      let (f, first) ← holding [ov] (getMethod ov m pl)
      callWith pos f first (backTo pos (starEach (e :: es) X.env)) (backToKw pos (keywordEach [] X.env))) := by rfl) :
    PE X (.Call (.Attribute o m apos) (e :: es) [] pos) (fun σ H Q => to σ H fun v H1 => v = .ref C ∧ ta σ H1 fun vs H2 => sp vs H2 Q E) := by
  refine ⟨fun pins s σ H Q I q => ?_⟩
  refine PySem.W.methodCall_KW (pl := pl) (thn (he.run pins s σ H _ I q) fun u s1 ⟨v, H1, I1, rv, ev, q1⟩ => ?_) ht
  subst ev
  obtain rfl : u = Value.ref C := rv
  refine PySem.W.method_cls I1.kIn r.ga (PySem.W.cls_value I1.kIn r.rd c rfl ?_)
  refine PySem.W.callWith_K (h₀ := X.base) I1.ok.mod.kin hk (thn (ha.run pos pins _ σ H1 _ (I1.tok _) q1) fun us s2 ⟨vs, H2, I2, rs, q2⟩ => ⟨I2.kIn, ?_⟩) hs hp
  exact run_fn F hr hb .nil hx I2 rs (by rw [List.append_nil]; exact q2)
/-- C(e, ..) as a value, C an own error class beneath ValueError with an __init__ -/
theorem pe_mkX (T : OexC X.K C) (iC : PySem.W.findIn X.K (.ref C) "__init__" = some (some (.ref fI))) (tI : PySem.W.typeIn X.K (.ref fI) = some (.type "function"))
    (Fn : FnOk X.prog X.w X.K X.mg X.base CX k fI fd ps sp) (room : Room (k + 1) X.A) (hb : Binds X.K fd ps []) (hx : Passes CX X (fun _ _ _ => False)) (hg : Gl X x) (hm : X.mg x = some (.ref C)) (ha : PA X (e :: es) ta)
    (hdb : (x == ("__debug__" : Str)) = false := by decide) (hs : starEach (e :: es) X.env = (false, eval e X.env) :: starEach es X.env := by rfl) (hpl : (backTo pos (starEach es X.env)).any (·.1) = false := by rfl) :
    PE X (.Call (.Name x p) (e :: es) [] pos) (fun σ H Q => ta σ H fun vs H1 => vs.length ≤ 1000 ∧ ∀ a, H1 a = none → sp (.ref a :: vs) (upd H1 a (exo a C none)) (fun v H2 => v = .non ∧ Q (.ref a) H2) (fun _ _ _ => False)) := by
  refine ⟨fun pins s σ H Q I q => ?_⟩
  obtain ⟨nm, qn, N, bs, bm, sn, sub, ab, col, dd, k0, k1, k2, k3, k5, hC, hbm⟩ := T.cls
  refine wpAny_Call_Name_kw (ld_glob I hg hm ?_ hdb)
  refine PySem.W.callWith_K (h₀ := X.base) I.ok.mod.kin T.kC (thn (ha.run pos pins s σ H _ I q) fun us s1 ⟨vs, H1, I1, rs, hz, q1⟩ => ⟨I1.kIn, ?_⟩) hs hpl
  show wpAny _ _ (call (.ref C) us) _ _ _
  obtain ⟨h0, g, dr, tk, os⟩ := s1
  have le : h0.objs.size ≤ h0.objs.size + 1 := Nat.le_succ _
  have new := q1 (h0.objs.size + 1) (I1.hok.fresh le)
  have I2 : Inv X pins σ (upd H1 (h0.objs.size + 1) (exo (h0.objs.size + 1) C none)) ⟨(h0.push (PySem.W.kdv_tup us)).push (PySem.HandSPX.excO C h0.objs.size), g, dr, tk, os⟩ := by
    refine I1.laid (t' := tk) (a := h0.objs.size + 1) (o := exo (h0.objs.size + 1) C none) (h' := (h0.push (PySem.W.kdv_tup us)).push (PySem.HandSPX.excO C h0.objs.size)) (fun b u z => ?_) le (exo_ok (t1 := h0.objs.size) ?_)
    · exact Heap.get?_push_of_some _ (Heap.get?_push_of_some _ z)
    · show ((h0.push (PySem.W.kdv_tup us)).push (PySem.HandSPX.excO C h0.objs.size)).get? (h0.objs.size + 1) = some (PySem.HandSPX.excO C h0.objs.size)
      heap_get
  have rs2 : Vals (V.ref (h0.objs.size + 1) :: vs) (Value.ref (h0.objs.size + 1) :: us) := .cons rfl rs
  have ll : (Value.ref (h0.objs.size + 1) :: us ++ []).length = ps.length := by
    rw [List.append_nil, ← rs2.length]
    exact Fn.len _ _ _ _ new
  have lu : us.length ≤ sizeLine := by
    have := Paired.length rs
    rw [sizeLine_eq]
    omega
  have bnd := hb _ (Value.ref (h0.objs.size + 1) :: us) I2.kIn ll
  rw [List.append_nil] at bnd
  refine wpAny_call (PySem.HandSPX.call_own PySem.F.excBase_ValueError (fun Y => PySem.HandSPX.refsVE_contains Y bm hbm) (I1.kIn _ _ hC) (PySem.W.looks_findIn I1.kIn iC) (fun self => PySem.W.bind_fn I1.kIn self tI) lu ?_)
  have run := Fn.run _ X.stack _ _ ⟨Value.ref (h0.objs.size + 1) :: us, []⟩ (Value.ref (h0.objs.size + 1) :: us) _ _ (fun _ _ _ => False) (room.make C us []) (I2.env0.make C us []) bnd rs2 new
  refine codeAny_mono run fun r s' z => ?_
  cases r with
  | error er => exact hx pins σ _ _ er s' I2 z
  | ok fl =>
    cases fl with
    | ret u =>
      obtain ⟨v, H2, I3, rv, ev, q2⟩ : EP X pins σ (fun v H2 => v = .non ∧ Q (.ref (h0.objs.size + 1)) H2) u s' := I2.after z
      subst ev
      exact ⟨rv, .ref (h0.objs.size + 1), H2, I3, rfl, q2⟩
    | next => exact False.elim z
    | brk => exact False.elim z
    | cont => exact False.elim z
end

/-! ### the two shapes of an own error's __init__ -/
def spXB (K : PySem.W.Frag) : Sp := fun vs H Q _ => ∃ (a C : Addr) (y : V), vs = [.ref a, y] ∧ OexC K C ∧ H a = some (exo a C none) ∧ Q .non H
def spXD (K : PySem.W.Frag) (f : Str) : Sp := fun vs H Q _ => ∃ (a C : Addr) (y : V), vs = [.ref a, y] ∧ OexC K C ∧ PySem.W.findIn K (.ref C) f = some none ∧ H a = some (exo a C none) ∧
  ∀ d, H d = none → d ≠ a → Q .non (upd (upd H d (exd d [(f, y)])) a (exo a C (some d)))
section
variable {P : Program} {w : World} {K : PySem.W.Frag} {mg : Str → Option Value} {base : Heap}
theorem xb_ok {qual : Str} {st : Stmt} {f : Addr} {fd : FuncData} {x y : Str} {p1 p2 p3 p4 p5 p6 : Pos} {pl : Env → Sem Bool} (F : Fun K "__init__" qual st f fd) (Sc : FnScope [x, y] [x, y] (defScope st)) (hb : defBody st = [.Expr (.Call (.Attribute (.Name "ValueError" p1) "__init__" p2) [.Name x p3, .Name y p4] [] p5) p6])
    (hc : ∀ env, eval (.Call (.Attribute (.Name "ValueError" p1) "__init__" p2) [.Name x p3, .Name y p4] [] p5) env = (do
      let ov ← eval (.Name "ValueError" p1) env
      standAt p2.atName
      let (f, first) ← holding [ov] (getMethod ov "__init__" (pl env))
      callWith p5 f first (backTo p5 (starEach [.Name x p3, .Name y p4] env)) (backToKw p5 (keywordEach [] env))))
    (hx : Vis (defScope st) x) (hy : Vis (defScope st) y) (x1 : (x == ("__debug__" : Str)) = false) (x2 : (x == ("__classdict__" : Str)) = false) (y1 : (y == ("__debug__" : Str)) = false) (y2 : (y == ("__classdict__" : Str)) = false)
    (hg : (defScope st).names.lookup ("ValueError" : Str) = some .globalImplicit) (hm : mg "ValueError" = none) (vV : PySem.W.findCls K (.type "ValueError") (.type "type") "__init__" = some (.val (.builtin "ValueError.__init__"))) :
    FnOk P w K mg base CX0 1 f fd [x, y] (spXB K) := by
  refine F.ok Sc (fun vs H Q E ⟨a, C, v, e, _⟩ => by rw [e]; rfl) fun cdv A outer s H vs Q E hr ⟨a, C, v, e, T, ha, q⟩ => ?_
  subst e
  rw [hb]
  refine ⟨_, pss_cons (ps_expr (pe_veinit hg hm vV (pa_cons (pe_var (i := 0) rfl hx x1 x2) (pa_cons (pe_var (i := 1) rfl hy y1 y2) pa_nil)) (hc _))) pss_nil, ?_⟩
  exact ⟨_, rfl, _, rfl, a, C, _, rfl, by show 1 ≤ 1000; decide, T, ha, q⟩
theorem xd_ok {qual : Str} {st : Stmt} {f g B : Addr} {fd gd : FuncData} {x y b fl t : Str} {mc : Value} {k j : Nat} {p1 p2 p3 p4 p5 p6 p7 p8 p9 p10 : Pos} {pl : Env → Sem Bool} (F : Fun K "__init__" qual st f fd) (Sc : FnScope [x, y] [x, y] (defScope st))
    (hb : defBody st = [.Expr (.Call (.Attribute (.Name b p1) "__init__" p2) [.Name x p3, .Constant (.str t) j p4] [] p5) p6, .Assign [.Attribute (.Name x p7) fl p8] (.Name y p9) p10])
    (hc : ∀ env, eval (.Call (.Attribute (.Name b p1) "__init__" p2) [.Name x p3, .Constant (.str t) j p4] [] p5) env = (do
      let ov ← eval (.Name b p1) env
      standAt p2.atName
      let (f, first) ← holding [ov] (getMethod ov "__init__" (pl env))
      callWith p5 f first (backTo p5 (starEach [.Name x p3, .Constant (.str t) j p4] env)) (backToKw p5 (keywordEach [] env))))
    (hx : Vis (defScope st) x) (hy : Vis (defScope st) y) (x1 : (x == ("__debug__" : Str)) = false) (x2 : (x == ("__classdict__" : Str)) = false) (y1 : (y == ("__debug__" : Str)) = false) (y2 : (y == ("__classdict__" : Str)) = false)
    (hg : (defScope st).names.lookup b = some .globalImplicit) (b1 : (b == ("__debug__" : Str)) = false) (hm : mg b = some (.ref B)) (r : ClX.CRead K B mc) (c : PySem.W.findCls K (.ref B) mc "__init__" = some (.val (.ref g))) (hk : PySem.W.keepIn K (.ref g) = true)
    {gs : List Str} (G : FnOk P w K mg base CX0 k g gd gs (spXB K)) (bg : Binds K gd gs []) :
    FnOk P w K mg base CX0 (k + 1) f fd [x, y] (spXD K fl) := by
  refine F.ok Sc (fun vs H Q E ⟨a, C, v, e, _⟩ => by rw [e]; rfl) fun cdv A outer s H vs Q E hr ⟨a, C, v, e, T, no, ha, q⟩ => ?_
  subst e
  rw [hb]
  refine ⟨_, pss_cons (ps_expr (pe_cfn (pe_glob hg hm (v := .ref B) rfl b1) r c hk G hr bg pass0 (pa_cons (pe_var (i := 0) rfl hx x1 x2) (pa_cons pe_str pa_nil)) (ht := hc _))) (pss_cons (ps_ost (pe_var (i := 0) rfl hx x1 x2) (pe_var (i := 1) rfl hy y1 y2)) pss_nil), ?_⟩
  refine ⟨rfl, _, rfl, a, C, _, rfl, T, ha, ?_⟩
  exact ⟨_, rfl, _, rfl, a, C, rfl, T, no, .inl ⟨ha, fun d hd hda => q d hd hda⟩⟩
end
theorem kit_sub {K : PySem.W.Frag} {C : Addr} {t : String} {b : Bool} (m : PySem.W.kitMeta t = true) (h : PySem.W.subIn K (.ref C) (.type t) = some b) : PySem.W.kitOne K (.ref C) (.type t) = some b := by
  have ne : (Value.ref C == Value.type t) = false := by
    cases q : (Value.ref C == Value.type t) with
    | false => rfl
    | true => cases beq_iff_eq.mp q
  unfold PySem.W.kitOne PySem.W.kitCls
  rw [if_neg (by rw [ne]; exact Bool.false_ne_true)]
  dsimp only
  rw [if_pos m]
  exact h
end Mi

set_option Elab.async false
set_option linter.all false
set_option maxRecDepth 100000
/-! Mini 1: pure data, values, cells, a small syntax, its interpreter. -/
namespace Mi
open PySem

/-- data: trees without places that change -/
inductive D where
  | non | bl (b : Bool) | int (i : Int) | str (s : Str)
  | tup (xs : List D) | lst (xs : List D) | dicK (kvs : List (Sum Int Str × D)) | dicT (kvs : List (List (Sum Int Str) × D))
  | exc (c : String)
  | obj (c : String) (fs : List (String × D))
  | ty (n : String) | cls (c : String) | fn (f : String)
  | scr (ns : List Int)
  deriving Inhabited
/-- values: data, a place, a tuple that holds places -/
inductive Val where
  | d (x : D) | ref (i : Nat) | tup (vs : List Val)
  deriving Inhabited
/-- what stands at a place -/
inductive Cell where
  | lst (vs : List Val) | dicK (kvs : List (Sum Int Str × Val)) | dicT (kvs : List (List (Sum Int Str) × Val)) | ins (c : String) (fs : List (String × Val))
  deriving Inhabited
abbrev Hm := List Cell
/-- a result: a value, or an object just made that nobody else has -/
inductive RV where
  | v (x : Val) | own (c : Cell)
  deriving Inhabited
abbrev Sl := List (Option Val)

inductive R (α : Type) where
  | ok (a : α) (h : Hm) | exc (c : String) (fs : List (String × Val)) (h : Hm) | bad
abbrev Mo (α : Type) := Hm → R α
def Mo.bnd {α β : Type} (x : Mo α) (f : α → Mo β) : Mo β := fun h => match x h with
  | .ok a h' => f a h'
  | .exc c fs h' => .exc c fs h'
  | .bad => .bad
def Mo.ret {α : Type} (a : α) : Mo α := fun h => .ok a h
def Mo.fail {α : Type} : Mo α := fun _ => .bad
def Mo.opt {α : Type} (o : Option α) : Mo α := fun h => match o with
  | some a => .ok a h
  | none => .bad

/-! ### syntax -/
inductive Ari where | add | sub | mul | fdiv | mod | pow
  deriving DecidableEq
inductive Cmp where | eq | ne | lt | le | gt | ge | isx | isnot | inx | notin
  deriving DecidableEq

mutual
inductive ME where
  | var (i : Nat)
  | non | bl (b : Bool) | int (i : Int) | str (s : Str)
  | glob (x : String)
  | ari (o : Ari) (a b : ME)
  | neg (a : ME) | not (a : ME)
  | and (a b : ME) | or (a b : ME)
  | cmp (o : Cmp) (a b : ME)
  | cmp2 (o o2 : Cmp) (a b c : ME)
  | ife (c a b : ME)
  | call (f : String) (as : MEs)
  | new (c : String) (as : MEs)
  | bif (f : String) (as : MEs)
  | met (o : ME) (m : String) (as : MEs)
  | att (o : ME) (f : String)
  | sub (o i : ME)
  | sl (o : ME) (lo hi : MO)
  | tup (es : MEs) | lst (es : MEs)
  | dic (ps : MEs) | dnew (t : Bool)
  | lc (elt : ME) (tg : MT) (it : MI) (ifs : MO) (own : List (String × Nat))
inductive MEs where
  | nil | cons (a : ME) (r : MEs)
inductive MO where
  | none | some (a : ME)
/-- what is walked -/
inductive MI where
  | val (e : ME)
  | range (as : MEs)
  | enum (e : ME) | zip (a b : ME)
inductive MT where
  | name (i : Nat) | tup (ts : MTs) | sub (o i : ME) | att (o : ME) (f : String)
inductive MTs where
  | nil | cons (a : MT) (r : MTs)
end
mutual
inductive MS where
  | asg (t : MT) (cell : Bool) (e : ME)
  | expr (e : ME)
  | ret (e : ME) | retN
  | ite (c : ME) (a b : MSs)
  | for (t : MT) (it : MI) (b : MSs)
  | while (c : ME) (b : MSs)
  | pass | brk | cnt
  | raise
inductive MSs where
  | nil | cons (a : MS) (r : MSs)
end
/-- a def -/
structure MDef where
  ps : Nat
  slots : Nat
  body : MSs

/-! ### data -/
mutual
def D.py : D → Option PyData
  | .non => some .none
  | .bl b => some (.bool b)
  | .int i => some (.int i)
  | .str s => some (.str s)
  | .tup xs => (D.pys xs).map .tuple
  | .lst xs => (D.pys xs).map .list
  | _ => none
def D.pys : List D → Option (List PyData)
  | [] => some []
  | x :: xs => match D.py x, D.pys xs with
    | some y, some ys => some (y :: ys)
    | _, _ => none
end
def allD : List Val → Option (List D)
  | [] => some []
  | .d x :: r => (allD r).map (x :: ·)
  | _ :: _ => none
def mkTup (vs : List Val) : Val := match allD vs with
  | some ds => .d (.tup ds)
  | none => .tup vs
/-- an own object becomes data that stands -/
def RV.frz : RV → Option Val
  | .v x => some x
  | .own (.lst vs) => (allD vs).map fun ds => .d (.lst ds)
  | .own (.dicK kvs) => (allD (kvs.map (·.2))).map fun ds => .d (.dicK (kvs.map (·.1) |>.zip ds))
  | .own (.dicT kvs) => (allD (kvs.map (·.2))).map fun ds => .d (.dicT (kvs.map (·.1) |>.zip ds))
  | .own (.ins c fs) => (allD (fs.map (·.2))).map fun ds => .d (.obj c (fs.map (·.1) |>.zip ds))
end Mi

set_option Elab.async false
set_option linter.all false
set_option maxRecDepth 100000
/-! Mini 2: the interpreter. -/
namespace Mi
open PySem

def lineN : Nat := 16777216

/-- the tables of a text: constants, which class is beneath which, defs -/
structure Tb where
  cst : String → Option D
  sub : String → String → Option Bool
  subC : String → String → Option Bool
  exc : String → Bool
  defs : String → Option MDef

def flat (h : Hm) : Val → Option D
  | .d x => some x
  | .ref i => match h[i]? with
    | some (.lst vs) => (allD vs).map .lst
    | _ => none
  | .tup _ => none
def signs (s : Str) : List Val := s.cps.toList.map fun c => Val.d (.str ⟨#[c]⟩)
/-- the items of a list, a tuple -/
def itemsV (h : Hm) : Val → Option (List Val)
  | .d (.lst xs) => some (xs.map .d)
  | .d (.tup xs) => some (xs.map .d)
  | .tup vs => some vs
  | .ref i => match h[i]? with
    | some (.lst vs) => some vs
    | _ => none
  | _ => none
def truV (h : Hm) : Val → Option Bool
  | .d .non => some false
  | .d (.bl b) => some b
  | .d (.int i) => some (i != 0)
  | .d (.str s) => if s.length ≤ lineN then some ((s.length : Int) != 0) else none
  | .d (.lst xs) => some (!xs.isEmpty)
  | .d (.tup xs) => some (!xs.isEmpty)
  | .d (.scr xs) => some (!xs.isEmpty)
  | .tup vs => some (!vs.isEmpty)
  | .ref i => match h[i]? with
    | some (.lst vs) => some (!vs.isEmpty)
    | _ => none
  | _ => none

def small64 (i : Int) : Bool := decide (-18446744073709551616 < i) && decide (i < 18446744073709551616)
def ariD (o : Ari) (a b : D) : Option RV := match o, a, b with
  | .add, .int i, .int j => some (.v (.d (.int (i + j))))
  | .sub, .int i, .int j => some (.v (.d (.int (i - j))))
  | .mul, .int i, .int j => if small64 i || small64 j then some (.v (.d (.int (i * j)))) else none
  | .fdiv, .int i, .int j => if 0 < j ∧ j < 1073741824 then some (.v (.d (.int (i / j)))) else none
  | .mod, .int i, .int j => if 0 < j then some (.v (.d (.int (i % j)))) else none
  | .pow, .int i, .int j => if 0 ≤ j ∧ j ≤ 1000000 ∧ i.natAbs < 2 ^ 64 then some (.v (.d (.int (i ^ j.toNat)))) else none
  | .add, .str x, .str y => if x.length + y.length ≤ lineN then some (.v (.d (.str (x ++ y)))) else none
  | .add, .lst xs, .lst ys => if xs.length + ys.length ≤ lineN then some (.own (.lst ((xs ++ ys).map .d))) else none
  | .mul, .lst xs, .int k => if -(2 ^ 62) ≤ k ∧ k < 2 ^ 62 ∧ xs.length * k.toNat ≤ lineN then some (.own (.lst ((List.replicate k.toNat xs).flatten.map .d))) else none
  | _, _, _ => none

/-- whether == tells two scalars apart as data does -/
def eqD (a b : D) : Option Bool := match a, b with
  | .int i, .int j => some (decide (i = j))
  | .str x, .str y => some (decide (x = y))
  | .bl x, .bl y => some (decide (x = y))
  | .non, .non => some true
  | .non, .int _ => some false | .non, .str _ => some false | .non, .bl _ => some false
  | .int _, .non => some false | .str _, .non => some false | .bl _, .non => some false
  | .int _, .str _ => some false | .str _, .int _ => some false
  | a, b => match a.py, b.py with
    | some x, some y => if SeqAt.shaped x && SeqAt.shaped y then some (PyData.eqv x y) else none
    | _, _ => none
def inD (a b : D) : Option Bool := match a, b with
  | .str x, .str y => match x.cps.toList with
    | [c] => some (decide (c ∈ y.cps.toList))
    | _ => none
  | _, _ => none
def cmpD (o : Cmp) (a b : D) : Option Bool := match o with
  | .eq => eqD a b
  | .ne => (eqD a b).map (! ·)
  | .lt => match a, b with
    | .int i, .int j => some (decide (i < j))
    | _, _ => none
  | .le => match a, b with
    | .int i, .int j => some (decide (i ≤ j))
    | _, _ => none
  | .gt => match a, b with
    | .int i, .int j => some (decide (j < i))
    | _, _ => none
  | .ge => match a, b with
    | .int i, .int j => some (decide (j ≤ i))
    | _, _ => none
  | .isx => match b with
    | .non => some (match a with | .non => true | _ => false)
    | _ => none
  | .isnot => match b with
    | .non => some (match a with | .non => false | _ => true)
    | _ => none
  | .inx => inD a b
  | .notin => (inD a b).map (! ·)

/-- the built-in type of a datum -/
def tyD : D → Option String
  | .non => some "NoneType" | .bl _ => some "bool" | .int _ => some "int" | .str _ => some "str"
  | .tup _ => some "tuple" | .lst _ => some "list" | .dicK _ => some "dict" | .dicT _ => some "dict"
  | _ => none
def subTy (a b : String) : Option Bool :=
  if ["NoneType", "bool", "int", "str", "tuple", "list", "dict"].contains a && ["int", "bool", "str", "list", "tuple", "dict"].contains b then
    some (decide (a = b) || (decide (a = "bool") && decide (b = "int"))) else none
def isiD (T : Tb) (x c : D) : Option Bool := match x, c with
  | .exc k, .ty t => T.sub k t
  | .exc k, .cls t => T.subC k t
  | x, .ty t => match tyD x with
    | some a => subTy a t
    | none => none
  | _, _ => none

def intsD : List D → Option (List Int)
  | [] => some []
  | .int i :: r => (intsD r).map (i :: ·)
  | _ :: _ => none
def blsD : List D → Option (List Bool)
  | [] => some []
  | .bl i :: r => (blsD r).map (i :: ·)
  | _ :: _ => none
def strsD : List D → Option (List Str)
  | [] => some []
  | .str i :: r => (strsD r).map (i :: ·)
  | _ :: _ => none

/-- built-ins that change nothing -/
def bifD (T : Tb) (f : String) (as : List D) : Option D := match f, as with
  | "len", [.str s] => if s.length ≤ lineN then some (.int s.length) else none
  | "len", [.lst xs] => some (.int xs.length)
  | "len", [.tup xs] => some (.int xs.length)
  | "len", [.scr xs] => some (.int xs.length)
  | "max", [.int i, .int j] => some (.int (if j > i then j else i))
  | "min", [.int i, .int j] => some (.int (if j < i then j else i))
  | "all", [.lst xs] => (blsD xs).map fun bs => .bl (bs.all id)
  | "any", [.lst xs] => (blsD xs).map fun bs => .bl (bs.any id)
  | "isinstance", [x, c] => (isiD T x c).map .bl
  | "repr", [.bl b] => some (.str (if b then "True" else "False"))
  | _, _ => none
/-- methods of texts -/
def metD (o : D) (m : String) (as : List D) : Option D := match o, m, as with
  | .str s, "join", [.lst xs] => match strsD xs with
    | some ys => if (ys.map (·.length)).sum + ys.length * s.length ≤ lineN then some (.str (Txt.join s ys)) else none
    | none => none
  | _, _, _ => none
open L2 (ixN)
def subV (h : Hm) (o : Val) (i : D) : Option Val := match i with
  | .int k => match o with
    | .d (.str s) => if s.length ≤ lineN then ((ixN s.cps.toList.length k).bind fun j => s.cps.toList[j]?).map fun c => .d (.str ⟨#[c]⟩) else none
    | .d (.scr ns) => ((ixN ns.length k).bind fun j => ns[j]?).map fun n => .d (.int n)
    | o => match itemsV h o with
      | some vs => (ixN vs.length k).bind fun j => vs[j]?
      | none => none
  | _ => none

mutual
def okV (b : Nat) : Val → Bool
  | .d _ => true
  | .ref i => decide (i < b)
  | .tup vs => okVs b vs
def okVs (b : Nat) : List Val → Bool
  | [] => true
  | v :: r => okV b v && okVs b r
end

/-- of which built-in type a method is -/
def metTy (m : String) : String := if m = "append" then "list" else "str"
def hasTy (h : Hm) (v : Val) (t : String) : Bool := match v with
  | .d (.str _) => decide (t = "str")
  | .d (.lst _) => decide (t = "list")
  | .ref i => match h[i]? with
    | some (.lst _) => decide (t = "list")
    | _ => false
  | _ => false
/-! ### walks -/
inductive Wk where | fix (vs : List Val) | cell (i : Nat)
def rangeV (lo : Int) (n : Nat) : List Val := (List.range n).map fun (k : Nat) => Val.d (.int (lo + (k : Int)))
def rangeW (as : List Val) : Option Wk := match as with
  | [.d (.int j)] => if -(2 ^ 62) ≤ j ∧ j < 2 ^ 62 then some (.fix (rangeV 0 j.toNat)) else none
  | [.d (.int i), .d (.int j)] => if -(2 ^ 62) ≤ i ∧ i < 2 ^ 62 ∧ -(2 ^ 62) ≤ j ∧ j < 2 ^ 62 then some (.fix (rangeV i (j - i).toNat)) else none
  | _ => none
def walkW (h : Hm) : Val → Option Wk
  | .d (.lst xs) => some (.fix (xs.map .d))
  | .d (.tup xs) => some (.fix (xs.map .d))
  | .d (.str s) => some (.fix (signs s))
  | .tup vs => some (.fix vs)
  | .ref i => match h[i]? with
    | some (.lst _) => some (.cell i)
    | _ => none
  | _ => none
/-- a comprehension's turns: what each makes, none where a test is false -/
def lcF (step : Val → Mo (Option Val)) : List Val → List Val → Mo (List Val)
  | [], acc => .ret acc
  | v :: r, acc => (step v).bnd fun o => match o with
    | some x => if acc.length < lineN then lcF step r (acc ++ [x]) else .fail
    | none => lcF step r acc
def lcC (i : Nat) (step : Val → Mo (Option Val)) : Nat → Nat → List Val → Mo (List Val)
  | 0, _, _ => .fail
  | f + 1, k, acc => fun h => match h[i]? with
    | some (.lst vs) => match vs[k]? with
      | none => .ok acc h
      | some v => ((step v).bnd fun o => match o with
        | some x => if acc.length < lineN then lcC i step f (k + 1) (acc ++ [x]) else .fail
        | none => lcC i step f (k + 1) acc) h
    | _ => .bad
inductive Fl where | nx | brk | cnt | ret (r : RV)
  deriving Inhabited
def forF (step : Val → Sl → Mo (Fl × Sl)) : List Val → Sl → Mo (Fl × Sl)
  | [], σ => .ret (.nx, σ)
  | v :: r, σ => (step v σ).bnd fun p => match p.1 with
    | .nx => forF step r p.2
    | .cnt => forF step r p.2
    | .brk => .ret (.nx, p.2)
    | .ret x => .ret (.ret x, p.2)
def forC (i : Nat) (step : Val → Sl → Mo (Fl × Sl)) : Nat → Nat → Sl → Mo (Fl × Sl)
  | 0, _, _ => .fail
  | f + 1, k, σ => fun h => match h[i]? with
    | some (.lst vs) => match vs[k]? with
      | none => .ok (.nx, σ) h
      | some v => ((step v σ).bnd fun p => match p.1 with
        | .nx => forC i step f (k + 1) p.2
        | .cnt => forC i step f (k + 1) p.2
        | .brk => .ret (.nx, p.2)
        | .ret x => .ret (.ret x, p.2)) h
    | _ => .bad
def whileF (test : Sl → Mo Bool) (step : Sl → Mo (Fl × Sl)) : Nat → Sl → Mo (Fl × Sl)
  | 0, _ => .fail
  | f + 1, σ => (test σ).bnd fun b => if b then (step σ).bnd fun p => match p.1 with
    | .nx => whileF test step f p.2
    | .cnt => whileF test step f p.2
    | .brk => .ret (.nx, p.2)
    | .ret x => .ret (.ret x, p.2) else .ret (.nx, σ)
def wipeS (σ : Sl) : List Nat → Sl
  | [] => σ
  | i :: r => (wipeS σ r).set i none

/-! ### the interpreter -/
section
variable (T : Tb) (call : String → List Val → Mo RV) (new : String → List Val → Mo RV) (base : Nat)
def frzM (r : RV) : Mo Val := .opt r.frz
def unTup (n : Nat) (v : Val) : Option (List Val) := match v with
  | .d (.tup xs) => if xs.length = n then some (xs.map .d) else none
  | .tup vs => if vs.length = n then some vs else none
  | _ => none
def MTs.len : MTs → Nat
  | .nil => 0
  | .cons _ r => r.len + 1
/-- o[i] = v -/
def setItem (o : Val) (i : D) (v : Val) : Mo Unit := fun h => match o, i with
  | .ref l, .int k => match h[l]? with
    | some (.lst vs) => match ixN vs.length k with
      | some j => if base ≤ l || okV l v then .ok () (h.set l (.lst (vs.set j v))) else .bad
      | none => .bad
    | _ => .bad
  | _, _ => .bad
def appendM (o v : Val) : Mo RV := fun h => match o with
  | .ref l => match h[l]? with
    | some (.lst vs) => if (base ≤ l || okV l v) && decide (vs.length < lineN) then .ok (.v (.d .non)) (h.set l (.lst (vs ++ [v]))) else .bad
    | _ => .bad
  | _ => .bad
def flats (h : Hm) : List Val → Option (List D)
  | [] => some []
  | v :: r => match flat h v, flats h r with
    | some x, some xs => some (x :: xs)
    | _, _ => none

/-- o.m(..), o of a built-in type -/
def metM (x : Val) (m : String) (vs : List Val) : Mo RV :=
  if m = "append" then match vs with
    | [v] => appendM base x v
    | _ => .fail
  else fun h => match flat h x, flats h vs with
      | some d, some ds => match metD d m ds with
        | some r => .ok (.v (.d r)) h
        | none => .bad
      | _, _ => .bad
def vOf (m : Mo RV) : Mo Val := m.bnd fun r => frzM r
def truM (x : Val) : Mo Bool := fun h => match truV h x with
  | some b => .ok b h
  | none => .bad
def tOf (m : Mo RV) : Mo Bool := (vOf m).bnd truM
def cmpM (o : Cmp) (x y : Val) : Mo Bool := fun h => match flat h x, flat h y with
  | some x, some y => match cmpD o x y with
    | some c => .ok c h
    | none => .bad
  | _, _ => .bad
def blM (b : Bool) : Mo RV := .ret (.v (.d (.bl b)))
/-- x[lo:hi] -/
def cutL {α : Type} (xs : List α) (lo hi : Option Int) : List α := (xs.drop (HT.sIx xs.length 0 lo)).take (HT.sIx xs.length xs.length hi - HT.sIx xs.length 0 lo)
def slV (h : Hm) (x : Val) (lo hi : Option Int) : Option RV := match x with
  | .d (.str s) => if s.length ≤ lineN then some (.v (.d (.str (L2.cutS s lo hi)))) else none
  | .d (.lst xs) => some (.own (.lst ((cutL xs lo hi).map .d)))
  | .ref i => match h[i]? with
    | some (.lst vs) => some (.own (.lst (cutL vs lo hi)))
    | _ => none
  | _ => none
/-- d[k] = v, in the order of a dict -/
def putM {κ : Type} [DecidableEq κ] {α : Type} : List (κ × α) → κ → α → List (κ × α) := fun kvs k v => if k ∈ kvs.map (·.1) then kvs.map (fun p => if p.1 = k then (p.1, v) else p) else kvs ++ [(k, v)]
def keyD : Val → Option (Sum Int Str)
  | .d (.int i) => some (.inl i)
  | .d (.str s) => some (.inr s)
  | _ => none
def pairsK : List Val → Option (List (Sum Int Str × Val))
  | [] => some []
  | k :: v :: r => match keyD k, pairsK r with
    | some k, some r => some ((k, v) :: r)
    | _, _ => none
  | _ => none
mutual
def evE : ME → Sl → Mo RV
  | .var i, σ => fun h => match σ[i]? with
    | some (some v) => .ok (.v v) h
    | _ => .bad
  | .non, _ => .ret (.v (.d .non))
  | .bl b, _ => .ret (.v (.d (.bl b)))
  | .int i, _ => .ret (.v (.d (.int i)))
  | .str s, _ => .ret (.v (.d (.str s)))
  | .glob x, _ => fun h => match T.cst x with
    | some d => .ok (.v (.d d)) h
    | none => .bad
  | .ari o a b, σ => (vOf (evE a σ)).bnd fun x => (vOf (evE b σ)).bnd fun y h => match flat h x, flat h y with
    | some x, some y => match ariD o x y with
      | some r => .ok r h
      | none => .bad
    | _, _ => .bad
  | .neg a, σ => (vOf (evE a σ)).bnd fun x => match x with
    | .d (.int i) => .ret (.v (.d (.int (-i))))
    | _ => .fail
  | .not a, σ => (tOf (evE a σ)).bnd fun b => .ret (.v (.d (.bl (!b))))
  | .and a b, σ => (vOf (evE a σ)).bnd fun x => (truM x).bnd fun k => if k then evE b σ else .ret (.v x)
  | .or a b, σ => (vOf (evE a σ)).bnd fun x => (truM x).bnd fun k => if k then .ret (.v x) else evE b σ
  | .cmp o a b, σ => (vOf (evE a σ)).bnd fun x => (vOf (evE b σ)).bnd fun y => (cmpM o x y).bnd blM
  | .cmp2 o o2 a b c, σ => (vOf (evE a σ)).bnd fun x => (vOf (evE b σ)).bnd fun y => (cmpM o x y).bnd fun k => if k then (vOf (evE c σ)).bnd fun z => (cmpM o2 y z).bnd blM else blM false
  | .ife c a b, σ => (tOf (evE c σ)).bnd fun k => if k then evE a σ else evE b σ
  | .call f as, σ => (evEs as σ).bnd fun vs => call f vs
  | .new c as, σ => (evEs as σ).bnd fun vs => new c vs
  | .bif f as, σ => (evEs as σ).bnd fun vs h => match flats h vs with
    | some ds => match bifD T f ds with
      | some d => .ok (.v (.d d)) h
      | none => .bad
    | none => .bad
  | .met o m as, σ => (vOf (evE o σ)).bnd fun x h0 => if hasTy h0 x (metTy m) then ((evEs as σ).bnd fun vs => metM base x m vs) h0 else .bad
  | .att _ _, _ => .fail
  | .sub o i, σ => (vOf (evE o σ)).bnd fun x => (vOf (evE i σ)).bnd fun y h => match y with
    | .d y => match subV h x y with
      | some v => .ok (.v v) h
      | none => .bad
    | _ => .bad
  | .sl o lo hi, σ => (vOf (evE o σ)).bnd fun x => (evP lo σ).bnd fun l => (evP hi σ).bnd fun u h => match slV h x l u with
    | some r => .ok r h
    | none => .bad
  | .tup es, σ => (evEs es σ).bnd fun vs => if vs.length ≤ lineN then .ret (.v (mkTup vs)) else .fail
  | .lst es, σ => (evEs es σ).bnd fun vs => if vs.length ≤ lineN then .ret (.own (.lst vs)) else .fail
  | .dic ps, σ => (evEs ps σ).bnd fun vs => match pairsK vs with
    | some kvs => if kvs.length ≤ 15 ∧ kvs ≠ [] then .ret (.own (.dicK (kvs.foldl (fun acc kv => putM acc kv.1 kv.2) []))) else .fail
    | none => .fail
  | .dnew t, _ => if t then .ret (.own (.dicT [])) else .ret (.own (.dicK []))
  | .lc elt tg it ifs own, σ => (evI it σ).bnd fun w =>
    let σ0 := wipeS σ (own.map (·.2))
    let step := fun v => (evG tg v σ0).bnd fun σ1 => (evO ifs σ1).bnd fun b => if b then (vOf (evE elt σ1)).bnd fun x => .ret (some x) else .ret none
    (match w with
      | .fix vs => lcF step vs []
      | .cell i => lcC i step lineN 0 []).bnd fun acc => .ret (.own (.lst acc))
/-- a part of a slice -/
def evP : MO → Sl → Mo (Option Int)
  | .none, _ => .ret none
  | .some e, σ => (vOf (evE e σ)).bnd fun x => match x with
    | .d (.int i) => .ret (some i)
    | _ => .fail
def evO : MO → Sl → Mo Bool
  | .none, _ => .ret true
  | .some e, σ => tOf (evE e σ)
def evEs : MEs → Sl → Mo (List Val)
  | .nil, _ => .ret []
  | .cons a r, σ => (vOf (evE a σ)).bnd fun x => (evEs r σ).bnd fun xs => .ret (x :: xs)
def evI : MI → Sl → Mo Wk
  | .val e, σ => (vOf (evE e σ)).bnd fun x h => match walkW h x with
    | some k => .ok k h
    | none => .bad
  | .range as, σ => (evEs as σ).bnd fun vs => .opt (rangeW vs)
  | .enum _, _ => .fail
  | .zip _ _, _ => .fail
def evG : MT → Val → Sl → Mo Sl
  | .name i, v, σ => if i < σ.length then .ret (σ.set i (some v)) else .fail
  | .tup ts, v, σ => match unTup ts.len v with
    | some vs => evGs ts vs σ
    | none => .fail
  | .sub o i, v, σ => (vOf (evE o σ)).bnd fun x => (vOf (evE i σ)).bnd fun y => match y with
    | .d y => (setItem base x y v).bnd fun _ => .ret σ
    | _ => .fail
  | .att _ _, _, _ => .fail
def evGs : MTs → List Val → Sl → Mo Sl
  | .nil, [], σ => .ret σ
  | .cons t r, v :: vs, σ => (evG t v σ).bnd fun σ1 => evGs r vs σ1
  | _, _, _ => .fail
end
def evV (e : ME) (σ : Sl) : Mo Val := vOf (evE T call new base e σ)
def evT (e : ME) (σ : Sl) : Mo Bool := tOf (evE T call new base e σ)
mutual
def exS : MS → Sl → Mo (Fl × Sl)
  | .asg t false e, σ => (evV T call new base e σ).bnd fun v => (evG T call new base t v σ).bnd fun σ1 => .ret (.nx, σ1)
  | .asg t true e, σ => (evE T call new base e σ).bnd fun r => match r with
    | .own c => fun h => ((evG T call new base t (.ref h.length) σ).bnd fun σ1 => .ret (.nx, σ1)) (h ++ [c])
    | .v _ => .fail
  | .expr e, σ => (evV T call new base e σ).bnd fun _ => .ret (.nx, σ)
  | .ret e, σ => (evE T call new base e σ).bnd fun r => .ret (.ret r, σ)
  | .retN, σ => .ret (.ret (.v (.d .non)), σ)
  | .ite c a b, σ => (evT T call new base c σ).bnd fun k => if k then exSs a σ else exSs b σ
  | .for t it b, σ => (evI T call new base it σ).bnd fun w =>
    let step := fun v σ => (evG T call new base t v σ).bnd fun σ1 => exSs b σ1
    match w with
      | .fix vs => forF step vs σ
      | .cell i => forC i step lineN 0 σ
  | .while c b, σ => whileF (fun σ => evT T call new base c σ) (fun σ => exSs b σ) lineN σ
  | .pass, σ => .ret (.nx, σ)
  | .brk, σ => .ret (.brk, σ)
  | .cnt, σ => .ret (.cnt, σ)
  | .raise, _ => .fail
def exSs : MSs → Sl → Mo (Fl × Sl)
  | .nil, σ => .ret (.nx, σ)
  | .cons a r, σ => (exS a σ).bnd fun p => match p.1 with
    | .nx => exSs r p.2
    | f => .ret (f, p.2)
end
end
/-- a def is left: what it hands back, the places above the base are gone -/
def leave (b : Nat) (r : RV) : Mo RV := fun h => match r with
  | .v (.d x) => .ok (.v (.d x)) (h.take b)
  | .v (.ref i) => if i < b then .ok (.v (.ref i)) (h.take b) else match h[i]? with
    | some (.lst vs) => match allD vs with
      | some _ => .ok (.own (.lst vs)) (h.take b)
      | none => .bad
    | _ => .bad
  | .v (.tup _) => .bad
  | .own (.lst vs) => match allD vs with
    | some _ => .ok (.own (.lst vs)) (h.take b)
    | none => .bad
  | _ => .bad
def startS (d : MDef) (as : List Val) : Sl := as.map some ++ List.replicate (d.slots - as.length) none
def runD (T : Tb) (call new : String → List Val → Mo RV) (d : MDef) (as : List Val) : Mo RV := fun h =>
  if as.length = d.ps then
    ((exSs T call new h.length d.body (startS d as)).bnd fun p => match p.1 with
      | .nx => leave h.length (.v (.d .non))
      | .ret r => leave h.length r
      | _ => .fail) h
  else .bad
/-- C(..): an own error -/
def newT (T : Tb) (n : Nat) (c : String) (as : List Val) : Mo RV := if T.exc c && decide (3 ≤ n) then match as with
  | [_] => .ret (.v (.d (.exc c)))
  | _ => .fail else .fail
def callN (T : Tb) : Nat → String → List Val → Mo RV
  | 0, _, _ => .fail
  | n + 1, f, as => match T.defs f with
    | some d => runD T (callN T n) (newT T n) d as
    | none => .fail
end Mi

set_option Elab.async false
set_option linter.all false
set_option maxRecDepth 100000
set_option maxHeartbeats 1000000
/-! Mini 3: how data, places and states stand for what HandS tracks. -/
namespace Mi
open PySem L2

/-- where the text's own things stand -/
structure Lk where
  K : PySem.W.Frag
  mg : Str → Option Value
  cl : String → Option Addr

section
variable (L : Lk) (G : Hp)
mutual
inductive Rep : V → D → Prop
  | non : Rep .non .non
  | bl (b : Bool) : Rep (.bl b) (.bl b)
  | int (i : Int) : Rep (.int i) (.int i)
  | str (s : Str) : Rep (.str s) (.str s)
  | tup {a : Addr} {xs : List V} {ds : List D} : SqT L.K G a xs → RepL xs ds → Rep (.ref a) (.tup ds)
  | lst {a : Addr} {xs : List V} {ds : List D} : G a = some (.lst xs) → RepL xs ds → Rep (.ref a) (.lst ds)
  | ty (n : String) : Rep (.ty n) (.ty n)
  | cls {c : String} {a : Addr} : L.cl c = some a → Rep (.ref a) (.cls c)
  | scr {a : Addr} {ns : List Int} : SqL L.K G a (ns.map V.int) → Rep (.ref a) (.scr ns)
  | dicK {a : Addr} {kvs : List (Key × V)} {ds : List (Sum Int Str × D)} : G a = some (.dK kvs) → ds.map (·.1) = kvs.map (·.1) → RepL (kvs.map (·.2)) (ds.map (·.2)) → Rep (.ref a) (.dicK ds)
  | dicT {a : Addr} {kvs : List (List Key × V)} {ds : List (List (Sum Int Str) × D)} : G a = some (.dT kvs) → ds.map (·.1) = kvs.map (·.1) → RepL (kvs.map (·.2)) (ds.map (·.2)) → Rep (.ref a) (.dicT ds)
  | exc {c : String} {a C d : Addr} {fs : List (Str × V)} : L.cl c = some C → G a = some (exo a C (some d)) → G d = some (exd d fs) → Rep (.ref a) (.exc c)
inductive RepL : List V → List D → Prop
  | nil : RepL [] []
  | cons {x : V} {d : D} {xs : List V} {ds : List D} : Rep x d → RepL xs ds → RepL (x :: xs) (d :: ds)
end
end
section
variable (L : Lk) (G : Hp) (ι : Nat → Addr) (n : Nat)
mutual
inductive VR : Val → V → Prop
  | d {x : V} {d : D} : Rep L G x d → VR (.d d) x
  | ref {i : Nat} : i < n → VR (.ref i) (.ref (ι i))
  | tup {a : Addr} {xs : List V} {vs : List Val} : SqT L.K G a xs → VRL vs xs → VR (.tup vs) (.ref a)
inductive VRL : List Val → List V → Prop
  | nil : VRL [] []
  | cons {v : Val} {x : V} {vs : List Val} {xs : List V} : VR v x → VRL vs xs → VRL (v :: vs) (x :: xs)
end
end
section
variable (L : Lk)
inductive CellR (G : Hp) (ι : Nat → Addr) (n : Nat) : Cell → HO → Prop
  | lst {vs : List Val} {xs : List V} : VRL L G ι n vs xs → CellR G ι n (.lst vs) (.lst xs)
  | dicK {vs : List (Sum Int Str × Val)} {kvs : List (Key × V)} : vs.map (·.1) = kvs.map (·.1) → VRL L G ι n (vs.map (·.2)) (kvs.map (·.2)) → CellR G ι n (.dicK vs) (.dK kvs)
  | dicT {vs : List (List (Sum Int Str) × Val)} {kvs : List (List Key × V)} : vs.map (·.1) = kvs.map (·.1) → VRL L G ι n (vs.map (·.2)) (kvs.map (·.2)) → CellR G ι n (.dicT vs) (.dT kvs)

/-- a world: the frozen part, the places' addresses, the places, the abstract heap -/
structure Wd where
  G : Hp
  i : Nat → Addr
  h : Hm
  H : Hp
abbrev Wd.n (w : Wd) : Nat := w.h.length
abbrev wV (w : Wd) := VR L w.G w.i w.n
abbrev wVL (w : Wd) := VRL L w.G w.i w.n
structure Sm (w : Wd) : Prop where
  le : ∀ a o, w.G a = some o → w.H a = some o
  cell : ∀ i c, w.h[i]? = some c → ∃ o, w.H (w.i i) = some o ∧ CellR L w.G w.i w.n c o
  free : ∀ i, i < w.n → w.G (w.i i) = none
  inj : ∀ i j, i < w.n → j < w.n → w.i i = w.i j → i = j
def okC (b : Nat) : Cell → Bool
  | .lst vs => okVs b vs
  | .dicK kvs => okVs b (kvs.map (·.2))
  | .dicT kvs => okVs b (kvs.map (·.2))
  | .ins _ fs => okVs b (fs.map (·.2))
/-- the places below b lead to places below b alone -/
def Bd (b : Nat) (h : Hm) : Prop := ∀ i c, i < b → h[i]? = some c → okC b c = true
structure Nx (B : Nat) (w w' : Wd) : Prop where
  sm : Sm L w'
  le : ∀ a o, w.G a = some o → w'.G a = some o
  same : ∀ i, i < w.n → w'.i i = w.i i
  len : w.n ≤ w'.n
  keep : ∀ a o, w.H a = some o → (∀ i, i < w.n → a ≠ w.i i) → w'.H a = some o
  fresh : ∀ j, w.n ≤ j → j < w'.n → w.H (w'.i j) = none
  gnew : ∀ a o, w'.G a = some o → w.G a = some o ∨ w.H a = none
  bd : ∀ b, b ≤ B → Bd b w.h → Bd b w'.h
def RVR (w w' : Wd) : RV → V → Prop
  | .v x, y => wV L w' x y
  | .own c, y => ∃ p o, y = .ref p ∧ w'.H p = some o ∧ CellR L w'.G w'.i w'.n c o ∧ w'.G p = none ∧ (∀ i, i < w'.n → w'.i i ≠ p) ∧ w.H p = none
def EnvR (w : Wd) (env : Sl) (σ : St) : Prop := env.length = σ.length ∧ ∀ (j : Nat) (v : Val), env[j]? = some (some v) → ∃ x, σ[j]? = some (some x) ∧ wV L w v x
end

section
variable {L : Lk} {G G' : Hp}
theorem sqT_mono {K : PySem.W.Frag} (g : ∀ a o, G a = some o → G' a = some o) {a : Addr} {xs : List V} (h : SqT K G a xs) : SqT K G' a xs := by
  rcases h with (h | ⟨o, h⟩) | h
  · exact .inl (.inl (g _ _ h))
  · exact .inl (.inr ⟨o, g _ _ h⟩)
  · exact .inr h
theorem sqL_mono {K : PySem.W.Frag} (g : ∀ a o, G a = some o → G' a = some o) {a : Addr} {xs : List V} (h : SqL K G a xs) : SqL K G' a xs := by
  rcases h with (h | ⟨o, h⟩) | h
  · exact .inl (.inl (g _ _ h))
  · exact .inl (.inr ⟨o, g _ _ h⟩)
  · exact .inr h
mutual
theorem Rep.mono (g : ∀ a o, G a = some o → G' a = some o) : ∀ {x : V} {d : D}, Rep L G x d → Rep L G' x d
  | _, _, .non => .non
  | _, _, .bl b => .bl b
  | _, _, .int b => .int b
  | _, _, .str b => .str b
  | _, _, .tup h r => .tup (sqT_mono g h) (r.mono g)
  | _, _, .lst h r => .lst (g _ _ h) (r.mono g)
  | _, _, .ty b => .ty b
  | _, _, .cls h => .cls h
  | _, _, .scr h => .scr (sqL_mono g h)
  | _, _, .dicK h e r => .dicK (g _ _ h) e (r.mono g)
  | _, _, .dicT h e r => .dicT (g _ _ h) e (r.mono g)
  | _, _, .exc h h1 h2 => .exc h (g _ _ h1) (g _ _ h2)
theorem RepL.mono (g : ∀ a o, G a = some o → G' a = some o) : ∀ {xs : List V} {ds : List D}, RepL L G xs ds → RepL L G' xs ds
  | _, _, .nil => .nil
  | _, _, .cons h r => .cons (h.mono g) (r.mono g)
end
theorem RepL.length : ∀ {xs : List V} {ds : List D}, RepL L G xs ds → xs.length = ds.length
  | _, _, .nil => rfl
  | _, _, .cons _ r => congrArg (· + 1) r.length
theorem RepL.get : ∀ {xs : List V} {ds : List D} {j : Nat} {d : D}, RepL L G xs ds → ds[j]? = some d → ∃ x, xs[j]? = some x ∧ Rep L G x d
  | _, _, _, _, .nil, e => by simp at e
  | _, _, 0, _, .cons h _, e => by simp at e; subst e; exact ⟨_, rfl, h⟩
  | _, _, j + 1, d, .cons _ r, e => by
    obtain ⟨x, h1, h2⟩ := RepL.get (j := j) (d := d) r (by simpa using e)
    exact ⟨x, by simpa using h1, h2⟩
theorem RepL.append : ∀ {xs ys : List V} {ds es : List D}, RepL L G xs ds → RepL L G ys es → RepL L G (xs ++ ys) (ds ++ es)
  | _, _, _, _, .nil, s => s
  | _, _, _, _, .cons h r, s => .cons h (r.append s)

variable {ι ι' : Nat → Addr} {n n' : Nat}
mutual
theorem VR.mono (g : ∀ a o, G a = some o → G' a = some o) (e : ∀ i, i < n → ι' i = ι i) (l : n ≤ n') : ∀ {v : Val} {x : V}, VR L G ι n v x → VR L G' ι' n' v x
  | _, _, .d r => .d (r.mono g)
  | _, _, .ref (i := i) h => by rw [← e i h]; exact .ref (Nat.lt_of_lt_of_le h l)
  | _, _, .tup h r => .tup (sqT_mono g h) (r.mono g e l)
theorem VRL.mono (g : ∀ a o, G a = some o → G' a = some o) (e : ∀ i, i < n → ι' i = ι i) (l : n ≤ n') : ∀ {vs : List Val} {xs : List V}, VRL L G ι n vs xs → VRL L G' ι' n' vs xs
  | _, _, .nil => .nil
  | _, _, .cons h r => .cons (h.mono g e l) (r.mono g e l)
end
theorem VRL.length : ∀ {vs : List Val} {xs : List V}, VRL L G ι n vs xs → vs.length = xs.length
  | _, _, .nil => rfl
  | _, _, .cons _ r => congrArg (· + 1) r.length
theorem VRL.get : ∀ {vs : List Val} {xs : List V} {j : Nat} {v : Val}, VRL L G ι n vs xs → vs[j]? = some v → ∃ x, xs[j]? = some x ∧ VR L G ι n v x
  | _, _, _, _, .nil, e => by simp at e
  | _, _, 0, _, .cons h _, e => by simp at e; subst e; exact ⟨_, rfl, h⟩
  | _, _, j + 1, d, .cons _ r, e => by
    obtain ⟨x, h1, h2⟩ := VRL.get (j := j) (v := d) r (by simpa using e)
    exact ⟨x, by simpa using h1, h2⟩
theorem VRL.getV : ∀ {vs : List Val} {xs : List V} {j : Nat} {x : V}, VRL L G ι n vs xs → xs[j]? = some x → ∃ v, vs[j]? = some v ∧ VR L G ι n v x
  | _, _, _, _, .nil, e => by simp at e
  | _, _, 0, _, .cons h _, e => by simp at e; subst e; exact ⟨_, rfl, h⟩
  | _, _, j + 1, d, .cons _ r, e => by
    obtain ⟨x, h1, h2⟩ := VRL.getV (j := j) (x := d) r (by simpa using e)
    exact ⟨x, by simpa using h1, h2⟩
theorem VRL.append : ∀ {xs ys : List Val} {ds es : List V}, VRL L G ι n xs ds → VRL L G ι n ys es → VRL L G ι n (xs ++ ys) (ds ++ es)
  | _, _, _, _, .nil, s => s
  | _, _, _, _, .cons h r, s => .cons h (r.append s)
theorem VRL.set {v : Val} {x : V} (r : VR L G ι n v x) : ∀ {vs : List Val} {xs : List V} (j : Nat), VRL L G ι n vs xs → VRL L G ι n (vs.set j v) (xs.set j x)
  | _, _, _, .nil => .nil
  | _, _, 0, .cons _ t => .cons r t
  | _, _, j + 1, .cons q t => .cons q (VRL.set r j t)
theorem VRL.ofRep : ∀ {xs : List V} {ds : List D}, RepL L G xs ds → VRL L G ι n (ds.map .d) xs
  | _, _, .nil => .nil
  | _, _, .cons h r => .cons (.d h) (VRL.ofRep r)
theorem VRL.allD : ∀ {vs : List Val} {xs : List V} {ds : List D}, VRL L G ι n vs xs → Mi.allD vs = some ds → RepL L G xs ds
  | [], _, ds, .nil, e => by cases e; exact .nil
  | .d d :: vs, _, ds, .cons h r, e => by
    have e' : (Mi.allD vs).map (d :: ·) = some ds := e
    cases q : Mi.allD vs with
    | none => rw [q] at e'; cases e'
    | some es =>
      rw [q] at e'; cases e'
      cases h with
      | d h => exact .cons h (r.allD q)
  | .ref i :: vs, _, ds, .cons h r, e => by cases e
  | .tup i :: vs, _, ds, .cons h r, e => by cases e
theorem allD_map : ∀ ds : List D, allD (ds.map .d) = some ds
  | [] => rfl
  | d :: ds => by
    show (allD (ds.map .d)).map (d :: ·) = some (d :: ds)
    rw [allD_map ds]; rfl
theorem CellR.mono (g : ∀ a o, G a = some o → G' a = some o) (e : ∀ i, i < n → ι' i = ι i) (l : n ≤ n') {c : Cell} {o : HO} : CellR L G ι n c o → CellR L G' ι' n' c o
  | .lst r => .lst (r.mono g e l)
  | .dicK q r => .dicK q (r.mono g e l)
  | .dicT q r => .dicT q (r.mono g e l)
end

section
variable {L : Lk} {B : Nat} {w w' w2 : Wd}
theorem Sm.ne (s : Sm L w) {p : Addr} (h : w.H p = none) : ∀ i, i < w.n → w.i i ≠ p := fun i hi e => by
  obtain ⟨c, hc⟩ : ∃ c, w.h[i]? = some c := ⟨_, List.getElem?_eq_getElem hi⟩
  obtain ⟨o, ho, _⟩ := s.cell i c hc
  rw [e, h] at ho; cases ho
theorem Sm.gnone (s : Sm L w) {p : Addr} (h : w.H p = none) : w.G p = none := by
  cases q : w.G p with
  | none => rfl
  | some o => rw [s.le p o q] at h; cases h
theorem Nx.refl (s : Sm L w) : Nx L B w w := ⟨s, fun _ _ h => h, fun _ _ => rfl, Nat.le_refl _, fun _ _ h _ => h, fun j h1 h2 => absurd (Nat.lt_of_lt_of_le h2 h1) (Nat.lt_irrefl _), fun _ _ h => .inl h, fun _ _ h => h⟩
theorem Nx.none (x : Nx L B w w') (s : Sm L w) {p : Addr} (h : w'.H p = none) : w.H p = none := by
  cases q : w.H p with
  | none => rfl
  | some o =>
    by_cases hi : ∃ i, i < w.n ∧ p = w.i i
    · obtain ⟨i, hi, rfl⟩ := hi
      have hn : i < w'.n := Nat.lt_of_lt_of_le hi x.len
      obtain ⟨c, hc⟩ : ∃ c, w'.h[i]? = some c := ⟨_, List.getElem?_eq_getElem hn⟩
      obtain ⟨o', ho, _⟩ := x.sm.cell i c hc
      rw [x.same i hi, h] at ho; cases ho
    · rw [x.keep p o q (fun i h1 h2 => hi ⟨i, h1, h2⟩)] at h; cases h
theorem Nx.trans (s : Sm L w) (x : Nx L B w w') (y : Nx L B w' w2) : Nx L B w w2 where
  sm := y.sm
  le := fun a o h => y.le a o (x.le a o h)
  same := fun i h => (y.same i (Nat.lt_of_lt_of_le h x.len)).trans (x.same i h)
  len := Nat.le_trans x.len y.len
  keep := fun a o h hn => y.keep a o (x.keep a o h hn) fun i hi e => by
    by_cases q : i < w.n
    · exact hn i q (e.trans (x.same i q))
    · have z := x.fresh i (Nat.le_of_not_lt q) hi
      rw [← e, h] at z; cases z
  fresh := fun j h1 h2 => by
    by_cases q : j < w'.n
    · rw [y.same j q]; exact x.fresh j h1 q
    · exact x.none s (y.fresh j (Nat.le_of_not_lt q) h2)
  gnew := fun a o h => by
    rcases y.gnew a o h with q | q
    · exact x.gnew a o q
    · exact .inr (x.none s q)
  bd := fun b hb h => y.bd b hb (x.bd b hb h)
theorem Nx.v (x : Nx L B w w') {v : Val} {y : V} (r : wV L w v y) : wV L w' v y := r.mono x.le x.same x.len
theorem Nx.vl (x : Nx L B w w') {v : List Val} {y : List V} (r : wVL L w v y) : wVL L w' v y := r.mono x.le x.same x.len
theorem Nx.rep (x : Nx L B w w') {v : V} {y : D} (r : Rep L w.G v y) : Rep L w'.G v y := r.mono x.le
theorem EnvR.nx {env : Sl} {σ : St} (e : EnvR L w env σ) (x : Nx L B w w') : EnvR L w' env σ := ⟨e.1, fun j v h => let ⟨y, h1, h2⟩ := e.2 j v h; ⟨y, h1, x.v h2⟩⟩
/-- a tracked address that is no place keeps its object -/
theorem Nx.kept (x : Nx L B w w') {p : Addr} {o : HO} (h : w.H p = some o) (hn : ∀ i, i < w.n → w.i i ≠ p) : w'.H p = some o := x.keep p o h fun i hi e => hn i hi e.symm
/-- .. and it is frozen behind only if it was -/
theorem Nx.gkept (x : Nx L B w w') {p : Addr} {o : HO} (h : w.H p = some o) (hg : w.G p = Option.none) : w'.G p = Option.none := by
  cases q : w'.G p with
  | none => rfl
  | some u =>
    rcases x.gnew p u q with z | z
    · rw [hg] at z; cases z
    · rw [h] at z; cases z
theorem Nx.nplace (x : Nx L B w w') {p : Addr} {o : HO} (h : w.H p = some o) (hn : ∀ i, i < w.n → w.i i ≠ p) : ∀ i, i < w'.n → w'.i i ≠ p := fun i hi e => by
  by_cases q : i < w.n
  · exact hn i q ((x.same i q).symm.trans e)
  · have z := x.fresh i (Nat.le_of_not_lt q) hi
    rw [e, h] at z; cases z
/-- a new object, frozen at once -/
theorem Nx.freeze (s : Sm L w) {p : Addr} {o : HO} (h : w.H p = Option.none) : Nx L B w ⟨upd w.G p o, w.i, w.h, upd w.H p o⟩ := by
  have hg := s.gnone h
  have ne := s.ne h
  have le : ∀ a u, w.G a = some u → upd w.G p o a = some u := fun a u e => by
    rw [upd_ne (ne_of_none e hg)]; exact e
  refine ⟨⟨fun a u e => ?_, fun i c e => ?_, fun i hi => ?_, s.inj⟩, le, fun _ _ => rfl, Nat.le_refl _, fun a u e _ => ?_, fun j h1 h2 => absurd (Nat.lt_of_lt_of_le h2 h1) (Nat.lt_irrefl _), fun a u e => ?_, fun _ _ h => h⟩
  · dsimp only at e ⊢
    by_cases q : a = p
    · subst q; rw [upd_same] at e ⊢; exact e
    · rw [upd_ne q] at e ⊢; exact s.le a u e
  · obtain ⟨u, hu, r⟩ := s.cell i c e
    refine ⟨u, ?_, r.mono le (fun _ _ => rfl) (Nat.le_refl _)⟩
    show upd w.H p o (w.i i) = some u
    rw [upd_ne (ne_of_none hu h)]; exact hu
  · show upd w.G p o (w.i i) = Option.none
    rw [upd_ne (ne i hi)]; exact s.free i hi
  · show upd w.H p o a = some u
    rw [upd_ne (ne_of_none e h)]; exact e
  · by_cases q : a = p
    · subst q; exact .inr h
    · have e' : upd w.G p o a = some u := e
      rw [upd_ne q] at e'; exact .inl e'
/-- an object of one's own is frozen -/
theorem Nx.frzOwn (s0 : Sm L w) (x : Nx L B w w') {p : Addr} {o : HO} (h : w'.H p = some o) (hg : w'.G p = Option.none) (hn : ∀ i, i < w'.n → w'.i i ≠ p) (h0 : w.H p = Option.none) : Nx L B w ⟨upd w'.G p o, w'.i, w'.h, w'.H⟩ := by
  have s := x.sm
  have le : ∀ a u, w'.G a = some u → upd w'.G p o a = some u := fun a u e => by
    rw [upd_ne (ne_of_none e hg)]; exact e
  refine ⟨⟨fun a u e => ?_, fun i c e => ?_, fun i hi => ?_, s.inj⟩, fun a u e => le a u (x.le a u e), x.same, x.len, x.keep, x.fresh, fun a u e => ?_, x.bd⟩
  · dsimp only at e ⊢
    by_cases q : a = p
    · subst q; rw [upd_same] at e; cases e; exact h
    · rw [upd_ne q] at e; exact s.le a u e
  · obtain ⟨u, hu, r⟩ := s.cell i c e
    exact ⟨u, hu, r.mono le (fun _ _ => rfl) (Nat.le_refl _)⟩
  · show upd w'.G p o (w'.i i) = Option.none
    rw [upd_ne (hn i hi)]; exact s.free i hi
  · by_cases q : a = p
    · subst q; exact .inr h0
    · have e' : upd w'.G p o a = some u := e
      rw [upd_ne q] at e'; exact x.gnew a u e'
/-- a new object that stays one's own -/
theorem Nx.laid (s : Sm L w) {p : Addr} {o : HO} (h : w.H p = Option.none) : Nx L B w ⟨w.G, w.i, w.h, upd w.H p o⟩ := by
  have hg := s.gnone h
  refine ⟨⟨fun a u e => ?_, fun i c e => ?_, s.free, s.inj⟩, fun _ _ e => e, fun _ _ => rfl, Nat.le_refl _, fun a u e _ => ?_, fun j h1 h2 => absurd (Nat.lt_of_lt_of_le h2 h1) (Nat.lt_irrefl _), fun a u e => .inl e, fun _ _ h => h⟩
  · show upd w.H p o a = some u
    rw [upd_ne (ne_of_none e hg)]; exact s.le a u e
  · obtain ⟨u, hu, r⟩ := s.cell i c e
    exact ⟨u, by show upd w.H p o (w.i i) = some u; rw [upd_ne (ne_of_none hu h)]; exact hu, r⟩
  · show upd w.H p o a = some u
    rw [upd_ne (ne_of_none e h)]; exact e
/-- one's own object changed -/
theorem Sm.own (s : Sm L w) {p : Addr} {o : HO} (hg : w.G p = Option.none) (hn : ∀ i, i < w.n → w.i i ≠ p) : Sm L ⟨w.G, w.i, w.h, upd w.H p o⟩ := by
  refine ⟨fun a u e => ?_, fun i c e => ?_, s.free, s.inj⟩
  · show upd w.H p o a = some u
    rw [upd_ne (ne_of_none e hg)]; exact s.le a u e
  · obtain ⟨u, hu, r⟩ := s.cell i c e
    have hi : i < w.n := (List.getElem?_eq_some_iff.mp e).1
    exact ⟨u, by show upd w.H p o (w.i i) = some u; rw [upd_ne (hn i hi)]; exact hu, r⟩
/-- a place gets another content -/
theorem Nx.put (s : Sm L w) {l : Nat} {c : Cell} {o : HO} (hl : l < w.n) (r : CellR L w.G w.i w.n c o) (hb : ∀ b, b ≤ B → Bd b w.h → l < b → okC b c = true) : Nx L B w ⟨w.G, w.i, w.h.set l c, upd w.H (w.i l) o⟩ := by
  have len : (w.h.set l c).length = w.h.length := List.length_set
  refine ⟨⟨fun a u e => ?_, fun i c' e => ?_, fun i hi => s.free i (by simpa [Wd.n] using hi), fun i j hi hj => s.inj i j (by simpa [Wd.n] using hi) (by simpa [Wd.n] using hj)⟩, fun _ _ e => e, fun _ _ => rfl, by simp [Wd.n], fun a u e hn => ?_, fun j h1 h2 => ?_, fun a u e => .inl e, fun b h1 h2 i c' hi e => ?_⟩
  · show upd w.H (w.i l) o a = some u
    rw [upd_ne (ne_of_none e (s.free l hl))]; exact s.le a u e
  · by_cases q : i = l
    · subst q
      have e' : (w.h.set i c)[i]? = some c' := e
      rw [List.getElem?_set_self hl] at e'
      cases e'
      exact ⟨o, upd_same, r.mono (fun _ _ e => e) (fun _ _ => rfl) (Nat.le_of_eq len.symm)⟩
    · have e' : (w.h.set l c)[i]? = some c' := e
      rw [List.getElem?_set_ne (Ne.symm q)] at e'
      obtain ⟨u, hu, r'⟩ := s.cell i c' e'
      have hi : i < w.n := (List.getElem?_eq_some_iff.mp e').1
      exact ⟨u, by show upd w.H (w.i l) o (w.i i) = some u; rw [upd_ne (fun z => q (s.inj i l hi hl z))]; exact hu, r'.mono (fun _ _ e => e) (fun _ _ => rfl) (Nat.le_of_eq len.symm)⟩
  · show upd w.H (w.i l) o a = some u
    rw [upd_ne (hn l hl)]; exact e
  · have h2' : j < (w.h.set l c).length := h2
    rw [len] at h2'
    exact absurd (Nat.lt_of_lt_of_le h2' h1) (Nat.lt_irrefl _)
  · have e' : (w.h.set l c)[i]? = some c' := e
    by_cases q : i = l
    · subst q
      rw [List.getElem?_set_self hl] at e'
      cases e'
      exact hb b h1 h2 hi
    · rw [List.getElem?_set_ne (Ne.symm q)] at e'
      exact h2 i c' hi e'
/-- one's own object becomes a place -/
theorem Nx.place (s0 : Sm L w) (x : Nx L B w w') {p : Addr} {c : Cell} {o : HO} (h : w'.H p = some o) (r : CellR L w'.G w'.i w'.n c o) (hg : w'.G p = Option.none) (hn : ∀ i, i < w'.n → w'.i i ≠ p) (h0 : w.H p = Option.none) (hB : B ≤ w.n) :
    Nx L B w ⟨w'.G, fun i => if i = w'.n then p else w'.i i, w'.h ++ [c], w'.H⟩ := by
  have s := x.sm
  have same : ∀ i, i < w'.n → (fun i => if i = w'.n then p else w'.i i) i = w'.i i := fun i hi => if_neg (Nat.ne_of_lt hi)
  have at_ : (fun i => if i = w'.n then p else w'.i i) w'.n = p := if_pos rfl
  have len : (w'.h ++ [c]).length = w'.n + 1 := by simp [Wd.n]
  refine ⟨⟨s.le, fun i c' e => ?_, fun i hi => ?_, fun i j hi hj e => ?_⟩, x.le, fun i hi => (same i (Nat.lt_of_lt_of_le hi x.len)).trans (x.same i hi), ?_, x.keep, fun j h1 h2 => ?_, x.gnew, fun b h1 h2 i c' hi e => ?_⟩
  · have e' : (w'.h ++ [c])[i]? = some c' := e
    by_cases q : i < w'.n
    · rw [List.getElem?_append_left q] at e'
      obtain ⟨u, hu, r'⟩ := s.cell i c' e'
      exact ⟨u, by show w'.H ((fun i => if i = w'.n then p else w'.i i) i) = some u; rw [same i q]; exact hu, r'.mono (fun _ _ e => e) same (by show w'.n ≤ (w'.h ++ [c]).length; omega)⟩
    · have z : i < w'.n + 1 := by rw [← len]; exact (List.getElem?_eq_some_iff.mp e').1
      have z' : i = w'.n := by omega
      subst z'
      have e2 : c = c' := by simpa [Wd.n] using e'
      subst e2
      exact ⟨o, by show w'.H ((fun i => if i = w'.n then p else w'.i i) w'.n) = some o; rw [at_]; exact h, r.mono (fun _ _ e => e) same (by show w'.n ≤ (w'.h ++ [c]).length; omega)⟩
  · have hi' : i < w'.n + 1 := by rw [← len]; exact hi
    by_cases q : i < w'.n
    · show w'.G ((fun i => if i = w'.n then p else w'.i i) i) = Option.none
      rw [same i q]; exact s.free i q
    · have z' : i = w'.n := by omega
      subst z'
      show w'.G ((fun i => if i = w'.n then p else w'.i i) w'.n) = Option.none
      rw [at_]; exact hg
  · have hi' : i < w'.n + 1 := by rw [← len]; exact hi
    have hj' : j < w'.n + 1 := by rw [← len]; exact hj
    have e' : (fun i => if i = w'.n then p else w'.i i) i = (fun i => if i = w'.n then p else w'.i i) j := e
    by_cases q : i < w'.n
    · by_cases q2 : j < w'.n
      · rw [same i q, same j q2] at e'; exact s.inj i j q q2 e'
      · have z' : j = w'.n := by omega
        subst z'
        rw [same i q, at_] at e'; exact absurd e' (hn i q)
    · have z' : i = w'.n := by omega
      by_cases q2 : j < w'.n
      · subst z'
        rw [same j q2, at_] at e'; exact absurd e'.symm (hn j q2)
      · omega
  · show w.n ≤ (w'.h ++ [c]).length
    have := x.len; omega
  · have h2' : j < w'.n + 1 := by rw [← len]; exact h2
    by_cases q : j < w'.n
    · show w.H ((fun i => if i = w'.n then p else w'.i i) j) = Option.none
      rw [same j q]; exact x.fresh j h1 q
    · have z' : j = w'.n := by omega
      subst z'
      show w.H ((fun i => if i = w'.n then p else w'.i i) w'.n) = Option.none
      rw [at_]; exact h0
  · have e' : (w'.h ++ [c])[i]? = some c' := e
    have := x.len
    rw [List.getElem?_append_left (show i < w'.h.length by show i < w'.n; omega)] at e'
    exact x.bd b h1 h2 i c' hi e'
/-- what is handed back, frozen -/
theorem RVR.frz (s0 : Sm L w) (x : Nx L B w w') {r : RV} {y : V} {v : Val} (h : RVR L w w' r y) (e : r.frz = some v) : ∃ w2 : Wd, w2.h = w'.h ∧ w2.H = w'.H ∧ Nx L B w w2 ∧ wV L w2 v y := by
  cases r with
  | v z => cases e; exact ⟨w', rfl, rfl, x, h⟩
  | own c =>
    obtain ⟨p, o, rfl, ho, rc, hg, hn, h0⟩ := h
    cases rc with
    | lst rl =>
      rename_i vs xs
      have e' : (allD vs).map (fun ds => Val.d (.lst ds)) = some v := e
      cases q : allD vs with
      | none => rw [q] at e'; cases e'
      | some ds =>
        rw [q] at e'; cases e'
        refine ⟨⟨upd w'.G p (.lst xs), w'.i, w'.h, w'.H⟩, rfl, rfl, Nx.frzOwn s0 x ho hg hn h0, ?_⟩
        refine VR.d (.lst upd_same ?_)
        exact (rl.allD q).mono fun a u e => by dsimp only; rw [upd_ne (ne_of_none e hg)]; exact e
    | dicK qk rl =>
      rename_i vs xs
      have e' : (allD (vs.map (·.2))).map (fun ds => Val.d (.dicK (vs.map (·.1) |>.zip ds))) = some v := e
      cases q : allD (vs.map (·.2)) with
      | none => rw [q] at e'; cases e'
      | some ds =>
        rw [q] at e'; cases e'
        have rr := rl.allD q
        have ll : (vs.map (·.1)).length = ds.length := by rw [List.length_map, ← rr.length, List.length_map]; simpa using congrArg List.length qk
        refine ⟨⟨upd w'.G p (.dK xs), w'.i, w'.h, w'.H⟩, rfl, rfl, Nx.frzOwn s0 x ho hg hn h0, ?_⟩
        refine VR.d (.dicK upd_same ?_ ?_)
        · rw [List.map_fst_zip (Nat.le_of_eq ll)]; exact qk
        · rw [List.map_snd_zip (Nat.le_of_eq ll.symm)]
          exact rr.mono fun a u e => by dsimp only; rw [upd_ne (ne_of_none e hg)]; exact e
    | dicT qk rl =>
      rename_i vs xs
      have e' : (allD (vs.map (·.2))).map (fun ds => Val.d (.dicT (vs.map (·.1) |>.zip ds))) = some v := e
      cases q : allD (vs.map (·.2)) with
      | none => rw [q] at e'; cases e'
      | some ds =>
        rw [q] at e'; cases e'
        have rr := rl.allD q
        have ll : (vs.map (·.1)).length = ds.length := by rw [List.length_map, ← rr.length, List.length_map]; simpa using congrArg List.length qk
        refine ⟨⟨upd w'.G p (.dT xs), w'.i, w'.h, w'.H⟩, rfl, rfl, Nx.frzOwn s0 x ho hg hn h0, ?_⟩
        refine VR.d (.dicT upd_same ?_ ?_)
        · rw [List.map_fst_zip (Nat.le_of_eq ll)]; exact qk
        · rw [List.map_snd_zip (Nat.le_of_eq ll.symm)]
          exact rr.mono fun a u e => by dsimp only; rw [upd_ne (ne_of_none e hg)]; exact e
mutual
theorem VR.ok {G : Hp} {ι : Nat → Addr} {n : Nat} : ∀ {v : Val} {x : V}, VR L G ι n v x → okV n v = true
  | _, _, .d _ => by simp [okV]
  | _, _, .ref h => by simp [okV, h]
  | _, _, .tup _ r => by simp only [okV]; exact r.ok
theorem VRL.ok {G : Hp} {ι : Nat → Addr} {n : Nat} : ∀ {vs : List Val} {xs : List V}, VRL L G ι n vs xs → okVs n vs = true
  | _, _, .nil => rfl
  | _, _, .cons h r => by simp only [okVs, Bool.and_eq_true]; exact ⟨h.ok, r.ok⟩
end
mutual
theorem okV.mono {b b' : Nat} (h : b ≤ b') : ∀ v : Val, okV b v = true → okV b' v = true
  | .d _, _ => by simp [okV]
  | .ref i, e => by
    simp only [okV, decide_eq_true_eq] at e ⊢
    omega
  | .tup vs, e => by
    simp only [okV] at e ⊢
    exact okVs.mono h vs e
theorem okVs.mono {b b' : Nat} (h : b ≤ b') : ∀ vs : List Val, okVs b vs = true → okVs b' vs = true
  | [], _ => rfl
  | v :: vs, e => by
    simp only [okVs, Bool.and_eq_true] at e ⊢
    exact ⟨okV.mono h v e.1, okVs.mono h vs e.2⟩
end
theorem okVs.iff {b : Nat} : ∀ {vs : List Val}, okVs b vs = true ↔ ∀ v ∈ vs, okV b v = true
  | [] => by simp [okVs]
  | v :: vs => by simp [okVs, okVs.iff (vs := vs)]
theorem CellR.ok {G : Hp} {ι : Nat → Addr} {n : Nat} {c : Cell} {o : HO} : CellR L G ι n c o → okC n c = true
  | .lst r => r.ok
  | .dicK _ r => r.ok
  | .dicT _ r => r.ok
theorem Sm.bd (s : Sm L w) : Bd w.n w.h := fun i c _ e => let ⟨_, _, r⟩ := s.cell i c e; r.ok
mutual
theorem VR.lower {G : Hp} {ι : Nat → Addr} {n b : Nat} : ∀ {v : Val} {x : V}, VR L G ι n v x → okV b v = true → VR L G ι b v x
  | _, _, .d r, _ => .d r
  | _, _, .ref h, e => .ref (by simpa [okV] using e)
  | _, _, .tup h r, e => .tup h (r.lower (by simpa [okV] using e))
theorem VRL.lower {G : Hp} {ι : Nat → Addr} {n b : Nat} : ∀ {vs : List Val} {xs : List V}, VRL L G ι n vs xs → okVs b vs = true → VRL L G ι b vs xs
  | _, _, .nil, _ => .nil
  | _, _, .cons h r, e => by
    simp only [okVs, Bool.and_eq_true] at e
    exact .cons (h.lower e.1) (r.lower e.2)
end
theorem CellR.lower {G : Hp} {ι : Nat → Addr} {n b : Nat} {c : Cell} {o : HO} : CellR L G ι n c o → okC b c = true → CellR L G ι b c o
  | .lst r, e => .lst (r.lower e)
  | .dicK q r, e => .dicK q (r.lower e)
  | .dicT q r, e => .dicT q (r.lower e)
end
end Mi

set_option Elab.async false
set_option linter.all false
set_option maxRecDepth 100000
set_option maxHeartbeats 1000000
/-! Mini 4: readings, operators by values. -/
namespace Mi
open PySem L2

section
variable (L : Lk) (B : Nat)
/-- what a result promises: in every world that may come of it -/
def Po {α β : Type} (P : Wd → Wd → α → β → Prop) (w : Wd) (r : R α) (Q : β → Hp → Prop) : Prop := match r with
  | .ok a h' => ∀ (w' : Wd) (b : β), w'.h = h' → Nx L B w w' → P w w' a b → Q b w'.H
  | _ => False
def tR {α β : Type} (P : Wd → Wd → α → β → Prop) (c : Sl → Mo α) : St → Hp → (β → Hp → Prop) → Prop := fun σ H Q =>
  ∃ (w : Wd) (env : Sl), w.H = H ∧ Sm L w ∧ B ≤ w.n ∧ EnvR L w env σ ∧ Po L B P w (c env w.h) Q
def pRV : Wd → Wd → RV → V → Prop := fun w w' r y => RVR L w w' r y
def pV : Wd → Wd → Val → V → Prop := fun _ w' v y => wV L w' v y
def pVL : Wd → Wd → List Val → List V → Prop := fun _ w' v y => wVL L w' v y
def pB : Wd → Wd → Bool → Bool → Prop := fun _ _ a b => a = b
def pS : Wd → Wd → Sl → St → Prop := fun _ w' e σ => EnvR L w' e σ
/-- P speaks of the later world alone, or of what was new -/
def Shift {α β : Type} (P : Wd → Wd → α → β → Prop) : Prop := ∀ (w w1 w2 : Wd) (a : α) (b : β), Sm L w → Nx L B w w1 → P w1 w2 a b → P w w2 a b
end
section
variable {L : Lk} {B : Nat}
theorem shV : Shift L B (pV L) := fun _ _ _ _ _ _ _ h => h
theorem shVL : Shift L B (pVL L) := fun _ _ _ _ _ _ _ h => h
theorem shB : Shift L B pB := fun _ _ _ _ _ _ _ h => h
theorem shS : Shift L B (pS L) := fun _ _ _ _ _ _ _ h => h
theorem shRV : Shift L B (pRV L) := fun w w1 w2 a b s x h => by
  cases a with
  | v z => exact h
  | own c =>
    obtain ⟨p, o, e, h1, h2, h3, h4, h5⟩ := h
    exact ⟨p, o, e, h1, h2, h3, h4, x.none s h5⟩

variable {α β γ δ : Type} {P : Wd → Wd → α → β → Prop} {P' : Wd → Wd → γ → δ → Prop} {w w1 : Wd} {Q : δ → Hp → Prop}
theorem Po.bnd {c : Mo α} {f : α → Mo γ} {h : Hm} {R' : β → Hp → Prop} (po : Po L B P' w ((c.bnd f) h) Q)
    (k : ∀ (a : α) (w1 : Wd) (b : β), c h = .ok a w1.h → Nx L B w w1 → P w w1 a b → Po L B P' w (f a w1.h) Q → R' b w1.H) : Po L B P w (c h) R' := by
  unfold Mo.bnd at po
  cases e : c h with
  | ok a h1 =>
    rw [e] at po
    intro w1 b e1 nx pp
    subst e1
    exact k a w1 b e nx pp po
  | exc c fs h1 => rw [e] at po; exact po
  | bad => rw [e] at po; exact po
theorem Po.from {r : R γ} (sh : Shift L B P') (s : Sm L w) (nx : Nx L B w w1) (po : Po L B P' w r Q) : Po L B P' w1 r Q := by
  cases r with
  | ok a h1 => exact fun w2 b e nx2 pp => po w2 b e (nx.trans s nx2) (sh w w1 w2 a b s nx pp)
  | exc c fs h1 => exact po
  | bad => exact po
theorem Po.imp {r : R γ} {Q' : δ → Hp → Prop} (po : Po L B P' w r Q) (k : ∀ b H, Q b H → Q' b H) : Po L B P' w r Q' := by
  cases r with
  | ok a h1 => exact fun w2 b e nx2 pp => k _ _ (po w2 b e nx2 pp)
  | exc c fs h1 => exact po
  | bad => exact po
theorem Po.ok {a : γ} {b : δ} (po : Po L B P' w (.ok a w.h) Q) (s : Sm L w) (pp : P' w w a b) : Q b w.H := po w b rfl (Nx.refl s) pp
end

/-! ### rules by weaker readings -/
section
variable {X : Cx} {e : Expr}
theorem pe_imp {t t' : TE} (h : PE X e t) (k : ∀ σ H Q, t' σ H Q → t σ H Q) : PE X e t' := ⟨fun pins s σ H Q I q => h.run pins s σ H Q I (k _ _ _ q)⟩
theorem pw_imp {t t' : TT} (h : PW X e t) (k : ∀ σ H Q, t' σ H Q → t σ H Q) : PW X e t' := ⟨fun wh pins s σ H Q I q => h.run wh pins s σ H Q I (k _ _ _ q)⟩
theorem pa_imp {es : List Expr} {t t' : TA} (h : PA X es t) (k : ∀ σ H Q, t' σ H Q → t σ H Q) : PA X es t' := ⟨fun pos pins s σ H Q I q => h.run pos pins s σ H Q I (k _ _ _ q)⟩
theorem ps_imp {st : Stmt} {t t' : TS} (h : PS X st t) (k : ∀ D σ H, t' D σ H → t D σ H) : PS X st t' := ⟨fun pins s σ H D I q => h.run pins s σ H D I (k _ _ _ q)⟩
theorem pss_imp {st : List Stmt} {t t' : TS} (h : PSs X st t) (k : ∀ D σ H, t' D σ H → t D σ H) : PSs X st t' := ⟨fun pins s σ H D I q => h.run pins s σ H D I (k _ _ _ q)⟩
theorem pg_imp {t t' : TG} (h : PG X e t) (k : ∀ v σ H Q, t' v σ H Q → t v σ H Q) : PG X e t' := ⟨fun pins s σ H v u Q I r q => h.run pins s σ H v u Q I r (k _ _ _ _ q)⟩
theorem pgs_imp {es : List Expr} {t t' : TGs} (h : PGs X es t) (k : ∀ v σ H Q, t' v σ H Q → t v σ H Q) : PGs X es t' := ⟨fun pins s σ H v u Q I r q => h.run pins s σ H v u Q I r (k _ _ _ _ q)⟩
end

/-! ### a datum as it is read now: a list may be a place -/
inductive Flr (L : Lk) (w : Wd) : V → D → Prop
  | rep {x : V} {d : D} : Rep L w.G x d → Flr L w x d
  | lst {a : Addr} {xs : List V} {ds : List D} : w.H a = some (.lst xs) → RepL L w.G xs ds → Flr L w (.ref a) (.lst ds)
section
variable {L : Lk} {B : Nat} {w w1 : Wd}
theorem flat_r {v : Val} {x : V} {d : D} (s : Sm L w) (r : wV L w v x) (e : flat w.h v = some d) : Flr L w x d := by
  cases r with
  | d h => cases e; exact .rep h
  | tup h r => cases e
  | @ref i hi =>
    unfold flat at e
    dsimp only at e
    obtain ⟨c, hc⟩ : ∃ c, w.h[i]? = some c := ⟨_, List.getElem?_eq_getElem hi⟩
    rw [hc] at e
    obtain ⟨o, ho, rc⟩ := s.cell i c hc
    cases rc with
    | lst rl =>
      rename_i vs xs
      have e' : (allD vs).map D.lst = some d := e
      cases q : allD vs with
      | none => rw [q] at e'; cases e'
      | some ds => rw [q] at e'; cases e'; exact .lst ho (rl.allD q)
    | dicK _ _ => cases e
    | dicT _ _ => cases e
inductive FlrL (L : Lk) (w : Wd) : List V → List D → Prop
  | nil : FlrL L w [] []
  | cons {x : V} {d : D} {xs : List V} {ds : List D} : Flr L w x d → FlrL L w xs ds → FlrL L w (x :: xs) (d :: ds)
theorem flats_r (s : Sm L w) : ∀ {vs : List Val} {xs : List V} {ds : List D}, wVL L w vs xs → flats w.h vs = some ds → FlrL L w xs ds
  | [], _, ds, .nil, e => by cases e; exact .nil
  | v :: vs, _, ds, .cons h r, e => by
    unfold flats at e
    cases q : flat w.h v with
    | none => rw [q] at e; cases e
    | some d =>
      cases q2 : flats w.h vs with
      | none => rw [q, q2] at e; cases e
      | some es =>
        rw [q, q2] at e; cases e
        exact .cons (flat_r s h q) (flats_r s r q2)
theorem Flr.lstH (s : Sm L w) {x : V} {ds : List D} (f : Flr L w x (.lst ds)) : ∃ a xs, x = .ref a ∧ w.H a = some (.lst xs) ∧ RepL L w.G xs ds := by
  cases f with
  | rep h => cases h with | lst h r => exact ⟨_, _, rfl, s.le _ _ h, r⟩
  | lst h r => exact ⟨_, _, rfl, h, r⟩
theorem Flr.int {x : V} {i : Int} (f : Flr L w x (.int i)) : x = .int i := by cases f with | rep h => cases h; rfl
theorem Flr.str {x : V} {i : Str} (f : Flr L w x (.str i)) : x = .str i := by cases f with | rep h => cases h; rfl
theorem Flr.bl {x : V} {i : Bool} (f : Flr L w x (.bl i)) : x = .bl i := by cases f with | rep h => cases h; rfl
theorem Flr.non {x : V} (f : Flr L w x .non) : x = .non := by cases f with | rep h => cases h; rfl
theorem Flr.tup (s : Sm L w) {x : V} {ds : List D} (f : Flr L w x (.tup ds)) : ∃ a xs, x = .ref a ∧ SqT L.K w.G a xs ∧ RepL L w.G xs ds := by
  cases f with
  | rep h => cases h with | tup h r => exact ⟨_, _, rfl, h, r⟩
theorem Flr.scr (s : Sm L w) {x : V} {ns : List Int} (f : Flr L w x (.scr ns)) : ∃ a, x = .ref a ∧ SqL L.K w.H a (ns.map V.int) := by
  cases f with
  | rep h => cases h with | scr h => exact ⟨_, rfl, sqL_mono s.le h⟩
mutual
theorem rep_dp {K : PySem.W.Frag} {G : Hp} (hK : L.K = K) : ∀ {d : D} {x : V} {p : PyData}, Rep L G x d → d.py = some p → Dp K G x p
  | .non, _, p, .non, e => by cases e; exact .non
  | .bl b, _, p, .bl _, e => by cases e; exact .bl b
  | .int b, _, p, .int _, e => by cases e; exact .int b
  | .str b, _, p, .str _, e => by cases e; exact .str b
  | .tup ds, _, p, .tup h r, e => by
    have e' : (D.pys ds).map PyData.tuple = some p := by simpa [D.py] using e
    cases q : D.pys ds with
    | none => rw [q] at e'; cases e'
    | some ps => rw [q] at e'; cases e'; exact .tup (hK ▸ h) (rep_dps hK r q)
  | .lst ds, _, p, .lst h r, e => by
    have e' : (D.pys ds).map PyData.list = some p := by simpa [D.py] using e
    cases q : D.pys ds with
    | none => rw [q] at e'; cases e'
    | some ps => rw [q] at e'; cases e'; exact .lst (SqL.of h) (rep_dps hK r q)
  | .dicK kvs, _, p, h, e => by simp [D.py] at e
  | .dicT kvs, _, p, h, e => by simp [D.py] at e
  | .exc c, _, p, h, e => by simp [D.py] at e
  | .obj c kvs, _, p, h, e => by simp [D.py] at e
  | .ty c, _, p, h, e => by simp [D.py] at e
  | .cls c, _, p, h, e => by simp [D.py] at e
  | .fn c, _, p, h, e => by simp [D.py] at e
  | .scr c, _, p, h, e => by simp [D.py] at e
theorem rep_dps {K : PySem.W.Frag} {G : Hp} (hK : L.K = K) : ∀ {ds : List D} {xs : List V} {ps : List PyData}, RepL L G xs ds → D.pys ds = some ps → DpAll K G xs ps
  | [], _, ps, .nil, e => by
    have e' : some ([] : List PyData) = some ps := by simpa [D.pys] using e
    cases e'; exact .nil
  | d :: ds, _, ps, .cons h r, e => by
    unfold D.pys at e
    cases q : d.py with
    | none => rw [q] at e; cases e
    | some y =>
      cases q2 : D.pys ds with
      | none => rw [q, q2] at e; cases e
      | some ys => rw [q, q2] at e; cases e; exact .cons (rep_dp hK h q) (rep_dps hK r q2)
end
mutual
theorem dp_mono {K : PySem.W.Frag} {G H : Hp} (g : ∀ a o, G a = some o → H a = some o) : ∀ {x : V} {d : PyData}, Dp K G x d → Dp K H x d
  | _, _, .non => .non
  | _, _, .bl b => .bl b
  | _, _, .int b => .int b
  | _, _, .str b => .str b
  | _, _, .lst h r => .lst (sqL_mono g h) (dps_mono g r)
  | _, _, .tup h r => .tup (sqT_mono g h) (dps_mono g r)
theorem dps_mono {K : PySem.W.Frag} {G H : Hp} (g : ∀ a o, G a = some o → H a = some o) : ∀ {x : List V} {d : List PyData}, DpAll K G x d → DpAll K H x d
  | _, _, .nil => .nil
  | _, _, .cons h r => .cons (dp_mono g h) (dps_mono g r)
end
theorem Flr.dp {K : PySem.W.Frag} (hK : L.K = K) (s : Sm L w) {x : V} {d : D} {p : PyData} (f : Flr L w x d) (e : d.py = some p) : Dp K w.H x p := by
  cases f with
  | rep h => exact dp_mono s.le (rep_dp hK h e)
  | lst h r =>
    rename_i a xs ds
    have e' : (D.pys ds).map PyData.list = some p := by simpa [D.py] using e
    cases q : D.pys ds with
    | none => rw [q] at e'; cases e'
    | some ps => rw [q] at e'; cases e'; exact .lst (SqL.of h) (dps_mono s.le (rep_dps hK r q))
/-- a new list of data, one's own -/
theorem own_new (s : Sm L w) {p : Addr} {xs : List V} {ds : List D} (h : w.H p = none) (r : RepL L w.G xs ds) : Nx L B w ⟨w.G, w.i, w.h, upd w.H p (.lst xs)⟩ ∧ RVR L w ⟨w.G, w.i, w.h, upd w.H p (.lst xs)⟩ (.own (.lst (ds.map .d))) (.ref p) :=
  ⟨Nx.laid s h, p, .lst xs, rfl, upd_same, .lst (VRL.ofRep r), s.gnone h, s.ne h, h⟩
theorem own_newV (s : Sm L w) {p : Addr} {xs : List V} {vs : List Val} (h : w.H p = none) (r : wVL L w vs xs) : Nx L B w ⟨w.G, w.i, w.h, upd w.H p (.lst xs)⟩ ∧ RVR L w ⟨w.G, w.i, w.h, upd w.H p (.lst xs)⟩ (.own (.lst vs)) (.ref p) :=
  ⟨Nx.laid s h, p, .lst xs, rfl, upd_same, .lst r, s.gnone h, s.ne h, h⟩
end
theorem line_eq : sizeLine = lineN := sizeLine_eq

/-! ### operators -/
def Ari.op : Ari → Operator
  | .add => .Add | .sub => .Sub | .mul => .Mult | .fdiv => .FloorDiv | .mod => .Mod | .pow => .Pow
def Cmp.op : Cmp → CmpOp
  | .eq => .Eq | .ne => .NotEq | .lt => .Lt | .le => .LtE | .gt => .Gt | .ge => .GtE | .isx => .Is | .isnot => .IsNot | .inx => .In | .notin => .NotIn
section
variable {L : Lk} {B : Nat} {X : Cx}
/-- a two-place operation on data -/
def rD2 (L : Lk) (B : Nat) (g : D → D → Option RV) : R2 := fun x y H Q => ∃ (w : Wd) (a b : D) (r : RV), w.H = H ∧ Sm L w ∧ Flr L w x a ∧ Flr L w y b ∧ g a b = some r ∧ Po L B (pRV L) w (.ok r w.h) Q
theorem dOk {w : Wd} {d : D} {x : V} {Q : VK} (po : Po L B (pRV L) w (.ok (.v (.d d)) w.h) Q) (s : Sm L w) (r : Rep L w.G x d) : Q x w.H := po w x rfl (Nx.refl s) (VR.d r)
theorem ownOk {w : Wd} {ds : List D} {xs : List V} {p : Addr} {Q : VK} (po : Po L B (pRV L) w (.ok (.own (.lst (ds.map .d))) w.h) Q) (s : Sm L w) (hp : w.H p = none) (r : RepL L w.G xs ds) : Q (.ref p) (upd w.H p (.lst xs)) :=
  let ⟨nx, rr⟩ := own_new (B := B) s hp r
  po ⟨w.G, w.i, w.h, upd w.H p (.lst xs)⟩ _ rfl nx rr
theorem ownOkV {w : Wd} {vs : List Val} {xs : List V} {p : Addr} {Q : VK} (po : Po L B (pRV L) w (.ok (.own (.lst vs)) w.h) Q) (s : Sm L w) (hp : w.H p = none) (r : wVL L w vs xs) : Q (.ref p) (upd w.H p (.lst xs)) :=
  let ⟨nx, rr⟩ := own_newV (B := B) s hp r
  po ⟨w.G, w.i, w.h, upd w.H p (.lst xs)⟩ _ rfl nx rr
theorem small64_ok {i : Int} (h : small64 i = true) : -(2 ^ 64) < i ∧ i < 2 ^ 64 := by
  unfold small64 at h
  simp only [Bool.and_eq_true, decide_eq_true_eq] at h
  exact ⟨by have := h.1; omega, by have := h.2; omega⟩
theorem op_ariD (o : Ari) : OpR X (binaryOp o.op) (rD2 L B (ariD o)) := by
  intro pins s σ H x y v u Q I rx ry h
  obtain ⟨w, a, b, r, rfl, sm, fa, fb, e, po⟩ := h
  have int2 : ∀ i j : Int, a = .int i → b = .int j → x = .int i ∧ y = .int j := fun i j e1 e2 => by subst e1; subst e2; exact ⟨fa.int, fb.int⟩
  unfold ariD at e
  split at e
  · cases e; obtain ⟨rfl, rfl⟩ := int2 _ _ rfl rfl
    exact op_add pins s σ _ _ _ v u Q I rx ry ⟨_, _, rfl, rfl, dOk po sm (.int _)⟩
  · cases e; obtain ⟨rfl, rfl⟩ := int2 _ _ rfl rfl
    exact op_sub pins s σ _ _ _ v u Q I rx ry ⟨_, _, rfl, rfl, dOk po sm (.int _)⟩
  · split at e
    · rename_i c; cases e; obtain ⟨rfl, rfl⟩ := int2 _ _ rfl rfl
      refine op_mul pins s σ _ _ _ v u Q I rx ry ⟨_, _, rfl, rfl, ?_, dOk po sm (.int _)⟩
      rcases Bool.or_eq_true _ _ ▸ c with c | c
      · exact .inl (small64_ok c)
      · exact .inr (small64_ok c)
    · cases e
  · split at e
    · rename_i c; cases e; obtain ⟨rfl, rfl⟩ := int2 _ _ rfl rfl
      exact op_fdiv pins s σ _ _ _ v u Q I rx ry ⟨_, _, rfl, rfl, c, dOk po sm (.int _)⟩
    · cases e
  · split at e
    · rename_i c; cases e; obtain ⟨rfl, rfl⟩ := int2 _ _ rfl rfl
      exact op_mod pins s σ _ _ _ v u Q I rx ry ⟨_, _, rfl, rfl, c, dOk po sm (.int _)⟩
    · cases e
  · split at e
    · rename_i c; cases e; obtain ⟨rfl, rfl⟩ := int2 _ _ rfl rfl
      exact op_pow pins s σ _ _ _ v u Q I rx ry ⟨_, _, rfl, rfl, c, dOk po sm (.int _)⟩
    · cases e
  · split at e
    · rename_i c; cases e
      cases fa.str; cases fb.str
      exact op_add_str pins s σ _ _ _ v u Q I rx ry ⟨_, _, rfl, rfl, by rw [line_eq]; exact c, dOk po sm (.str _)⟩
    · cases e
  · split at e
    · rename_i c; cases e
      obtain ⟨l, xs, rfl, hl, r1⟩ := fa.lstH sm
      obtain ⟨l2, ys, rfl, hl2, r2⟩ := fb.lstH sm
      refine op_cat pins s σ _ _ _ v u Q I rx ry ⟨l, l2, xs, ys, rfl, rfl, hl, hl2, by rw [line_eq, r1.length, r2.length]; exact c, fun p hp => ?_⟩
      exact ownOk po sm hp (r1.append r2)
    · cases e
  · split at e
    · rename_i ds k c; cases e
      obtain ⟨l, xs, rfl, hl, r1⟩ := fa.lstH sm
      cases fb.int
      refine op_rep pins s σ _ _ _ v u Q I rx ry ⟨l, k, xs, rfl, rfl, hl, by have := c.1; omega, by have := c.2.1; omega, by rw [line_eq, r1.length]; exact c.2.2, fun p hp => ?_⟩
      have rr : ∀ n, RepL L w.G (List.replicate n xs).flatten (List.replicate n ds).flatten := fun n => by
        induction n with
        | zero => exact .nil
        | succ n ih => rw [List.replicate_succ, List.replicate_succ, List.flatten_cons, List.flatten_cons]; exact r1.append ih
      exact ownOk po sm hp (rr k.toNat)
    · cases e
  · cases e

/-- a comparison of data -/
def rC2 (L : Lk) (B : Nat) (g : D → D → Option Bool) : R2 := fun x y H Q => ∃ (w : Wd) (a b : D) (r : Bool), w.H = H ∧ Sm L w ∧ Flr L w x a ∧ Flr L w y b ∧ g a b = some r ∧ Q (.bl r) w.H
theorem eqD_ok (hK : L.K = X.K) (hu : X.A.units + 64 < cLine) : OpR X (compareOp .Eq) (rC2 L B eqD) := by
  intro pins s σ H x y v u Q I rx ry h
  obtain ⟨w, a, b, r, rfl, sm, fa, fb, e, q⟩ := h
  have sc : ∀ (x' y' : V), x = x' → y = y' → scal x' y' = true → r = decide (x' = y') → wpAny (model X.prog X.w) X.A (compareOp .Eq v u) (EP X pins σ Q) X.xe s := by
    rintro x' y' rfl rfl h1 rfl
    exact op_eq pins s σ _ _ _ v u Q I rx ry ⟨h1, q⟩
  unfold eqD at e
  split at e
  case h_1 => cases e; exact sc _ _ fa.int fb.int rfl (by simp)
  case h_2 => cases e; exact sc _ _ fa.str fb.str rfl (by simp)
  case h_3 => cases e; exact sc _ _ fa.bl fb.bl rfl (by simp)
  case h_4 => cases e; exact sc _ _ fa.non fb.non rfl (by simp)
  case h_5 => cases e; exact sc _ _ fa.non fb.int rfl (by simp)
  case h_6 => cases e; exact sc _ _ fa.non fb.str rfl (by simp)
  case h_7 => cases e; exact sc _ _ fa.non fb.bl rfl (by simp)
  case h_8 => cases e; exact sc _ _ fa.int fb.non rfl (by simp)
  case h_9 => cases e; exact sc _ _ fa.str fb.non rfl (by simp)
  case h_10 => cases e; exact sc _ _ fa.bl fb.non rfl (by simp)
  case h_11 => cases e; exact sc _ _ fa.int fb.str rfl (by simp)
  case h_12 => cases e; exact sc _ _ fa.str fb.int rfl (by simp)
  case h_13 =>
    split at e
    · rename_i p1 p2 e1 e2
      split at e
      · rename_i c
        cases e
        rw [Bool.and_eq_true] at c
        exact op_eqD hu pins s σ _ _ _ v u Q I rx ry ⟨_, _, fa.dp hK sm e1, fb.dp hK sm e2, c.1, c.2, q⟩
      · cases e
    · cases e
theorem neD_ok (hK : L.K = X.K) (hu : X.A.units + 64 < cLine) : OpR X (compareOp .NotEq) (rC2 L B fun a b => (eqD a b).map (! ·)) := by
  intro pins s σ H x y v u Q I rx ry h
  obtain ⟨w, a, b, r, rfl, sm, fa, fb, e, q⟩ := h
  have sc : ∀ (x' y' : V), x = x' → y = y' → scal x' y' = true → r = !decide (x' = y') → wpAny (model X.prog X.w) X.A (compareOp .NotEq v u) (EP X pins σ Q) X.xe s := by
    rintro x' y' rfl rfl h1 rfl
    exact op_ne pins s σ _ _ _ v u Q I rx ry ⟨h1, q⟩
  dsimp only at e
  cases e0 : eqD a b with
  | none => rw [e0] at e; cases e
  | some k =>
  rw [e0] at e
  cases e
  unfold eqD at e0
  split at e0
  case h_1 => cases e0; exact sc _ _ fa.int fb.int rfl (by simp)
  case h_2 => cases e0; exact sc _ _ fa.str fb.str rfl (by simp)
  case h_3 => cases e0; exact sc _ _ fa.bl fb.bl rfl (by simp)
  case h_4 => cases e0; exact sc _ _ fa.non fb.non rfl (by simp)
  case h_5 => cases e0; exact sc _ _ fa.non fb.int rfl (by simp)
  case h_6 => cases e0; exact sc _ _ fa.non fb.str rfl (by simp)
  case h_7 => cases e0; exact sc _ _ fa.non fb.bl rfl (by simp)
  case h_8 => cases e0; exact sc _ _ fa.int fb.non rfl (by simp)
  case h_9 => cases e0; exact sc _ _ fa.str fb.non rfl (by simp)
  case h_10 => cases e0; exact sc _ _ fa.bl fb.non rfl (by simp)
  case h_11 => cases e0; exact sc _ _ fa.int fb.str rfl (by simp)
  case h_12 => cases e0; exact sc _ _ fa.str fb.int rfl (by simp)
  case h_13 =>
    split at e0
    · rename_i p1 p2 e1 e2
      split at e0
      · rename_i c
        cases e0
        rw [Bool.and_eq_true] at c
        exact op_neD hu pins s σ _ _ _ v u Q I rx ry ⟨_, _, fa.dp hK sm e1, fb.dp hK sm e2, c.1, c.2, q⟩
      · cases e0
    · cases e0
theorem op_cmpD (hK : L.K = X.K) (hu : X.A.units + 64 < cLine) (o : Cmp) : OpR X (compareOp o.op) (rC2 L B (cmpD o)) := by
  cases o with
  | eq => exact eqD_ok (B := B) hK hu
  | ne => exact neD_ok (B := B) hK hu
  | lt =>
    intro pins s σ H x y v u Q I rx ry h
    obtain ⟨w, a, b, r, rfl, sm, fa, fb, e, q⟩ := h
    simp only [cmpD] at e
    split at e
    · cases e; cases fa.int; cases fb.int
      exact op_lt pins s σ _ _ _ v u Q I rx ry ⟨_, _, rfl, rfl, q⟩
    · cases e
  | le =>
    intro pins s σ H x y v u Q I rx ry h
    obtain ⟨w, a, b, r, rfl, sm, fa, fb, e, q⟩ := h
    simp only [cmpD] at e
    split at e
    · cases e; cases fa.int; cases fb.int
      exact op_le pins s σ _ _ _ v u Q I rx ry ⟨_, _, rfl, rfl, q⟩
    · cases e
  | gt =>
    intro pins s σ H x y v u Q I rx ry h
    obtain ⟨w, a, b, r, rfl, sm, fa, fb, e, q⟩ := h
    simp only [cmpD] at e
    split at e
    · cases e; cases fa.int; cases fb.int
      exact op_gt pins s σ _ _ _ v u Q I rx ry ⟨_, _, rfl, rfl, q⟩
    · cases e
  | ge =>
    intro pins s σ H x y v u Q I rx ry h
    obtain ⟨w, a, b, r, rfl, sm, fa, fb, e, q⟩ := h
    simp only [cmpD] at e
    split at e
    · cases e; cases fa.int; cases fb.int
      exact op_ge pins s σ _ _ _ v u Q I rx ry ⟨_, _, rfl, rfl, q⟩
    · cases e
  | isx =>
    intro pins s σ H x y v u Q I rx ry h
    obtain ⟨w, a, b, r, rfl, sm, fa, fb, e, q⟩ := h
    simp only [cmpD] at e
    split at e
    · cases e; cases fb.non
      refine op_isN pins s σ _ _ _ v u Q I rx ry ⟨rfl, ?_⟩
      cases fa with
      | rep h => cases h <;> simpa using q
      | lst h r => simpa using q
    · cases e
  | isnot =>
    intro pins s σ H x y v u Q I rx ry h
    obtain ⟨w, a, b, r, rfl, sm, fa, fb, e, q⟩ := h
    simp only [cmpD] at e
    split at e
    · cases e; cases fb.non
      refine op_notN pins s σ _ _ _ v u Q I rx ry ⟨rfl, ?_⟩
      cases fa with
      | rep h => cases h <;> simpa using q
      | lst h r => simpa using q
    · cases e
  | inx =>
    intro pins s σ H x y v u Q I rx ry h
    obtain ⟨w, a, b, r, rfl, sm, fa, fb, e, q⟩ := h
    simp only [cmpD, inD] at e
    split at e
    · rename_i z1 z2
      split at e
      · rename_i c ec
        cases e; cases fa.str; cases fb.str
        have ez : z1 = ⟨#[c]⟩ := by
          obtain ⟨cs⟩ := z1
          simp only at ec
          congr 1
          exact Array.toList_inj.mp ec
        subst ez
        exact op_in_sign pins s σ _ _ _ v u Q I rx ry ⟨c, z2, rfl, rfl, q⟩
      · cases e
    · cases e
  | notin =>
    intro pins s σ H x y v u Q I rx ry h
    obtain ⟨w, a, b, r, rfl, sm, fa, fb, e, q⟩ := h
    simp only [cmpD, inD] at e
    split at e
    · rename_i z1 z2
      split at e
      · rename_i c ec
        cases e; cases fa.str; cases fb.str
        have ez : z1 = ⟨#[c]⟩ := by
          obtain ⟨cs⟩ := z1
          simp only at ec
          congr 1
          exact Array.toList_inj.mp ec
        subst ez
        exact op_notIn_sign pins s σ _ _ _ v u Q I rx ry ⟨c, z2, rfl, rfl, q⟩
      · cases e
    · cases e
/-- truth -/
theorem tru_r {w : Wd} (s : Sm L w) {v : Val} {x : V} {b : Bool} (r : wV L w v x) (e : truV w.h v = some b) : TruV L.K x w.H b := by
  cases r with
  | tup h r =>
    cases e
    rename_i a xs vs
    exact .inr (.inl ⟨_, sqT_mono s.le h, by have := r.length; cases vs <;> cases xs <;> simp_all⟩)
  | @ref i hi =>
    obtain ⟨c, hc⟩ : ∃ c, w.h[i]? = some c := ⟨_, List.getElem?_eq_getElem hi⟩
    obtain ⟨o, ho, rc⟩ := s.cell i c hc
    unfold truV at e
    dsimp only at e
    rw [hc] at e
    cases rc with
    | lst rl =>
      rename_i vs xs
      have e' : some (!vs.isEmpty) = some b := e
      cases e'
      exact .inl ⟨_, SqL.of ho, by have := rl.length; cases vs <;> cases xs <;> simp_all⟩
    | dicK _ _ => cases e
    | dicT _ _ => cases e
  | d h =>
    cases h with
    | non => cases e; rfl
    | bl k => cases e; rfl
    | int i => cases e; rfl
    | str z =>
      unfold truV at e
      simp only at e
      split at e
      · rename_i c; cases e; exact ⟨by rw [line_eq]; exact c, rfl⟩
      · cases e
    | tup h r =>
      cases e
      rename_i a xs ds
      exact .inr (.inl ⟨_, sqT_mono s.le h, by have := r.length; cases ds <;> cases xs <;> simp_all⟩)
    | lst h r =>
      cases e
      rename_i a xs ds
      exact .inl ⟨_, SqL.of (s.le _ _ h), by have := r.length; cases ds <;> cases xs <;> simp_all⟩
    | ty n => cases e
    | cls h => cases e
    | dicK _ _ _ => cases e
    | dicT _ _ _ => cases e
    | exc _ _ _ => cases e
    | scr h =>
      cases e
      rename_i a ns
      exact .inl ⟨_, sqL_mono s.le h, by cases ns <;> simp⟩
end
end Mi

set_option Elab.async false
set_option linter.all false
set_option maxRecDepth 100000
set_option maxHeartbeats 2000000
/-! Mini 5: the text matches the syntax; built-ins, methods, subscripts, walks, targets by values. -/
namespace Mi
open PySem L2

/-! ### the text and the syntax -/
abbrev S (x : String) : Str := Str.ofString x
def visB (sc : Scope) (x : Str) : Bool := match sc.names.lookup x with
  | some .local => true | some .cell => true | some .free => true | _ => false
def locB (sc : Scope) (x : Str) : Bool := match sc.names.lookup x with
  | some .local => true | some .cell => true | _ => false
def glB (sc : Scope) (x : Str) : Bool := match sc.names.lookup x with
  | some .globalImplicit => true | _ => false
def plainB (x : Str) : Bool := !(x == ("__debug__" : Str)) && !(x == ("__classdict__" : Str)) && !(x == ("__name__" : Str))
def noStar : Expr → Bool
  | .Starred _ _ => false
  | _ => true
def noSuper : Expr → Bool
  | .Call _ [] [] _ => false
  | _ => true
def noSlice : Expr → Bool
  | .Slice _ _ _ _ => false
  | _ => true
def noSet : Expr → Bool
  | .Set _ _ _ => false
  | _ => true
def noComp : Expr → Bool
  | .ListComp _ _ _ _ => false | .SetComp _ _ _ _ => false | .DictComp _ _ _ _ _ => false | _ => true
mutual
def MT.slots : MT → List Nat
  | .name i => [i]
  | .tup ts => MTs.slots ts
  | .sub _ _ => []
  | .att _ _ => []
def MTs.slots : MTs → List Nat
  | .nil => []
  | .cons t r => MT.slots t ++ MTs.slots r
end
/-- which names are read, which stored -/
structure Sco where
  v : Scope
  s : Scope
section
variable (N : List Str)
mutual
def mE : Sco → ME → Expr → Bool
  | sc, .var i, .Name x _ => decide (N[i]? = some x) && visB sc.v x && plainB x
  | _, .non, .Constant .none _ _ => true
  | _, .bl b, .Constant (.bool c) _ _ => decide (b = c)
  | _, .int i, .Constant (.int j) _ _ => decide (i = j)
  | _, .str s, .Constant (.str t) _ _ => decide (s = t)
  | sc, .glob g, .Name x _ => decide (x = S g) && glB sc.v x && plainB x
  | sc, .ari o a b, .BinOp l op r _ => decide (o.op = op) && mE sc a l && mE sc b r
  | sc, .neg a, .UnaryOp .USub x _ => mE sc a x
  | sc, .not a, .UnaryOp .Not x _ => mE sc a x
  | sc, .and a b, .BoolOp .And (x :: y :: rest) pos => mE sc a x && (match rest with
    | [] => mE sc b y
    | z :: r => mE sc b (.BoolOp .And (y :: z :: r) pos))
  | sc, .or a b, .BoolOp .Or (x :: y :: rest) pos => mE sc a x && (match rest with
    | [] => mE sc b y
    | z :: r => mE sc b (.BoolOp .Or (y :: z :: r) pos))
  | sc, .cmp o a b, .Compare l [op] [r] _ => decide (o.op = op) && noSet r && mE sc a l && mE sc b r
  | sc, .cmp2 o o2 a b c, .Compare l [op, op2] [r, t] _ => decide (o.op = op) && decide (o2.op = op2) && noSet r && noSet t && mE sc a l && mE sc b r && mE sc c t
  | sc, .ife c a b, .IfExp t x y _ => mE sc c t && mE sc a x && mE sc b y
  | sc, .call f as, .Call (.Name x _) es [] _ => decide (x = S f) && glB sc.v x && plainB x && mEs sc as es
  | sc, .new f as, .Call (.Name x _) es [] _ => decide (x = S f) && glB sc.v x && plainB x && mEs sc as es
  | sc, .bif f as, .Call (.Name x _) es [] _ => decide (x = S f) && glB sc.v x && plainB x && mEs sc as es
  | sc, .met o m as, .Call (.Attribute oe n apos) es [] cpos => decide (n = S m) && decide (apos.endLine = cpos.line) && noSuper oe && decide (es.length < 30) && mE sc o oe && mEs sc as es
  | sc, .sub o i, .Subscript oe ie _ => noSlice ie && mE sc o oe && mE sc i ie
  | sc, .sl o lo hi, .Subscript oe (.Slice le he none _) _ => mE sc o oe && mP sc lo le && mP sc hi he
  | sc, .dic ps, .Dict ks vs _ => mKs sc ps ks vs && decide (ks.length ≤ 15) && !ks.isEmpty
  | _, .dnew _, .Dict [] [] _ => true
  | sc, .tup es, .Tuple xs _ _ => mEs sc es xs
  | sc, .lst es, .List xs _ => mEs sc es xs
  | sc, .lc elt tg it ifs own, .ListComp x [⟨t, i, cs, 0⟩] scope _ =>
    blkC N sc.v scope (own.map fun p => (S p.1, p.2)) && (MT.slots tg).all (fun j => decide (j ∈ own.map Prod.snd)) && mI sc it i && noSet i && mT ⟨relS scope sc.v, scope⟩ tg t && mO ⟨relS scope sc.v, scope⟩ ifs cs && mE ⟨relS scope sc.v, scope⟩ elt x
  | _, _, _ => false
def mEs : Sco → MEs → List Expr → Bool
  | _, .nil, [] => true
  | sc, .cons a r, e :: es => noStar e && mE sc a e && mEs sc r es
  | _, _, _ => false
def mP : Sco → MO → Option Expr → Bool
  | _, .none, none => true
  | sc, .some a, some e => mE sc a e
  | _, _, _ => false
def mKs : Sco → MEs → List (Option Expr) → List Expr → Bool
  | _, .nil, [], [] => true
  | sc, .cons a (.cons b r), some k :: ks, v :: vs => mE sc a k && mE sc b v && mKs sc r ks vs
  | _, _, _, _ => false
def mO : Sco → MO → List Expr → Bool
  | _, .none, [] => true
  | sc, .some a, [e] => mE sc a e
  | _, _, _ => false
def mI : Sco → MI → Expr → Bool
  | sc, .val m, e => mE sc m e
  | sc, .range as, .Call (.Name x _) es [] _ => decide (x = S "range") && glB sc.v x && mEs sc as es
  | _, _, _ => false
def mT : Sco → MT → Expr → Bool
  | sc, .name i, .Name x _ => decide (N[i]? = some x) && locB sc.v x && locB sc.s x
  | sc, .tup ts, .Tuple es _ _ => mTs sc ts es
  | sc, .sub o i, .Subscript oe ie _ => noSlice ie && mE sc o oe && mE sc i ie
  | _, _, _ => false
def mTs : Sco → MTs → List Expr → Bool
  | _, .nil, [] => true
  | sc, .cons t r, e :: es => noStar e && mT sc t e && mTs sc r es
  | _, _, _ => false
end
/-- no tuple display is unpacked -/
def tupB : Expr → Expr → Bool
  | .Tuple _ _ _, .Tuple _ _ _ => false
  | .List _ _, .Tuple _ _ _ => false
  | _, _ => true
/-- a comprehension put straight into a local name -/
def lcB (v : Scope) : Expr → Expr → Bool
  | .Name y py, .ListComp _ _ scope cpos => (match v.kind with | .function => true | _ => false) && (match v.names.lookup y with | some .local => true | _ => false) && decide (py.line = cpos.line) && !(scope.names.any fun (n, k) => n == y && (k == .local || k == .cell))
  | _, _ => false
mutual
def mS : Sco → MS → Stmt → Bool
  | sc, .asg t _ e, .Assign [te] v _ => noStar te && mT N sc t te && mE N sc e v && (lcB sc.v te v || (noComp v && tupB te v))
  | sc, .expr e, .Expr v _ => noComp v && mE N sc e v
  | sc, .ret e, .Return (some v) _ => mE N sc e v
  | sc, .retN, .Return none _ => true
  | sc, .ite c a b, .If t x y _ => mE N sc c t && mSs sc a x && mSs sc b y
  | sc, .for t it b, .For te ie x [] _ => mT N sc t te && mI N sc it ie && noSet ie && mSs sc b x
  | sc, .while c b, .While t x [] _ => mE N sc c t && mSs sc b x
  | _, .pass, .Pass _ => true
  | _, .brk, .Break _ => true
  | _, .cnt, .Continue _ => true
  | _, .raise, .Raise _ _ _ => true
  | _, _, _ => false
def mSs : Sco → MSs → List Stmt → Bool
  | _, .nil, [] => true
  | sc, .cons a r, s :: ss => mS sc a s && mSs sc r ss
  | _, _, _ => false
end
end

/-! ### side conditions -/
theorem lam_super {o : Expr} (h : noSuper o = true) (a : Str) (env : Env) : attributeBase o a env (eval o env) = eval o env := by
  cases o with
  | Call f args kws pos =>
    cases args with
    | nil =>
      cases kws with
      | nil => cases h
      | cons k ks => cases f <;> rfl
    | cons x xs => cases f <;> rfl
  | _ => rfl
theorem slice_plain {i : Expr} (h : noSlice i = true) : PlainIx i := fun o k => by
  cases i <;> first | rfl | cases h
theorem set_plain {i : Expr} (h : noSet i = true) (env : Env) (x : Value) : foldedSetIterable i env x = pure x := by
  cases i <;> first | rfl | cases h
theorem set_mark {i : Expr} (h : noSet i = true) (op : CmpOp) : behindInMarks op i = false := by
  cases i <;> first | rfl | cases h
theorem star_each {e : Expr} {es : List Expr} {env : Env} (h : noStar e = true) : starEach (e :: es) env = (false, eval e env) :: starEach es env := by
  cases e <;> first | rfl | cases h
theorem star_asg {e : Expr} {es : List Expr} {env : Env} (h : noStar e = true) : assignEach (e :: es) env = (false, assign e env) :: assignEach es env := by
  cases e <;> first | rfl | cases h
theorem mEs_star {N : List Str} {sc : Sco} {env : Env} {pos : Pos} : ∀ {as : MEs} {es : List Expr}, mEs N sc as es = true → (backTo pos (starEach es env)).any (·.1) = false
  | .nil, [], _ => rfl
  | .cons a r, e :: es, h => by
    simp only [mEs, Bool.and_eq_true] at h
    rw [star_each h.1.1]
    show ((false, _) :: backTo pos (starEach es env)).any (·.1) = false
    rw [List.any_cons]
    exact mEs_star h.2
  | .nil, e :: es, h => by simp [mEs] at h
  | .cons a r, [], h => by simp [mEs] at h
theorem mEs_all {N : List Str} {sc : Sco} {env : Env} {pos : Pos} : ∀ {as : MEs} {es : List Expr}, mEs N sc as es = true → (backTo pos (starEach es env)).all (fun x => !x.1) = true
  | .nil, [], _ => rfl
  | .cons a r, e :: es, h => by
    simp only [mEs, Bool.and_eq_true] at h
    rw [star_each h.1.1]
    show ((false, _) :: backTo pos (starEach es env)).all (fun x => !x.1) = true
    rw [List.all_cons]
    simpa using mEs_all h.2
  | .nil, e :: es, h => by simp [mEs] at h
  | .cons a r, [], h => by simp [mEs] at h
theorem mEs_few {N : List Str} {sc : Sco} {env : Env} {pos : Pos} {as : MEs} {es : List Expr} (h : mEs N sc as es = true) (hl : es.length < 30) :
    ((backTo pos (starEach es env)).all (fun x => !x.1) && (backToKw pos (keywordEach [] env)).all (fun x => x.1.isSome)
      && decide (es.length + ([] : List Keyword).length + (if ([] : List Keyword).isEmpty then 0 else 1) < 30)) = true := by
  rw [mEs_all h]
  simpa [backToKw, keywordEach] using hl
theorem vis_of {sc : Scope} {x : Str} (h : visB sc x = true) : Vis sc x := by
  unfold visB at h
  split at h
  · exact .inl (by assumption)
  · exact .inr (.inl (by assumption))
  · exact .inr (.inr (by assumption))
  · cases h
theorem loc_of {sc : Scope} {x : Str} (h : locB sc x = true) : Loc sc x := by
  unfold locB at h
  split at h
  · exact .inl (by assumption)
  · exact .inr (by assumption)
  · cases h
theorem gl_of {sc : Scope} {x : Str} (h : glB sc x = true) : sc.names.lookup x = some .globalImplicit := by
  unfold glB at h
  split at h
  · assumption
  · cases h
theorem plain_of {x : Str} (h : plainB x = true) : (x == ("__debug__" : Str)) = false ∧ (x == ("__classdict__" : Str)) = false ∧ x ≠ ("__name__" : Str) := by
  unfold plainB at h
  simp only [Bool.and_eq_true, Bool.not_eq_true'] at h
  exact ⟨h.1.1, h.1.2, fun e => by have := h.2; rw [e] at this; simp at this⟩

/-! ### built-ins -/
def biV (f : String) : Value := .builtin f
def bis : List String := ["len", "max", "min", "all", "any", "isinstance", "repr"]
theorem boot_bif {f : String} (h : f ∈ bis) : bootBuiltins (S f) = some (.builtin f) := by
  simp only [bis, List.mem_cons, List.not_mem_nil, or_false] at h
  rcases h with rfl | rfl | rfl | rfl | rfl | rfl | rfl
  · exact PySem.boot_len
  · decide +kernel
  · decide +kernel
  · decide +kernel
  · decide +kernel
  · decide +kernel
  · decide +kernel
theorem subTy_ok {a b : String} {r : Bool} (h : subTy a b = some r) : L2.kitB a b = some r := by
  unfold subTy at h
  split at h
  · rename_i c
    simp only [Bool.and_eq_true, List.contains_eq_mem, List.mem_cons, List.not_mem_nil, or_false, decide_eq_true_eq] at c
    obtain ⟨ca, cb⟩ := c
    cases h
    rcases ca with rfl | rfl | rfl | rfl | rfl | rfl | rfl <;> rcases cb with rfl | rfl | rfl | rfl | rfl | rfl <;> decide +kernel
  · cases h
section
variable {L : Lk} {B : Nat} {X : Cx} {T : Tb}
theorem tyX_of {w : Wd} (s : Sm L w) {x : V} {d : D} {t : String} (f : Flr L w x d) (hK : L.K = X.K) (e : tyD d = some t) : TyX X.K w.H x (.type t) := by
  cases f with
  | lst h r => cases e; exact .base (.lst h)
  | rep h =>
    cases h with
    | non => cases e; exact .base .non
    | bl b => cases e; exact .base (.bl b)
    | int b => cases e; exact .base (.int b)
    | str b => cases e; exact .base (.str b)
    | lst h r => cases e; exact .base (.lst (s.le _ _ h))
    | tup h r =>
      cases e
      rcases h with (h | ⟨o, h⟩) | ⟨o, its, n, h, hc, _⟩
      · exact .base (.tup (s.le _ _ h))
      · exact .fTuple (s.le _ _ h)
      · exact .kTuple (hK ▸ h) hc
    | ty n => cases e
    | cls h => cases e
    | scr h => cases e
    | dicK h _ _ => cases e; exact .base (.dK (s.le _ _ h))
    | dicT h _ _ => cases e; exact .base (.dT (s.le _ _ h))
    | exc _ _ _ => cases e
/-- what the text's classes are beneath -/
structure SubOk (T : Tb) (L : Lk) : Prop where
  ty : ∀ c t b, T.sub c t = some b → ∀ C, L.cl c = some C → ExcC L.K C ∧ PySem.W.kitOne L.K (.ref C) (.type t) = some b
  cls : ∀ c t b, T.subC c t = some b → ∀ C D, L.cl c = some C → L.cl t = some D → ExcC L.K C ∧ PySem.W.kitOne L.K (.ref C) (.ref D) = some b
def rBif (L : Lk) (B : Nat) (g : List D → Option D) : List V → Hp → VK → Prop := fun xs H Q => ∃ (w : Wd) (ds : List D) (d : D), w.H = H ∧ Sm L w ∧ FlrL L w xs ds ∧ g ds = some d ∧ Po L B (pRV L) w (.ok (.v (.d d)) w.h) Q
theorem blsD_r {w : Wd} {G : Hp} : ∀ {xs : List V} {ds : List D} {bs : List Bool}, RepL L G xs ds → blsD ds = some bs → xs = bs.map V.bl
  | _, [], bs, .nil, e => by cases e; rfl
  | _, .bl b :: ds, bs, .cons h r, e => by
    have e' : (blsD ds).map (b :: ·) = some bs := e
    cases q : blsD ds with
    | none => rw [q] at e'; cases e'
    | some cs => rw [q] at e'; cases e'; cases h; rw [blsD_r (w := w) r q]; rfl
  | _, .non :: _, _, .cons _ _, e => by cases e
  | _, .int _ :: _, _, .cons _ _, e => by cases e
  | _, .str _ :: _, _, .cons _ _, e => by cases e
  | _, .tup _ :: _, _, .cons _ _, e => by cases e
  | _, .lst _ :: _, _, .cons _ _, e => by cases e
  | _, .dicK _ :: _, _, .cons _ _, e => by cases e
  | _, .dicT _ :: _, _, .cons _ _, e => by cases e
  | _, .exc _ :: _, _, .cons _ _, e => by cases e
  | _, .obj _ _ :: _, _, .cons _ _, e => by cases e
  | _, .ty _ :: _, _, .cons _ _, e => by cases e
  | _, .cls _ :: _, _, .cons _ _, e => by cases e
  | _, .fn _ :: _, _, .cons _ _, e => by cases e
  | _, .scr _ :: _, _, .cons _ _, e => by cases e
theorem strsD_r {w : Wd} {G : Hp} : ∀ {xs : List V} {ds : List D} {bs : List Str}, RepL L G xs ds → strsD ds = some bs → xs = bs.map V.str
  | _, [], bs, .nil, e => by cases e; rfl
  | _, .str b :: ds, bs, .cons h r, e => by
    have e' : (strsD ds).map (b :: ·) = some bs := e
    cases q : strsD ds with
    | none => rw [q] at e'; cases e'
    | some cs => rw [q] at e'; cases e'; cases h; rw [strsD_r (w := w) r q]; rfl
  | _, .non :: _, _, .cons _ _, e => by cases e
  | _, .int _ :: _, _, .cons _ _, e => by cases e
  | _, .bl _ :: _, _, .cons _ _, e => by cases e
  | _, .tup _ :: _, _, .cons _ _, e => by cases e
  | _, .lst _ :: _, _, .cons _ _, e => by cases e
  | _, .dicK _ :: _, _, .cons _ _, e => by cases e
  | _, .dicT _ :: _, _, .cons _ _, e => by cases e
  | _, .exc _ :: _, _, .cons _ _, e => by cases e
  | _, .obj _ _ :: _, _, .cons _ _, e => by cases e
  | _, .ty _ :: _, _, .cons _ _, e => by cases e
  | _, .cls _ :: _, _, .cons _ _, e => by cases e
  | _, .fn _ :: _, _, .cons _ _, e => by cases e
  | _, .scr _ :: _, _, .cons _ _, e => by cases e
theorem fl1 {w : Wd} {xs : List V} {d : D} (h : FlrL L w xs [d]) : ∃ x, xs = [x] ∧ Flr L w x d := by
  cases h with | cons h r => cases r; exact ⟨_, rfl, h⟩
theorem fl2 {w : Wd} {xs : List V} {d e : D} (h : FlrL L w xs [d, e]) : ∃ x y, xs = [x, y] ∧ Flr L w x d ∧ Flr L w y e := by
  cases h with | cons h r => cases r with | cons h2 r => cases r; exact ⟨_, _, rfl, h, h2⟩
theorem bif_ok (hK : L.K = X.K) (hc : X.calm = true) (hsub : SubOk T L) (f : String) : CallR X (.builtin f) (rBif L B (bifD T f)) := by
  intro pins s σ H xs us Q I rv h
  obtain ⟨w, ds, d, rfl, sm, fl, e, po⟩ := h
  unfold bifD at e
  split at e
  · -- len str
    split at e
    · rename_i c; cases e
      obtain ⟨x, rfl, hx⟩ := fl1 fl
      cases hx.str
      exact call_len_str pins s σ _ _ us Q I rv ⟨_, rfl, by rw [line_eq]; exact c, dOk po sm (.int _)⟩
    · cases e
  · cases e
    obtain ⟨x, rfl, hx⟩ := fl1 fl
    obtain ⟨a, ys, rfl, ha, r⟩ := hx.lstH sm
    exact call_len_seq pins s σ _ _ us Q I rv ⟨_, _, rfl, .inl (SqL.of ha), by rw [r.length]; exact dOk po sm (.int _)⟩
  · cases e
    obtain ⟨x, rfl, hx⟩ := fl1 fl
    obtain ⟨a, ys, rfl, ha, r⟩ := hx.tup sm
    exact call_len_seq pins s σ _ _ us Q I rv ⟨_, _, rfl, .inr (hK ▸ sqT_mono sm.le ha), by rw [r.length]; exact dOk po sm (.int _)⟩
  · cases e
    obtain ⟨x, rfl, hx⟩ := fl1 fl
    obtain ⟨a, rfl, ha⟩ := hx.scr sm
    exact call_len_seq pins s σ _ _ us Q I rv ⟨_, _, rfl, .inl (hK ▸ ha), by rw [List.length_map]; exact dOk po sm (.int _)⟩
  · cases e
    obtain ⟨x, y, rfl, hx, hy⟩ := fl2 fl
    cases hx.int; cases hy.int
    exact call_max2 hc pins s σ _ _ us Q I rv ⟨_, _, rfl, dOk po sm (.int _)⟩
  · cases e
    obtain ⟨x, y, rfl, hx, hy⟩ := fl2 fl
    cases hx.int; cases hy.int
    exact call_min2 hc pins s σ _ _ us Q I rv ⟨_, _, rfl, dOk po sm (.int _)⟩
  · rename_i ds'
    obtain ⟨x, rfl, hx⟩ := fl1 fl
    obtain ⟨a, ys, rfl, ha, r⟩ := hx.lstH sm
    cases q : blsD ds' with
    | none => rw [q] at e; cases e
    | some bs =>
      rw [q] at e; cases e
      refine cr_all hc pins s σ _ _ us Q I rv ⟨a, bs, rfl, SqL.of ?_, dOk po sm (.bl _)⟩
      rw [← blsD_r (w := w) r q]; exact ha
  · rename_i ds'
    obtain ⟨x, rfl, hx⟩ := fl1 fl
    obtain ⟨a, ys, rfl, ha, r⟩ := hx.lstH sm
    cases q : blsD ds' with
    | none => rw [q] at e; cases e
    | some bs =>
      rw [q] at e; cases e
      refine cr_any hc pins s σ _ _ us Q I rv ⟨a, bs, rfl, SqL.of ?_, dOk po sm (.bl _)⟩
      rw [← blsD_r (w := w) r q]; exact ha
  · rename_i x c
    obtain ⟨x', y', rfl, hx, hy⟩ := fl2 fl
    cases q : isiD T x c with
    | none => rw [q] at e; cases e
    | some b =>
      rw [q] at e; cases e
      unfold isiD at q
      split at q
      · rename_i kk tt
        have hy' : y' = .ty tt := by cases hy with | rep h => cases h; rfl
        subst hy'
        cases hx with
        | rep h =>
        cases h with
        | exc h1 h2 h3 =>
        obtain ⟨C1, C2⟩ := hsub.ty _ _ _ q _ h1
        exact call_isX pins s σ _ _ us Q I rv ⟨_, _, _, _, _, _, b, rfl, .ty tt, sm.le _ _ h2, sm.le _ _ h3, hK ▸ C1, hK ▸ C2, dOk po sm (.bl _)⟩
      · cases hy with
        | rep hy =>
        cases hy with
        | cls hc =>
        cases hx with
        | rep h =>
        cases h with
        | exc h1 h2 h3 =>
        obtain ⟨C1, C2⟩ := hsub.cls _ _ _ q _ _ h1 hc
        exact call_isX pins s σ _ _ us Q I rv ⟨_, _, _, _, _, _, b, rfl, .own _, sm.le _ _ h2, sm.le _ _ h3, hK ▸ C1, hK ▸ C2, dOk po sm (.bl _)⟩
      · rename_i x t _
        split at q
        · rename_i a ea
          have hy' : y' = .ty t := by cases hy with | rep h => cases h; rfl
          subst hy'
          exact call_isi pins s σ _ _ us Q I rv ⟨_, _, _, _, b, rfl, .ty t, tyX_of sm hx hK ea, kit_ty (subTy_ok q), dOk po sm (.bl _)⟩
        · cases q
      · cases q
  · cases e
    obtain ⟨x, rfl, hx⟩ := fl1 fl
    cases hx.bl
    obtain ⟨u, rfl, ru⟩ := vals1 rv
    cases ru
    exact PySem.P.repr_of_bool ⟨.str _, w.H, I.tok _, ⟨_, rfl⟩, dOk po sm (.str _)⟩
  · cases e
end
end Mi

set_option Elab.async false
set_option linter.all false
set_option maxRecDepth 100000
set_option maxHeartbeats 2000000
/-! Mini 6: methods, subscripts, stores, walks. -/
namespace Mi
open PySem L2
section
variable {L : Lk} {B : Nat} {X : Cx} {T : Tb}

/-! ### methods of built-in types -/
theorem hasTy_r {w : Wd} (s : Sm L w) (hK : L.K = X.K) {v : Val} {x : V} {t : String} (r : wV L w v x) (e : hasTy w.h v t = true) : tyV X.K t x w.H := by
  unfold hasTy at e
  split at e
  · have e' := of_decide_eq_true e
    cases r with | d h => cases h; exact e'
  · cases r with | d h => cases h with | lst h r => exact .inl ⟨of_decide_eq_true e, _, SqL.of (s.le _ _ h)⟩
  · cases r with
    | ref hi =>
      split at e
      · rename_i vs hc
        obtain ⟨o, ho, rc⟩ := s.cell _ _ hc
        cases rc with
        | lst rl => exact .inl ⟨of_decide_eq_true e, _, SqL.of ho⟩
      · cases e
  · cases e
def rMet (L : Lk) (B : Nat) (m : String) : V → List V → Hp → VK → Prop := fun x xs H Q => ∃ (w : Wd) (v : Val) (vs : List Val), w.H = H ∧ Sm L w ∧ B ≤ w.n ∧ wV L w v x ∧ wVL L w vs xs ∧ Po L B (pRV L) w (metM B v m vs w.h) Q
theorem append_ok : MtR X "list.append" (rMet L B "append") := by
  intro pins s σ H x xs v us Q I rx rxs h
  obtain ⟨w, vv, vs, rfl, sm, hB, rv, rvs, po⟩ := h
  unfold metM at po
  rw [if_pos rfl] at po
  cases rvs with
  | nil => exact po.elim
  | cons ry rr =>
    cases rr with
    | cons _ _ => exact po.elim
    | nil =>
    rename_i yv y
    replace po : Po L B (pRV L) w (appendM B vv yv w.h) Q := po
    unfold appendM at po
    split at po
    · rename_i l
      cases hl : w.h[l]? with
      | none => rw [hl] at po; exact po.elim
      | some c =>
        rw [hl] at po
        obtain ⟨o, ho, rc⟩ := sm.cell l c hl
        cases rc with
        | lst rl =>
          rename_i vs' xs'
          dsimp only at po
          split at po
          · rename_i hc
            rw [Bool.and_eq_true, Bool.or_eq_true, decide_eq_true_eq, decide_eq_true_eq] at hc
            cases rv with
            | ref hi =>
              refine mt_append pins s σ _ _ _ v us Q I rx rxs ⟨w.i l, xs', y, rfl, rfl, ho, by rw [line_eq, ← rl.length]; exact hc.2, ?_⟩
              have nx : Nx L B w ⟨w.G, w.i, w.h.set l (.lst (vs' ++ [yv])), upd w.H (w.i l) (.lst (xs' ++ [y]))⟩ := Nx.put sm hi (.lst (rl.append (.cons ry .nil))) fun b hb hd hlb => by
                show okVs b (vs' ++ [yv]) = true
                have h1 : okVs b vs' = true := hd l _ hlb hl
                rw [okVs.iff] at h1 ⊢
                intro z hz
                rcases List.mem_append.mp hz with hz | hz
                · exact h1 z hz
                · rw [List.mem_singleton.mp hz]
                  rcases hc.1 with q | q
                  · omega
                  · exact okV.mono (Nat.le_of_lt hlb) yv q
              exact po ⟨w.G, w.i, w.h.set l (.lst (vs' ++ [yv])), upd w.H (w.i l) (.lst (xs' ++ [y]))⟩ .non rfl nx (.d .non)
          · exact po.elim
        | dicK _ _ => exact po.elim
        | dicT _ _ => exact po.elim
    · exact po.elim
theorem fl1s {w : Wd} {xs : List V} {d : D} (h : FlrL L w xs [d]) : ∃ x, xs = [x] ∧ Flr L w x d := fl1 h
theorem join_ok (hK : L.K = X.K) : MtR X "str.join" (rMet L B "join") := by
  intro pins s σ H x xs v us Q I rx rxs h
  obtain ⟨w, vv, vs, rfl, sm, hB, rv, rvs, po⟩ := h
  unfold metM at po
  rw [if_neg (by decide)] at po
  split at po
  · rename_i d ds ed eds
    have fd := flat_r sm rv ed
    have fs := flats_r sm rvs eds
    cases em : metD d "join" ds with
    | none => rw [em] at po; exact po.elim
    | some r =>
      rw [em] at po
      unfold metD at em
      split at em
      · rename_i st ys
        obtain ⟨y, rfl, hy⟩ := fl1 fs
        obtain ⟨a, zs, rfl, ha, rl⟩ := hy.lstH sm
        cases fd.str
        split at em
        · rename_i ss es
          split at em
          · rename_i hc
            cases em
            refine mt_join pins s σ _ _ _ v us Q I rx rxs ⟨_, a, ss, rfl, rfl, .inl (SqL.of ?_), hc, dOk po sm (.str _)⟩
            rw [← strsD_r (w := w) rl es]; exact ha
          · cases em
        · cases em
      · cases em
  · exact po.elim

/-! ### subscripts -/
def rIx (L : Lk) (B : Nat) : R2 := fun x y H Q => ∃ (w : Wd) (o : Val) (d : D) (v : Val), w.H = H ∧ Sm L w ∧ wV L w o x ∧ Rep L w.G y d ∧ subV w.h o d = some v ∧ Po L B (pRV L) w (.ok (.v v) w.h) Q
theorem vOk {w : Wd} {v : Val} {x : V} {Q : VK} (po : Po L B (pRV L) w (.ok (.v v) w.h) Q) (s : Sm L w) (r : wV L w v x) : Q x w.H := po w x rfl (Nx.refl s) r
/-- the items of a list or a tuple, as they are read now -/
theorem items_r {w : Wd} (s : Sm L w) {v : Val} {x : V} {vs : List Val} (r : wV L w v x) (e : itemsV w.h v = some vs) : ∃ a xs, x = .ref a ∧ (SqL L.K w.H a xs ∨ SqT L.K w.H a xs) ∧ wVL L w vs xs := by
  cases r with
  | tup h r => cases e; exact ⟨_, _, rfl, .inr (sqT_mono s.le h), r⟩
  | @ref i hi =>
    unfold itemsV at e
    dsimp only at e
    split at e
    · rename_i vs' hc
      cases e
      obtain ⟨o, ho, rc⟩ := s.cell _ _ hc
      cases rc with
      | lst rl => exact ⟨_, _, rfl, .inl (SqL.of ho), rl⟩
    · cases e
  | d h =>
    cases h with
    | lst h r => cases e; exact ⟨_, _, rfl, .inl (SqL.of (s.le _ _ h)), VRL.ofRep r⟩
    | tup h r => cases e; exact ⟨_, _, rfl, .inr (sqT_mono s.le h), VRL.ofRep r⟩
    | non => cases e
    | bl b => cases e
    | int b => cases e
    | str b => cases e
    | ty b => cases e
    | cls b => cases e
    | scr b => cases e
    | dicK _ _ _ => cases e
    | dicT _ _ _ => cases e
    | exc _ _ _ => cases e
theorem ix_ok (hK : L.K = X.K) : IxR X (rIx L B) := by
  intro value slice pins s σ H x y v u Q I rx ry h hs
  obtain ⟨w, o, d, r, rfl, sm, ro, rd, e, po⟩ := h
  unfold subV at e
  split at e
  · rename_i k
    cases rd
    split at e
    · rename_i z
      split at e
      · rename_i hc
        cases q : (ixN z.cps.toList.length k).bind fun j => z.cps.toList[j]? with
        | none => rw [q] at e; cases e
        | some c =>
          rw [q] at e; cases e
          cases ro with
          | d ro => cases ro; exact ix_str value slice pins s σ _ _ _ v u Q I rx ry ⟨z, k, c, rfl, rfl, by rw [line_eq]; exact hc, q, dOk po sm (.str _)⟩ hs
      · cases e
    · rename_i ns
      cases q : (ixN ns.length k).bind fun j => ns[j]? with
      | none => rw [q] at e; cases e
      | some c =>
        rw [q] at e; cases e
        cases ro with
        | d ro =>
          cases ro with
          | scr ho =>
            refine ix_list value slice pins s σ _ _ _ v u Q I rx ry ⟨_, ns.map V.int, k, .int c, rfl, rfl, hK ▸ sqL_mono sm.le ho, ?_, dOk po sm (.int _)⟩ hs
            unfold atI
            rw [List.length_map]
            cases q2 : ixN ns.length k with
            | none => rw [q2] at q; cases q
            | some j =>
              rw [q2] at q
              have q' : ns[j]? = some c := q
              show (ns.map V.int)[j]? = some (.int c)
              rw [List.getElem?_map, q']; rfl
    · split at e
      · rename_i vs ei
        obtain ⟨a, xs, rfl, hq, rl⟩ := items_r sm ro ei
        cases q2 : ixN vs.length k with
        | none => rw [q2] at e; cases e
        | some j =>
          rw [q2] at e
          have e' : vs[j]? = some r := e
          obtain ⟨x', hx, rx'⟩ := rl.get e'
          have hat : atI xs k = some x' := by
            unfold atI
            rw [← rl.length, q2]; exact hx
          rcases hq with hq | hq
          · exact ix_list value slice pins s σ _ _ _ v u Q I rx ry ⟨a, xs, k, x', rfl, rfl, hK ▸ hq, hat, vOk po sm rx'⟩ hs
          · exact ix_tup value slice pins s σ _ _ _ v u Q I rx ry ⟨a, xs, k, x', rfl, rfl, hK ▸ hq, hat, vOk po sm rx'⟩ hs
      · cases e
  · cases e

/-! ### stores -/
def rSet (L : Lk) (B : Nat) : TSet := fun o i v H Q => ∃ (w : Wd) (vo vv : Val) (d : D), w.H = H ∧ Sm L w ∧ wV L w vo o ∧ Rep L w.G i d ∧ wV L w vv v ∧ Po L B (fun _ _ (_ : Unit) (_ : Unit) => True) w (setItem B vo d vv w.h) (fun _ H' => Q H')
theorem set_ok : PSet X (rSet L B) := by
  intro pins s σ H o i v ov iv u Q I ro ri rv h
  obtain ⟨w, vo, vv, d, rfl, sm, wo, wi, wv, po⟩ := h
  unfold setItem at po
  split at po
  · rename_i l k
    cases hl : w.h[l]? with
    | none => rw [hl] at po; exact po.elim
    | some c =>
      rw [hl] at po
      obtain ⟨ob, ho, rc⟩ := sm.cell l c hl
      cases rc with
      | lst rl =>
        rename_i vs xs
        dsimp only at po
        split at po
        · rename_i j hj
          split at po
          · rename_i hc
            rw [Bool.or_eq_true, decide_eq_true_eq] at hc
            cases wi
            cases wo with
            | ref hi =>
              refine set_list pins s σ _ _ _ _ ov iv u Q I ro ri rv ⟨_, xs, k, j, rfl, rfl, ho, by rw [← rl.length]; exact hj, ?_⟩
              have nx : Nx L B w ⟨w.G, w.i, w.h.set l (.lst (vs.set j vv)), upd w.H (w.i l) (.lst (xs.set j v))⟩ := Nx.put sm hi (.lst (VRL.set wv j rl)) fun b hb hd hlb => by
                show okVs b (vs.set j vv) = true
                have h1 : okVs b vs = true := hd l _ hlb hl
                rw [okVs.iff] at h1 ⊢
                intro z hz
                rcases List.mem_or_eq_of_mem_set hz with hz | hz
                · exact h1 z hz
                · rw [hz]
                  rcases hc with q | q
                  · omega
                  · exact okV.mono (Nat.le_of_lt hlb) vv q
              exact po ⟨w.G, w.i, w.h.set l (.lst (vs.set j vv)), upd w.H (w.i l) (.lst (xs.set j v))⟩ () rfl nx True.intro
          · exact po.elim
        · exact po.elim
      | dicK _ _ => exact po.elim
      | dicT _ _ => exact po.elim
  · exact po.elim

/-! ### slices -/
theorem VRL.drop {G : Hp} {ι : Nat → Addr} {n : Nat} : ∀ (k : Nat) {vs : List Val} {xs : List V}, VRL L G ι n vs xs → VRL L G ι n (vs.drop k) (xs.drop k)
  | 0, _, _, r => r
  | _ + 1, _, _, .nil => .nil
  | k + 1, _, _, .cons _ r => VRL.drop k r
theorem VRL.take {G : Hp} {ι : Nat → Addr} {n : Nat} : ∀ (k : Nat) {vs : List Val} {xs : List V}, VRL L G ι n vs xs → VRL L G ι n (vs.take k) (xs.take k)
  | 0, _, _, _ => .nil
  | _ + 1, _, _, .nil => .nil
  | k + 1, _, _, .cons h r => .cons h (VRL.take k r)
theorem VRL.cut {G : Hp} {ι : Nat → Addr} {n : Nat} {vs : List Val} {xs : List V} (r : VRL L G ι n vs xs) (lo hi : Option Int) : VRL L G ι n (cutL vs lo hi) (cutV xs lo hi) := by
  unfold cutL cutV
  rw [r.length]
  exact (r.drop _).take _
def rSl (L : Lk) (B : Nat) : V → Option Int → Option Int → Hp → VK → Prop := fun x lo hi H Q => ∃ (w : Wd) (o : Val) (r : RV), w.H = H ∧ Sm L w ∧ wV L w o x ∧ slV w.h o lo hi = some r ∧ Po L B (pRV L) w (.ok r w.h) Q
theorem sl_ok (hK : L.K = X.K) : SlR X (rSl L B) := by
  intro pins s σ H x v vl vu lo hi sl Q I rx hs pl pu h
  obtain ⟨w, o, r, rfl, sm, ro, e, po⟩ := h
  unfold slV at e
  split at e
  · split at e
    · rename_i hz
      cases e
      cases ro with
      | d ro => cases ro; exact sl_str pins s σ _ _ v vl vu lo hi sl Q I rx hs pl pu ⟨_, rfl, by rw [line_eq]; exact hz, dOk po sm (.str _)⟩
    · cases e
  · cases e
    rename_i ds
    cases ro with
    | d ro =>
      cases ro with
      | lst h rr =>
        refine sl_list pins s σ _ _ v vl vu lo hi sl Q I rx hs pl pu ⟨_, _, rfl, SqL.of (sm.le _ _ h), fun p hp => ownOkV po sm hp ?_⟩
        have e2 : (cutL ds lo hi).map Val.d = cutL (ds.map Val.d) lo hi := by simp [cutL, List.map_take, List.map_drop]
        rw [e2]
        exact (VRL.ofRep rr).cut lo hi
  · split at e
    · rename_i i vs hc
      cases e
      cases ro with
      | ref hi' =>
        obtain ⟨ob, ho, rc⟩ := sm.cell _ _ hc
        cases rc with
        | lst rl => exact sl_list pins s σ _ _ v vl vu lo hi sl Q I rx hs pl pu ⟨_, _, rfl, SqL.of ho, fun p hp => ownOkV po sm hp (rl.cut lo hi)⟩
    · cases e
  · cases e

/-! ### walks -/
/-- an iterator that walks xs, in every world behind -/
def Fixed (L : Lk) (B : Nat) (w : Wd) (xs : List V) (J : It) : Prop := ∀ w2 : Wd, Nx L B w w2 → ∀ i, (xs.length ≤ i → J.stop i w2.H) ∧ (i < xs.length → J.go i w2.H) ∧ ∀ x H', i < xs.length → J.yld i w2.H x H' → H' = w2.H ∧ xs[i]? = some x
def pWk (L : Lk) (B : Nat) : Wd → Wd → Wk → It → Prop := fun _ w' k J => match k with
  | .fix vs => ∃ xs, wVL L w' vs xs ∧ Fixed L B w' xs J
  | .cell i => i < w'.n ∧ J = Itl L.K (w'.i i)
theorem shWk : Shift L B (pWk L B) := fun _ _ _ _ _ _ _ h => h
theorem fixed_list {w : Wd} {a : Addr} {xs : List V} (I : ∀ w2 : Wd, Nx L B w w2 → ∀ ys, SqL L.K w2.H a ys → ys = xs) (h : SqL L.K w.G a xs) : Fixed L B w xs (Itl L.K a) := fun w2 nx i => by
  have h2 : SqL L.K w2.H a xs := sqL_mono nx.sm.le (sqL_mono nx.le h)
  refine ⟨fun q => ⟨xs, h2, q⟩, fun q => ⟨xs, xs[i], h2, by simp [q]⟩, fun x H' q y => ⟨y.1, y.2 xs h2⟩⟩
theorem fixed_list' {w : Wd} {a : Addr} {xs : List V} (h : SqL L.K w.G a xs) : Fixed L B w xs (Itl L.K a) := fun w2 nx i => by
  have h2 : SqL L.K w2.H a xs := sqL_mono nx.sm.le (sqL_mono nx.le h)
  exact ⟨fun q => ⟨xs, h2, q⟩, fun q => ⟨xs, xs[i], h2, by simp [q]⟩, fun x H' q y => ⟨y.1, y.2 xs h2⟩⟩
theorem fixed_tup {w : Wd} {a : Addr} {xs : List V} (h : SqT L.K w.G a xs) : Fixed L B w xs (Itt L.K a) := fun w2 nx i => by
  have h2 : SqT L.K w2.H a xs := sqT_mono nx.sm.le (sqT_mono nx.le h)
  exact ⟨fun q => ⟨xs, h2, q⟩, fun q => ⟨xs, xs[i], h2, by simp [q]⟩, fun x H' q y => ⟨y.1, y.2 xs h2⟩⟩
theorem fixed_str {w : Wd} (z : Str) : Fixed L B w (z.cps.toList.map fun c => V.str ⟨#[c]⟩) (Its z) := fun w2 nx i => by
  have hl : (z.cps.toList.map fun c => V.str ⟨#[c]⟩).length = z.cps.size := by simp
  rw [hl]
  refine ⟨fun q => q, fun q => q, fun x H' q y => ⟨y.1, ?_⟩⟩
  obtain ⟨c, hc, rfl⟩ := y.2
  rw [List.getElem?_map, Array.getElem?_toList, hc]; rfl
theorem fixed_range {w : Wd} (lo : Int) (n : Nat) : Fixed L B w ((List.range n).map fun (k : Nat) => V.int (lo + (k : Int))) (Itr lo n) := fun w2 nx i => by
  have hl : ((List.range n).map fun (k : Nat) => V.int (lo + (k : Int))).length = n := by simp
  rw [hl]
  refine ⟨fun q => q, fun q => q, fun x H' q y => ⟨y.1, ?_⟩⟩
  rw [y.2, List.getElem?_map, List.getElem?_range q]; rfl
theorem signs_r {w : Wd} (z : Str) : wVL L w (signs z) (z.cps.toList.map fun c => V.str ⟨#[c]⟩) := by
  unfold signs
  induction z.cps.toList with
  | nil => exact .nil
  | cons c cs ih => exact .cons (.d (.str _)) ih
theorem range_r {w : Wd} (lo : Int) (n : Nat) : wVL L w (rangeV lo n) ((List.range n).map fun (k : Nat) => V.int (lo + (k : Int))) := by
  unfold rangeV
  induction List.range n with
  | nil => exact .nil
  | cons c cs ih => exact .cons (.d (.int _)) ih
/-- what a for walks, by the value -/
theorem pi_valB {tg e : Expr} {te : TE} (he : PE X e te) : PI X tg e (fun σ H R => te σ H fun x H1 => (∃ a xs, x = .ref a ∧ SqL X.K H1 a xs ∧ R (Itl X.K a) H1) ∨ (∃ a xs, x = .ref a ∧ SqT X.K H1 a xs ∧ R (Itt X.K a) H1) ∨ ∃ z, x = .str z ∧ R (Its z) H1) := by
  have k : ∀ (t : Value → Sem Value), True := fun _ => trivial
  refine ⟨fun pins s σ H R I h => ?_⟩
  refine thn (he.run pins s σ H _ I h) fun v s1 ⟨x, H1, I1, r1, q1⟩ => ?_
  -- a value that is at hand, walked by HandS's own rules
  have one : ∀ {wi : TI}, (∀ te' : TE, PE X e te' → PI X tg e wi) → True := fun _ => trivial
  rcases q1 with ⟨a, xs, rfl, hq, q⟩ | ⟨a, xs, rfl, hq, q⟩ | ⟨z, rfl, q⟩
  · cases r1
    obtain ⟨its, rv, p, hz⟩ := I1.list hq
    refine wpAny_pyIter_list p.isList ⟨s1.heap.objs.size, [s1.heap.objs.size], _, _, H1, rfl, I1.kept (t' := s1.toks) fun b o e => Heap.get?_push_of_some _ e, turn_list a _, ⟨_, Heap.get?_push_size _ rfl, rfl, rfl⟩, fun b hb => ?_, q⟩
    obtain rfl : b = s1.heap.objs.size := by simpa using hb
    exact I1.fpOk (Nat.le_refl _) (I1.hok.fresh (Nat.le_refl _))
  · cases r1
    obtain ⟨its, rv, p, hz⟩ := I1.tuple hq
    refine wpAny_pyIter_tuple (show s1.heap.IsTuple a its.toArray from p) ⟨s1.heap.objs.size, [s1.heap.objs.size], _, _, H1, rfl, I1.kept (t' := s1.toks) fun b o e => Heap.get?_push_of_some _ e, turn_tuple a _, ⟨_, Heap.get?_push_size _ rfl, rfl, rfl⟩, fun b hb => ?_, q⟩
    obtain rfl : b = s1.heap.objs.size := by simpa using hb
    exact I1.fpOk (Nat.le_refl _) (I1.hok.fresh (Nat.le_refl _))
  · obtain ⟨t, rfl⟩ := r1
    cases ha : z.cps.all (· < 128)
    · exact wpAny_pyIter_wide ha (pi_one (tk := s1.toks) I1 _ (turn_str _ z t "str_iterator" (.inr rfl)) ⟨_, Heap.get?_push_size _ rfl, rfl, rfl⟩ q)
    · exact wpAny_pyIter_ascii ha (pi_one (tk := s1.toks) I1 _ (turn_str _ z t "str_ascii_iterator" (.inl rfl)) ⟨_, Heap.get?_push_size _ rfl, rfl, rfl⟩ q)
theorem walk_r {w0 w : Wd} (hK : L.K = X.K) (s : Sm L w) {v : Val} {x : V} {k : Wk} {R' : It → Hp → Prop} (r : wV L w v x) (e : walkW w.h v = some k) (hB : B ≤ w.n)
    (hR : ∀ J, pWk L B w0 w k J → R' J w.H) :
    (∃ a xs, x = .ref a ∧ SqL X.K w.H a xs ∧ R' (Itl X.K a) w.H) ∨ (∃ a xs, x = .ref a ∧ SqT X.K w.H a xs ∧ R' (Itt X.K a) w.H) ∨ ∃ z, x = .str z ∧ R' (Its z) w.H := by
  rw [← hK]
  cases r with
  | tup h r => cases e; exact .inr (.inl ⟨_, _, rfl, sqT_mono s.le h, hR _ ⟨_, r, fixed_tup h⟩⟩)
  | @ref i hi =>
    obtain ⟨c, hc⟩ : ∃ c, w.h[i]? = some c := ⟨_, List.getElem?_eq_getElem hi⟩
    obtain ⟨o, ho, rc⟩ := s.cell i c hc
    unfold walkW at e
    dsimp only at e
    rw [hc] at e
    cases rc with
    | lst rl => cases e; exact .inl ⟨_, _, rfl, SqL.of ho, hR _ ⟨hi, rfl⟩⟩
    | dicK _ _ => cases e
    | dicT _ _ => cases e
  | d h =>
    cases h with
    | lst h r => cases e; exact .inl ⟨_, _, rfl, SqL.of (s.le _ _ h), hR _ ⟨_, VRL.ofRep r, fixed_list' (SqL.of h)⟩⟩
    | tup h r => cases e; exact .inr (.inl ⟨_, _, rfl, sqT_mono s.le h, hR _ ⟨_, VRL.ofRep r, fixed_tup h⟩⟩)
    | str z => cases e; exact .inr (.inr ⟨_, rfl, hR _ ⟨_, signs_r z, fixed_str z⟩⟩)
    | non => cases e
    | bl b => cases e
    | int b => cases e
    | ty b => cases e
    | cls b => cases e
    | scr b => cases e
    | dicK _ _ _ => cases e
    | dicT _ _ _ => cases e
    | exc _ _ _ => cases e
end
end Mi

set_option Elab.async false
set_option linter.all false
set_option maxRecDepth 100000
set_option maxHeartbeats 4000000
/-! Mini 7: every expression that matches runs as the interpreter says. -/
namespace Mi
open PySem L2

/-- a def's promise: what the interpreter's function says -/
def spM (L : Lk) (c : List Val → Mo RV) : Sp := fun vs H Q _ => ∃ (w : Wd) (as : List Val) (B : Nat), w.H = H ∧ Sm L w ∧ B ≤ w.n ∧ wVL L w as vs ∧ Po L B (pRV L) w (c as w.h) Q
/-- the tables are so in the text -/
structure LkOk (L : Lk) (T : Tb) : Prop where
  cst : ∀ g d, T.cst g = some d → ∃ v u, RelV v u ∧ (L.mg (S g) = some u ∨ (L.mg (S g) = none ∧ bootBuiltins (S g) = some u)) ∧ ∀ G, Rep L G v d
  bi : ∀ f, f ∈ bis ∨ f = "range" → L.mg (S f) = none
  sub : SubOk T L
/-- an own error that is made and kept -/
structure NewX (L : Lk) (P : Program) (w : World) (base : Heap) (k : Nat) (c : String) : Prop where
  ex : ∃ (C fI : Addr) (fd : FuncData) (ps : List Str) (fl : Str), L.cl c = some C ∧ L.mg (S c) = some (.ref C) ∧ OexC L.K C ∧ PySem.W.findIn L.K (.ref C) "__init__" = some (some (.ref fI)) ∧ PySem.W.typeIn L.K (.ref fI) = some (.type "function") ∧
    FnOk P w L.K L.mg base CX0 k fI fd ps (spXD L.K fl) ∧ Binds L.K fd ps [] ∧ PySem.W.findIn L.K (.ref C) fl = some none
/-- a context in which the interpreter is right -/
structure Gd (L : Lk) (T : Tb) (call new : String → List Val → Mo RV) (X : Cx) (N : List Str) (sc : Sco) : Prop where
  hN : X.N = N
  nd : X.N.Nodup
  hv : X.env.scope = sc.v
  fn : ∀ x, locB sc.s x = true → X.fn x = true ∨ X.env.scope.names.lookup x = some .local
  hK : L.K = X.K
  hmg : L.mg = X.mg
  calm : X.calm = true
  un : X.A.units + 65 < cLine
  ok : LkOk L T
  callF : ∀ (f : String) (as : List Val) (h : Hm) (a : RV) (h' : Hm), call f as h = .ok a h' → ∃ (k : Nat) (ad : Addr) (fd : FuncData) (ps : List Str), FnOk X.prog X.w X.K X.mg X.base CX0 k ad fd ps (spM L (call f)) ∧ Room k X.A ∧ X.mg (S f) = some (.ref ad) ∧ PySem.W.keepIn X.K (.ref ad) = true ∧ Binds X.K fd ps []
  newF : ∀ (f : String) (as : List Val) (h : Hm) (a : RV) (h' : Hm), new f as h = .ok a h' → (∃ k, NewX L X.prog X.w X.base k f ∧ Room (k + 1) X.A) ∧ as.length = 1 ∧ a = .v (.d (.exc f)) ∧ h' = h

section
variable {L : Lk} {T : Tb} {call new : String → List Val → Mo RV} {B : Nat} {X : Cx} {N : List Str} {sc : Sco}
abbrev rE (L : Lk) (T : Tb) (call new : String → List Val → Mo RV) (B : Nat) (m : ME) : TE := tR L B (pRV L) (evE T call new B m)
abbrev rV (L : Lk) (T : Tb) (call new : String → List Val → Mo RV) (B : Nat) (m : ME) : TE := tR L B (pV L) (evV T call new B m)
abbrev rT (L : Lk) (T : Tb) (call new : String → List Val → Mo RV) (B : Nat) (m : ME) : TT := tR L B pB (evT T call new B m)
abbrev rO (L : Lk) (T : Tb) (call new : String → List Val → Mo RV) (B : Nat) (m : MO) : TT := tR L B pB (evO T call new B m)
abbrev rEs (L : Lk) (T : Tb) (call new : String → List Val → Mo RV) (B : Nat) (m : MEs) : TA := tR L B (pVL L) (evEs T call new B m)
abbrev rI (L : Lk) (T : Tb) (call new : String → List Val → Mo RV) (B : Nat) (m : MI) : TI := tR L B (pWk L B) (evI T call new B m)
/-- what a target leaves: the other names stay -/
def pG (L : Lk) (ns : List Nat) (σ : St) : Wd → Wd → Sl → St → Prop := fun _ w' e σ' => EnvR L w' e σ' ∧ ∀ j, j ∉ ns → σ'[j]? = σ[j]?
def rG (L : Lk) (T : Tb) (call new : String → List Val → Mo RV) (B : Nat) (t : MT) : TG := fun x σ H Q => ∃ (w : Wd) (env : Sl) (v : Val), w.H = H ∧ Sm L w ∧ B ≤ w.n ∧ EnvR L w env σ ∧ wV L w v x ∧ Po L B (pG L t.slots σ) w (evG T call new B t v env w.h) Q
def rGs (L : Lk) (T : Tb) (call new : String → List Val → Mo RV) (B : Nat) (t : MTs) : TGs := fun xs σ H Q => ∃ (w : Wd) (env : Sl) (vs : List Val), w.H = H ∧ Sm L w ∧ B ≤ w.n ∧ EnvR L w env σ ∧ wVL L w vs xs ∧ Po L B (pG L t.slots σ) w (evGs T call new B t vs env w.h) Q

theorem Nx.b {w w1 : Wd} (nx : Nx L B w w1) (h : B ≤ w.n) : B ≤ w1.n := Nat.le_trans h nx.len
/-- an expression's value, frozen -/
theorem sV {m : ME} {e : Expr} (h : PE X e (rE L T call new B m)) : PE X e (rV L T call new B m) := by
  refine pe_imp h fun σ H Q ⟨w, env, e1, sm, hB, er, po⟩ => ⟨w, env, e1, sm, hB, er, ?_⟩
  subst e1
  have po' : Po L B (pV L) w (((evE T call new B m env).bnd fun r => frzM r) w.h) Q := po
  refine po'.bnd fun r w1 y e1 nx rr q => ?_
  unfold frzM Mo.opt at q
  cases ef : r.frz with
  | none => rw [ef] at q; exact q.elim
  | some v =>
    rw [ef] at q
    obtain ⟨w2, h1, h2, n2, rv⟩ := RVR.frz sm nx rr ef
    have := q w2 y h1 n2 rv
    rw [h2] at this; exact this
/-- two values, then something -/
theorem two {α : Type} {a b : ME} {σ : St} {H : Hp} {f : Sl → Val → Val → Mo α} {γ : Type} {P' : Wd → Wd → α → γ → Prop} {Q : γ → Hp → Prop} {R' : V → V → Hp → Prop} (sh : Shift L B P')
    (h : tR L B P' (fun σ => (evV T call new B a σ).bnd fun x => (evV T call new B b σ).bnd fun y => f σ x y) σ H Q)
    (k : ∀ (w : Wd) (env : Sl) (vx vy : Val) (x y : V), Sm L w → B ≤ w.n → EnvR L w env σ → wV L w vx x → wV L w vy y → Po L B P' w (f env vx vy w.h) Q → R' x y w.H) :
    rV L T call new B a σ H fun x H1 => rV L T call new B b σ H1 fun y H2 => R' x y H2 := by
  obtain ⟨w, env, rfl, sm, hB, er, po⟩ := h
  refine ⟨w, env, rfl, sm, hB, er, po.bnd fun vx w1 x e1 n1 r1 q1 => ?_⟩
  refine ⟨w1, env, rfl, n1.sm, n1.b hB, er.nx n1, (q1.from sh sm n1).bnd fun vy w2 y e2 n2 r2 q2 => ?_⟩
  exact k w2 env vx vy x y n2.sm (n2.b (n1.b hB)) ((er.nx n1).nx n2) (n2.v r1) r2 (q2.from sh n1.sm n2)
theorem one {α : Type} {a : ME} {σ : St} {H : Hp} {f : Sl → Val → Mo α} {γ : Type} {P' : Wd → Wd → α → γ → Prop} {Q : γ → Hp → Prop} {R' : V → Hp → Prop} (sh : Shift L B P')
    (h : tR L B P' (fun σ => (evV T call new B a σ).bnd (f σ)) σ H Q)
    (k : ∀ (w : Wd) (env : Sl) (vx : Val) (x : V), Sm L w → B ≤ w.n → EnvR L w env σ → wV L w vx x → Po L B P' w (f env vx w.h) Q → R' x w.H) :
    rV L T call new B a σ H fun x H1 => R' x H1 := by
  obtain ⟨w, env, rfl, sm, hB, er, po⟩ := h
  exact ⟨w, env, rfl, sm, hB, er, po.bnd fun vx w1 x e1 n1 r1 q1 => k w1 env vx x n1.sm (n1.b hB) (er.nx n1) r1 (q1.from sh sm n1)⟩

/-- a method of a built-in type, any number of arguments -/
theorem pe_metB {Tn id : String} {name : Str} {apos cpos : Pos} {o : Expr} {to : TE} {t : TA} {r : V → List V → Hp → VK → Prop} {as : MEs} (pa : PlainAttrs Tn) (slot : Slot Tn name id) (hty : typeOf (.builtin id) = pure (.type "method_descriptor")) (hm : MtR X id r)
    (ho : PE X o to) (hs : noSuper o = true) (hl : (apos.endLine == cpos.line) = true) : ∀ {e : Expr} {es : List Expr}, PA X (e :: es) t → mEs N sc as (e :: es) = true → (e :: es).length < 30 →
    PE X (.Call (.Attribute o name apos) (e :: es) [] cpos) (fun σ H Q => to σ H fun x H1 => tyV X.K Tn x H1 ∧ t σ H1 fun xs H2 => r x xs H2 Q)
  | e, es, ha, hm', hlen => by
    have hst : noStar e = true := by
      cases as with
      | nil => simp [mEs] at hm'
      | cons a r => simp only [mEs, Bool.and_eq_true] at hm'; exact hm'.1.1
    have hp : (backTo cpos (starEach es X.env)).any (·.1) = false := by
      cases as with
      | nil => simp [mEs] at hm'
      | cons a r => simp only [mEs, Bool.and_eq_true] at hm'; exact mEs_star hm'.2
    exact pe_bm pa slot hty hm ho ha (lam_super hs _ _) (mEs_few hm' hlen) hl (star_each hst) hp
end
end Mi

set_option Elab.async false
set_option linter.all false
set_option maxRecDepth 100000
set_option maxHeartbeats 4000000
/-! Mini 8: the cases of an expression. -/
namespace Mi
open PySem L2
section
variable {L : Lk} {T : Tb} {call new : String → List Val → Mo RV} {B : Nat} {X : Cx} {N : List Str} {sc : Sco} {pos : Pos}
abbrev PR (L : Lk) (T : Tb) (call new : String → List Val → Mo RV) (B : Nat) (X : Cx) (m : ME) (e : Expr) : Prop := PE X e (rE L T call new B m)

theorem tR_unf {α β : Type} {P : Wd → Wd → α → β → Prop} {c c' : Sl → Mo α} (e : ∀ σ, c σ = c' σ) {σ : St} {H : Hp} {Q : β → Hp → Prop} (h : tR L B P c σ H Q) : tR L B P c' σ H Q := by
  obtain ⟨w, env, h1, h2, h3, h4, po⟩ := h
  exact ⟨w, env, h1, h2, h3, h4, by rw [← e]; exact po⟩
theorem c_var (g : Gd L T call new X N sc) {i : Nat} {x : Str} (h1 : N[i]? = some x) (h2 : visB sc.v x = true) (h3 : plainB x = true) : PR L T call new B X (.var i) (.Name x pos) := by
  refine pe_imp (pe_var (i := i) (by rw [g.hN]; exact h1) (by rw [g.hv]; exact vis_of h2) (plain_of h3).1 (plain_of h3).2.1) fun σ H Q ⟨w, env, e, sm, hB, er, po⟩ => ?_
  subst e
  rw [evE] at po
  cases q : env[i]? with
  | none => rw [q] at po; exact po.elim
  | some o =>
    rw [q] at po
    cases o with
    | none => exact po.elim
    | some v =>
      obtain ⟨y, hy, ry⟩ := er.2 i v q
      exact ⟨y, hy, vOk po sm ry⟩
theorem c_con {m : ME} {d : D} {e : Expr} {v : V} (h : PE X e (tC v)) (hm : ∀ σ, evE T call new B m σ = .ret (.v (.d d))) (r : ∀ G, Rep L G v d) : PR L T call new B X m e := by
  refine pe_imp h fun σ H Q ⟨w, env, e, sm, hB, er, po⟩ => ?_
  subst e
  rw [hm] at po
  exact dOk po sm (r _)
theorem c_glob (g : Gd L T call new X N sc) {n : String} {x : Str} (h1 : x = S n) (h2 : glB sc.v x = true) (h3 : plainB x = true) : PR L T call new B X (.glob n) (.Name x pos) := by
  subst h1
  obtain ⟨p1, p2, p3⟩ := plain_of h3
  have hg : Gl X (S n) := by
    show X.env.scope.names.lookup (S n) = _
    rw [g.hv]; exact gl_of h2
  cases q : T.cst n with
  | none =>
    refine ⟨fun pins s σ H Q I h => ?_⟩
    obtain ⟨w, env, e, sm, hB, er, po⟩ := h
    rw [evE] at po
    dsimp only at po
    rw [q] at po; exact po.elim
  | some d =>
    obtain ⟨v, u, rv, hm, rp⟩ := g.ok.cst n d q
    have pe : PE X (.Name (S n) pos) (tC v) := by
      rcases hm with hm | ⟨hm, hb⟩
      · exact pe_glob hg (by rw [← g.hmg]; exact hm) rv p1
      · exact pe_bltn hg (by rw [← g.hmg]; exact hm) hb rv p3 p1
    refine pe_imp pe fun σ H Q ⟨w, env, e, sm, hB, er, po⟩ => ?_
    subst e
    rw [evE] at po
    dsimp only at po
    rw [q] at po
    exact dOk po sm (rp _)
theorem c_ari {a b : ME} {l r : Expr} {o : Ari} (ha : PR L T call new B X a l) (hb : PR L T call new B X b r) : PR L T call new B X (.ari o a b) (.BinOp l o.op r pos) := by
  refine pe_imp (pe_op (op_ariD (L := L) (B := B) o) (sV ha) (sV hb)) fun σ H Q h => ?_
  refine two (R' := fun x y H2 => rD2 L B (ariD o) x y H2 Q) shRV (tR_unf (fun σ => by rw [evE] <;> rfl) h) fun w env vx vy x y sm hB er rx ry po => ?_
  cases e1 : flat w.h vx with
  | none => simp only [e1] at po; exact po.elim
  | some dx =>
    cases e2 : flat w.h vy with
    | none => simp only [e1, e2] at po; exact po.elim
    | some dy =>
      simp only [e1, e2] at po
      cases e3 : ariD o dx dy with
      | none => simp only [e3] at po; exact po.elim
      | some r => simp only [e3] at po; exact ⟨w, dx, dy, r, rfl, sm, flat_r sm rx e1, flat_r sm ry e2, e3, po⟩
theorem cmpM_r {γ : Type} {o : Cmp} {vx vy : Val} {K : Bool → Mo γ} {β : Type} {P' : Wd → Wd → γ → β → Prop} {Q : β → Hp → Prop} {w : Wd} {x y : V} (sm : Sm L w) (rx : wV L w vx x) (ry : wV L w vy y) (po : Po L B P' w (((cmpM o vx vy).bnd K) w.h) Q) :
    ∃ dx dy r, Flr L w x dx ∧ Flr L w y dy ∧ cmpD o dx dy = some r ∧ Po L B P' w (K r w.h) Q := by
  unfold Mo.bnd cmpM at po
  cases e1 : flat w.h vx with
  | none => simp only [e1] at po; exact po.elim
  | some dx =>
    cases e2 : flat w.h vy with
    | none => simp only [e1, e2] at po; exact po.elim
    | some dy =>
      simp only [e1, e2] at po
      cases e3 : cmpD o dx dy with
      | none => simp only [e3] at po; exact po.elim
      | some r => simp only [e3] at po; exact ⟨dx, dy, r, flat_r sm rx e1, flat_r sm ry e2, e3, po⟩
theorem truM_r {γ : Type} {vx : Val} {K : Bool → Mo γ} {β : Type} {P' : Wd → Wd → γ → β → Prop} {Q : β → Hp → Prop} {w : Wd} {x : V} (sm : Sm L w) (rx : wV L w vx x) (po : Po L B P' w (((truM vx).bnd K) w.h) Q) :
    ∃ k, TruV L.K x w.H k ∧ Po L B P' w (K k w.h) Q := by
  unfold Mo.bnd truM at po
  cases e : truV w.h vx with
  | none => simp only [e] at po; exact po.elim
  | some k => simp only [e] at po; exact ⟨k, tru_r sm rx e, po⟩
theorem c_cmp (g : Gd L T call new X N sc) {a b : ME} {l r : Expr} {o : Cmp} (hs : noSet r = true) (ha : PR L T call new B X a l) (hb : PR L T call new B X b r) : PR L T call new B X (.cmp o a b) (.Compare l [o.op] [r] pos) := by
  refine pe_imp (pe_cmpR (op_cmpD (L := L) (B := B) g.hK (by have := g.un; omega) o) (sV ha) (sV hb) (set_mark hs _)) fun σ H Q h => ?_
  refine two (R' := fun x y H2 => rC2 L B (cmpD o) x y H2 Q) shRV (tR_unf (fun σ => by rw [evE] <;> rfl) h) fun w env vx vy x y sm hB er rx ry po => ?_
  obtain ⟨dx, dy, r, f1, f2, e3, q⟩ := cmpM_r sm rx ry po
  exact ⟨w, dx, dy, r, rfl, sm, f1, f2, e3, dOk q sm (.bl _)⟩
theorem chain_core {a b c : ME} {o o2 : Cmp} {σ : St} {H : Hp} {Q : VK} (h : rE L T call new B (.cmp2 o o2 a b c) σ H Q) :
    tChain (rC2 L B (cmpD o)) (rC2 L B (cmpD o2)) (rV L T call new B a) (rV L T call new B b) (rV L T call new B c) σ H Q := by
  refine two (R' := fun x y H2 => rC2 L B (cmpD o) x y H2 fun z H3 => ∃ k, z = .bl k ∧ (if k = true then rV L T call new B c σ H3 fun w' H4 => rC2 L B (cmpD o2) y w' H4 Q else Q (.bl false) H3)) shRV (tR_unf (fun σ => by rw [evE] <;> rfl) h) fun w env vx vy x y sm hB er rx ry po => ?_
  obtain ⟨dx, dy, r, f1, f2, e3, q⟩ := cmpM_r sm rx ry po
  refine ⟨w, dx, dy, r, rfl, sm, f1, f2, e3, r, rfl, ?_⟩
  cases r with
  | false => rw [if_neg Bool.false_ne_true]; exact dOk q sm (.bl _)
  | true =>
    rw [if_pos rfl] at q ⊢
    refine ⟨w, env, rfl, sm, hB, er, Po.bnd (c := evV T call new B c env) q fun vz w2 z e2' n2 rz q2 => ?_⟩
    obtain ⟨dx, dy, r, f1, f2, e3, q⟩ := cmpM_r n2.sm (n2.v ry) rz (q2.from shRV sm n2)
    exact ⟨w2, dx, dy, r, rfl, n2.sm, f1, f2, e3, dOk q n2.sm (.bl _)⟩
theorem marks2 {o o2 : CmpOp} {r t : Expr} (h1 : noSet r = true) (h2 : noSet t = true) : lastMarks [o, o2] [r, t] = false := set_mark h2 _
theorem c_cmp2 (g : Gd L T call new X N sc) {a b c : ME} {l r t : Expr} {o o2 : Cmp} (hs : noSet r = true) (ht : noSet t = true) (ha : PR L T call new B X a l) (hb : PR L T call new B X b r) (hc : PR L T call new B X c t) :
    PR L T call new B X (.cmp2 o o2 a b c) (.Compare l [o.op, o2.op] [r, t] pos) :=
  pe_imp (pe_chain (op_cmpD (L := L) (B := B) g.hK (by have := g.un; omega) o) (op_cmpD (L := L) (B := B) g.hK (by have := g.un; omega) o2) (sV ha) (sV hb) (sV hc) (marks2 hs ht)) fun σ H Q h => chain_core h
theorem c_neg {a : ME} {e : Expr} (ha : PR L T call new B X a e) : PR L T call new B X (.neg a) (.UnaryOp .USub e pos) := by
  refine pe_imp (pe_un un_neg (sV ha)) fun σ H Q h => ?_
  refine one (R' := fun x H2 => rU (fun i => .int (-i)) x H2 Q) shRV (tR_unf (fun σ => by rw [evE] <;> rfl) h) fun w env vx x sm hB er rx po => ?_
  split at po
  · rename_i i
    cases rx with
    | d rx => cases rx; exact ⟨i, rfl, dOk po sm (.int _)⟩
  · exact po.elim
/-- a value's truth is asked: then something -/
theorem test {α : Type} {a : ME} {σ : St} {H : Hp} {f : Sl → Bool → Mo α} {γ : Type} {P' : Wd → Wd → α → γ → Prop} {Q : γ → Hp → Prop} {R' : Bool → Hp → Prop} (sh : Shift L B P')
    (h : tR L B P' (fun σ => (evT T call new B a σ).bnd (f σ)) σ H Q)
    (k : ∀ (w : Wd) (env : Sl) (c : Bool), Sm L w → B ≤ w.n → EnvR L w env σ → Po L B P' w (f env c w.h) Q → R' c w.H) :
    rT L T call new B a σ H R' := by
  obtain ⟨w, env, rfl, sm, hB, er, po⟩ := h
  refine ⟨w, env, rfl, sm, hB, er, po.bnd fun c w1 c' e1 n1 r1 q1 => ?_⟩
  cases (show c = c' from r1)
  exact k w1 env c n1.sm (n1.b hB) (er.nx n1) (q1.from sh sm n1)
/-- the truth of a value -/
theorem truth {a : ME} {σ : St} {H : Hp} {Q : Bool → Hp → Prop} (h : rT L T call new B a σ H Q) : rV L T call new B a σ H fun x H1 => ∃ k, TruV L.K x H1 k ∧ Q k H1 := by
  refine one (f := fun _ x => truM x) shB (tR_unf (fun σ => rfl) h) fun w env vx x sm hB er rx po => ?_
  have po' : Po L B pB w (((truM vx).bnd .ret) w.h) Q := by
    have : ((truM vx).bnd .ret) w.h = truM vx w.h := by unfold Mo.bnd; cases truM vx w.h <;> rfl
    rw [this]; exact po
  obtain ⟨k, t, q⟩ := truM_r sm rx po'
  exact ⟨k, t, q w k rfl (Nx.refl sm) rfl⟩
theorem c_not (g : Gd L T call new X N sc) {a : ME} {e : Expr} (ha : PR L T call new B X a e) : PR L T call new B X (.not a) (.UnaryOp .Not e pos) := by
  refine pe_imp (pe_notT (sV ha)) fun σ H Q h => ?_
  rw [← g.hK]
  refine truth (Q := fun k H1 => Q (.bl (!k)) H1) (test (f := fun _ b => .ret (.v (.d (.bl (!b))))) (R' := fun k H1 => Q (.bl (!k)) H1) shRV (tR_unf (fun σ => by rw [evE] <;> rfl) h) fun w env c sm hB er po => dOk po sm (.bl _))
theorem c_and (g : Gd L T call new X N sc) {a b : ME} {e e2 : Expr} {rest : List Expr} (ha : PR L T call new B X a e) (hb : PR L T call new B X b (.BoolOp .And (e2 :: rest) pos)) : PR L T call new B X (.and a b) (.BoolOp .And (e :: e2 :: rest) pos) := by
  refine pe_imp (pe_andT (sV ha) hb) fun σ H Q h => ?_
  rw [← g.hK]
  refine one (R' := fun x H1 => ∃ k, TruV L.K x H1 k ∧ if k = true then rE L T call new B b σ H1 Q else Q x H1) shRV (tR_unf (fun σ => by rw [evE] <;> rfl) h) fun w env vx x sm hB er rx po => ?_
  obtain ⟨k, t, q⟩ := truM_r sm rx po
  refine ⟨k, t, ?_⟩
  cases k with
  | true => rw [if_pos rfl] at q ⊢; exact ⟨w, env, rfl, sm, hB, er, q⟩
  | false => rw [if_neg Bool.false_ne_true] at q ⊢; exact vOk q sm rx
theorem c_or (g : Gd L T call new X N sc) {a b : ME} {e e2 : Expr} {rest : List Expr} (ha : PR L T call new B X a e) (hb : PR L T call new B X b (.BoolOp .Or (e2 :: rest) pos)) : PR L T call new B X (.or a b) (.BoolOp .Or (e :: e2 :: rest) pos) := by
  refine pe_imp (pe_orT (sV ha) hb) fun σ H Q h => ?_
  rw [← g.hK]
  refine one (R' := fun x H1 => ∃ k, TruV L.K x H1 k ∧ if k = true then Q x H1 else rE L T call new B b σ H1 Q) shRV (tR_unf (fun σ => by rw [evE] <;> rfl) h) fun w env vx x sm hB er rx po => ?_
  obtain ⟨k, t, q⟩ := truM_r sm rx po
  refine ⟨k, t, ?_⟩
  cases k with
  | false => rw [if_neg Bool.false_ne_true] at q ⊢; exact ⟨w, env, rfl, sm, hB, er, q⟩
  | true => rw [if_pos rfl] at q ⊢; exact vOk q sm rx
/-! tests -/
abbrev PT' (L : Lk) (T : Tb) (call new : String → List Val → Mo RV) (B : Nat) (X : Cx) (m : ME) (e : Expr) : Prop := PW X e (rT L T call new B m)
theorem t_plain (g : Gd L T call new X N sc) {m : ME} {e : Expr} (h : PR L T call new B X m e) (he : ∀ whole, isTrue e X.env whole = (do let v ← whole; standAt e.pos; holding [v] (truthy v))) : PT X e (rT L T call new B m) := by
  refine ⟨fun pins s σ H Q I q => (pt_truth (sV h) he).run pins s σ H Q I ?_⟩
  rw [← g.hK]
  exact truth q
theorem c_ife {c a b : ME} {t x y : Expr} (hc : PT X t (rT L T call new B c)) (ha : PR L T call new B X a x) (hb : PR L T call new B X b y) : PR L T call new B X (.ife c a b) (.IfExp t x y pos) := by
  refine pe_imp (pe_ifExp hc ha hb) fun σ H Q h => ?_
  refine test (R' := fun k H1 => if k = true then rE L T call new B a σ H1 Q else rE L T call new B b σ H1 Q) shRV (tR_unf (fun σ => by rw [evE] <;> rfl) h) fun w env k sm hB er po => ?_
  cases k with
  | true => rw [if_pos rfl]; exact ⟨w, env, rfl, sm, hB, er, po⟩
  | false => rw [if_neg Bool.false_ne_true]; exact ⟨w, env, rfl, sm, hB, er, po⟩
/-- many values, then something -/
theorem many {α : Type} {as : MEs} {σ : St} {H : Hp} {f : Sl → List Val → Mo α} {γ : Type} {P' : Wd → Wd → α → γ → Prop} {Q : γ → Hp → Prop} {R' : List V → Hp → Prop} (sh : Shift L B P')
    (h : tR L B P' (fun σ => (evEs T call new B as σ).bnd (f σ)) σ H Q)
    (k : ∀ (w : Wd) (env : Sl) (vs : List Val) (xs : List V), Sm L w → B ≤ w.n → EnvR L w env σ → wVL L w vs xs → Po L B P' w (f env vs w.h) Q → R' xs w.H) :
    rEs L T call new B as σ H fun xs H1 => R' xs H1 := by
  obtain ⟨w, env, rfl, sm, hB, er, po⟩ := h
  exact ⟨w, env, rfl, sm, hB, er, po.bnd fun vx w1 x e1 n1 r1 q1 => k w1 env vx x n1.sm (n1.b hB) (er.nx n1) r1 (q1.from sh sm n1)⟩
theorem c_nil : PA X [] (rEs L T call new B .nil) := by
  refine pa_imp pa_nil fun σ H Q ⟨w, env, e, sm, hB, er, po⟩ => ?_
  subst e
  rw [evEs] at po
  exact po w [] rfl (Nx.refl sm) .nil
theorem c_cons {a : ME} {r : MEs} {e : Expr} {es : List Expr} (hs : noStar e = true) (ha : PR L T call new B X a e) (hr : PA X es (rEs L T call new B r)) : PA X (e :: es) (rEs L T call new B (.cons a r)) := by
  refine pa_imp (pa_cons (sV ha) hr (star_each hs)) fun σ H Q h => ?_
  obtain ⟨w, env, rfl, sm, hB, er, po⟩ := h
  rw [evEs] at po
  refine ⟨w, env, rfl, sm, hB, er, po.bnd fun vx w1 x e1 n1 r1 q1 => ?_⟩
  replace q1 := q1.from shVL sm n1
  refine ⟨w1, env, rfl, n1.sm, n1.b hB, er.nx n1, q1.bnd fun vs w2 xs e2 n2 r2 q2 => ?_⟩
  exact (q2.from shVL n1.sm n2) w2 (x :: xs) rfl (Nx.refl n2.sm) (.cons (n2.v r1) r2)
theorem c_tup {es : MEs} {xs : List Expr} {k : Nat} (ha : PA X xs (rEs L T call new B es)) : PR L T call new B X (.tup es) (.Tuple xs k pos) := by
  refine pe_imp (pe_tup ha) fun σ H Q h => ?_
  refine many (R' := fun xs H1 => xs.length ≤ sizeLine ∧ ∀ p, H1 p = none → Q (.ref p) (upd H1 p (.tup xs))) shRV (tR_unf (fun σ => by rw [evE] <;> rfl) h) fun w env vs ys sm hB er rs po => ?_
  split at po
  · rename_i hl
    refine ⟨by rw [line_eq, ← rs.length]; exact hl, fun p hp => ?_⟩
    have nx : Nx L B w ⟨upd w.G p (.tup ys), w.i, w.h, upd w.H p (.tup ys)⟩ := Nx.freeze sm hp
    refine po ⟨upd w.G p (.tup ys), w.i, w.h, upd w.H p (.tup ys)⟩ (.ref p) rfl nx ?_
    show VR L (upd w.G p (.tup ys)) w.i w.n (mkTup vs) (.ref p)
    unfold mkTup
    cases e : allD vs with
    | none => exact .tup (SqT.of upd_same) (nx.vl rs)
    | some ds => exact .d (.tup (SqT.of upd_same) ((rs.allD e).mono nx.le))
  · exact po.elim
theorem c_lst {es : MEs} {xs : List Expr} (ha : PA X xs (rEs L T call new B es)) : PR L T call new B X (.lst es) (.List xs pos) := by
  refine pe_imp (pe_lst ha) fun σ H Q h => ?_
  refine many (R' := fun xs H1 => xs.length ≤ sizeLine ∧ ∀ p, H1 p = none → Q (.ref p) (upd H1 p (.lst xs))) shRV (tR_unf (fun σ => by rw [evE] <;> rfl) h) fun w env vs ys sm hB er rs po => ?_
  split at po
  · rename_i hl
    exact ⟨by rw [line_eq, ← rs.length]; exact hl, fun p hp => ownOkV po sm hp rs⟩
  · exact po.elim
theorem c_sub (g : Gd L T call new X N sc) {a b : ME} {l r : Expr} (hs : noSlice r = true) (ha : PR L T call new B X a l) (hb : PR L T call new B X b r) : PR L T call new B X (.sub a b) (.Subscript l r pos) := by
  refine pe_imp (pe_ix (ix_ok (L := L) (B := B) g.hK) (sV ha) (sV hb) (slice_plain hs)) fun σ H Q h => ?_
  refine two (R' := fun x y H2 => rIx L B x y H2 Q) shRV (tR_unf (fun σ => by rw [evE] <;> rfl) h) fun w env vx vy x y sm hB er rx ry po => ?_
  split at po
  · rename_i d
    cases e : subV w.h vx d with
    | none => simp only [e] at po; exact po.elim
    | some v =>
      simp only [e] at po
      cases ry with
      | d ry => exact ⟨w, vx, d, v, rfl, sm, rx, ry, e, po⟩
  · exact po.elim
theorem c_bif (g : Gd L T call new X N sc) {f : String} {x : Str} {as : MEs} {es : List Expr} {p : Pos} (h1 : x = S f) (h2 : glB sc.v x = true) (h3 : plainB x = true) (hm : mEs N sc as es = true) (ha : PA X es (rEs L T call new B as)) : PR L T call new B X (.bif f as) (.Call (.Name x p) es [] pos) := by
  subst h1
  obtain ⟨p1, p2, p3⟩ := plain_of h3
  have hg : Gl X (S f) := by
    show X.env.scope.names.lookup (S f) = _
    rw [g.hv]; exact gl_of h2
  have core : ∀ σ H Q, rE L T call new B (.bif f as) σ H Q → tCB (rBif L B (bifD T f)) (rEs L T call new B as) σ H Q := fun σ H Q h => by
    refine many (R' := fun xs H1 => rBif L B (bifD T f) xs H1 Q) shRV (tR_unf (fun σ => by rw [evE] <;> rfl) h) fun w env vs ys sm hB er rs po => ?_
    cases e1 : flats w.h vs with
    | none => simp only [e1] at po; exact po.elim
    | some ds =>
      simp only [e1] at po
      cases e2 : bifD T f ds with
      | none => simp only [e2] at po; exact po.elim
      | some d => simp only [e2] at po; exact ⟨w, ds, d, rfl, sm, flats_r sm rs e1, e2, po⟩
  by_cases hf : f ∈ bis
  · cases es with
    | nil =>
      cases as with
      | cons a r => cases hm
      | nil =>
      refine ⟨fun pins s σ H Q I h => ?_⟩
      obtain ⟨w, env, e, sm, hB, er, po⟩ := h
      rw [evE, evEs] at po
      exfalso
      simp only [bis, List.mem_cons, List.not_mem_nil, or_false] at hf
      rcases hf with rfl | rfl | rfl | rfl | rfl | rfl | rfl <;> exact po.elim
    | cons e es =>
      cases as with
      | nil => cases hm
      | cons a r =>
      have hm' := hm
      simp only [mEs, Bool.and_eq_true] at hm'
      exact pe_imp (pe_callB (bif_ok (L := L) (B := B) (T := T) g.hK g.calm g.ok.sub f) hg (by rw [← g.hmg]; exact g.ok.bi f (.inl hf)) (boot_bif hf) ha p3 p1 (star_each hm'.1.1) (mEs_star hm'.2)) core
  · refine ⟨fun pins s σ H Q I h => ?_⟩
    obtain ⟨w, env, e, sm, hB, er, po⟩ := h
    exfalso
    have : ∀ ds, bifD T f ds = none := fun ds => by
      unfold bifD
      split <;> first | rfl | (exfalso; apply hf; simp [bis])
    rw [evE] at po
    unfold Mo.bnd at po
    split at po
    · dsimp only at po
      split at po
      · rw [this] at po; exact po.elim
      · exact po.elim
    · exact po.elim
    · exact po.elim
end
end Mi

set_option Elab.async false
set_option linter.all false
set_option maxRecDepth 100000
set_option maxHeartbeats 4000000
/-! Mini 9: calls, methods, comprehensions, walks, targets. -/
namespace Mi
open PySem L2
theorem Mo.assoc {α β γ : Type} (x : Mo α) (f : α → Mo β) (g : β → Mo γ) : (x.bnd f).bnd g = x.bnd fun a => (f a).bnd g := by
  funext h
  unfold Mo.bnd
  cases x h <;> rfl
theorem Mo.ret_bnd {α β : Type} (a : α) (f : α → Mo β) : (Mo.ret a).bnd f = f a := rfl
section
variable {L : Lk} {B : Nat} {α β γ δ : Type} {P : Wd → Wd → α → β → Prop} {P' : Wd → Wd → γ → δ → Prop} {w w1 : Wd} {Q : δ → Hp → Prop}
theorem Po.bnd2 {c : Mo α} {f : α → Mo γ} {h : Hm} {R' : β → Hp → Prop} (po : Po L B P' w1 ((c.bnd f) h) Q)
    (k : ∀ (a : α) (w2 : Wd) (b : β), c h = .ok a w2.h → Nx L B w w2 → P w w2 a b → Po L B P' w1 (f a w2.h) Q → R' b w2.H) : Po L B P w (c h) R' := by
  unfold Mo.bnd at po
  cases e : c h with
  | ok a h1 =>
    rw [e] at po
    intro w2 b e1 nx pp
    subst e1
    exact k a w2 b e nx pp po
  | exc c fs h1 => rw [e] at po; exact po
  | bad => rw [e] at po; exact po
theorem Po.there {r : R γ} (po : Po L B P' w r Q) : ∃ a h, r = .ok a h := by
  cases r with
  | ok a h => exact ⟨a, h, rfl⟩
  | exc c fs h1 => exact po.elim
  | bad => exact po.elim
theorem bnd_there {c : Mo α} {f : α → Mo γ} {h h' : Hm} {a : γ} (e : (c.bnd f) h = .ok a h') : ∃ b h1, c h = .ok b h1 ∧ f b h1 = .ok a h' := by
  unfold Mo.bnd at e
  cases q : c h with
  | ok b h1 => rw [q] at e; exact ⟨b, h1, rfl, e⟩
  | exc c fs h1 => rw [q] at e; cases e
  | bad => rw [q] at e; cases e
end
section
variable {L : Lk} {T : Tb} {call new : String → List Val → Mo RV} {B : Nat} {X : Cx} {N : List Str} {sc : Sco} {pos : Pos}
theorem c_call (g : Gd L T call new X N sc) {f : String} {x : Str} {as : MEs} {es : List Expr} {p : Pos} (h1 : x = S f) (h2 : glB sc.v x = true) (h3 : plainB x = true) (hm : mEs N sc as es = true) (ha : PA X es (rEs L T call new B as)) : PR L T call new B X (.call f as) (.Call (.Name x p) es [] pos) := by
  subst h1
  obtain ⟨p1, p2, p3⟩ := plain_of h3
  have hg : Gl X (S f) := by
    show X.env.scope.names.lookup (S f) = _
    rw [g.hv]; exact gl_of h2
  refine ⟨fun pins s σ H Q I h => ?_⟩
  have hw := h
  obtain ⟨w, env, _, _, _, _, po⟩ := hw
  rw [evE] at po
  obtain ⟨a, h', e⟩ := po.there
  obtain ⟨vs, h1, e1, e2⟩ := bnd_there e
  obtain ⟨k, ad, fd, ps, F, hr, hmg, hk, hb⟩ := g.callF f vs h1 a h' e2
  have core : ∀ σ H Q, rE L T call new B (.call f as) σ H Q → tCall (spM L (call f)) [] E0 (rEs L T call new B as) σ H Q := fun σ H Q h => by
    refine many (R' := fun xs H1 => spM L (call f) (xs ++ []) H1 Q E0) shRV (tR_unf (fun σ => by rw [evE] <;> rfl) h) fun w env vs ys sm hB er rs po => ?_
    exact ⟨w, vs, B, rfl, sm, hB, by rw [List.append_nil]; exact rs, po⟩
  cases es with
  | nil =>
    cases as with
    | cons a r => cases hm
    | nil =>
    refine (pe_call0 F hr hg hmg hk hb .nil pass0 p1).run pins s σ H Q I ?_
    have := core σ H Q h
    obtain ⟨w, env, e, sm, hB, er, po⟩ := this
    subst e
    rw [evEs] at po
    exact po w [] rfl (Nx.refl sm) .nil
  | cons e es =>
    cases as with
    | nil => cases hm
    | cons a r =>
    have hm' := hm
    simp only [mEs, Bool.and_eq_true] at hm'
    exact (pe_imp (pe_call F hr hg hmg hk hb .nil pass0 ha p1 (star_each hm'.1.1) (mEs_star hm'.2)) core).run pins s σ H Q I h
theorem c_new (g : Gd L T call new X N sc) {f : String} {x : Str} {as : MEs} {es : List Expr} {p : Pos} (h1 : x = S f) (h2 : glB sc.v x = true) (h3 : plainB x = true) (hm : mEs N sc as es = true) (ha : PA X es (rEs L T call new B as)) : PR L T call new B X (.new f as) (.Call (.Name x p) es [] pos) := by
  subst h1
  obtain ⟨p1, p2, p3⟩ := plain_of h3
  have hg : Gl X (S f) := by
    show X.env.scope.names.lookup (S f) = _
    rw [g.hv]; exact gl_of h2
  refine ⟨fun pins s σ H Q I h => ?_⟩
  have hw := h
  obtain ⟨w, env, _, _, _, _, po⟩ := hw
  rw [evE] at po
  obtain ⟨a, h', e⟩ := po.there
  obtain ⟨vs, h1, e1, e2⟩ := bnd_there e
  obtain ⟨⟨k, ⟨C, fI, fd, ps, fl, hcl, hmg, T1, iC, tI, F, hb, no⟩, hr⟩, hlen, _, _⟩ := g.newF f vs h1 a h' e2
  have core : ∀ σ H Q, rE L T call new B (.new f as) σ H Q → rEs L T call new B as σ H fun vs H1 => vs.length ≤ 1000 ∧ ∀ a, H1 a = none → spXD L.K fl (.ref a :: vs) (upd H1 a (exo a C none)) (fun v H2 => v = .non ∧ Q (.ref a) H2) (fun _ _ _ => False) := fun σ H Q h => by
    refine many (R' := fun vs H1 => vs.length ≤ 1000 ∧ ∀ a, H1 a = none → spXD L.K fl (.ref a :: vs) (upd H1 a (exo a C none)) (fun v H2 => v = .non ∧ Q (.ref a) H2) (fun _ _ _ => False)) shRV (tR_unf (fun σ => by rw [evE] <;> rfl) h) fun w env vs ys sm hB er rs po => ?_
    obtain ⟨a, h', e⟩ := po.there
    obtain ⟨_, hl, ea, eh⟩ := g.newF f vs w.h a h' e
    subst ea eh
    rw [e] at po
    have ll : ys.length = 1 := rs.length.symm.trans hl
    obtain ⟨y, rfl⟩ : ∃ y, ys = [y] := by
      cases ys with
      | nil => cases ll
      | cons y r => cases r with
        | nil => exact ⟨y, rfl⟩
        | cons _ _ => simp at ll
    refine ⟨by show 1 ≤ 1000; decide, fun a ha0 => ⟨a, C, y, rfl, T1, no, upd_same, fun d hd hda => ⟨rfl, ?_⟩⟩⟩
    rw [upd_ne hda] at hd
    have n1 : Nx L B w ⟨upd w.G d (exd d [(fl, y)]), w.i, w.h, upd w.H d (exd d [(fl, y)])⟩ := Nx.freeze sm hd
    have n2 : Nx L B _ ⟨upd (upd w.G d (exd d [(fl, y)])) a (exo a C (some d)), w.i, w.h, upd (upd w.H d (exd d [(fl, y)])) a (exo a C (some d))⟩ := Nx.freeze n1.sm (p := a) (by show upd w.H d _ a = none; rw [upd_ne (Ne.symm hda)]; exact ha0)
    have eH : upd (upd (upd w.H a (exo a C none)) d (exd d [(fl, y)])) a (exo a C (some d)) = upd (upd w.H d (exd d [(fl, y)])) a (exo a C (some d)) := by
      funext b
      by_cases h1 : b = a
      · rw [h1, upd_same, upd_same]
      · rw [upd_ne h1, upd_ne h1]
        by_cases h2 : b = d
        · rw [h2, upd_same, upd_same]
        · rw [upd_ne h2, upd_ne h2, upd_ne h1]
    rw [eH]
    refine po ⟨upd (upd w.G d (exd d [(fl, y)])) a (exo a C (some d)), w.i, w.h, upd (upd w.H d (exd d [(fl, y)])) a (exo a C (some d))⟩ (.ref a) rfl (n1.trans sm n2) (VR.d (.exc (fs := [(fl, y)]) hcl upd_same ?_))
    exact (upd_ne hda).trans upd_same
  rw [g.hK] at T1 iC tI F hb core
  rw [g.hmg] at F hmg
  cases es with
  | nil =>
    cases as with
    | cons a r => cases hm
    | nil =>
    rw [evEs] at e1
    cases e1
    cases hlen
  | cons e es =>
    cases as with
    | nil => cases hm
    | cons a r =>
    have hm' := hm
    simp only [mEs, Bool.and_eq_true] at hm'
    exact (pe_imp (pe_mkX T1 iC tI F hr hb pass0 hg hmg ha p1 (star_each hm'.1.1) (mEs_star hm'.2)) core).run pins s σ H Q I h
theorem c_metB (g : Gd L T call new X N sc) {Tn id m : String} {o : ME} {as : MEs} {oe : Expr} {es : List Expr} {apos cpos : Pos} (pa : PlainAttrs Tn) (slot : Slot Tn (S m) id) (hty : typeOf (.builtin id) = pure (.type "method_descriptor"))
    (hmt : MtR X id (rMet L B m)) (ht : metTy m = Tn) (hs : noSuper oe = true) (hl : (apos.endLine == cpos.line) = true) (hm : mEs N sc as es = true) (hlen : es.length < 30)
    (ho : PR L T call new B X o oe) (ha : PA X es (rEs L T call new B as)) : PR L T call new B X (.met o m as) (.Call (.Attribute oe (S m) apos) es [] cpos) := by
  have core : ∀ σ H Q, rE L T call new B (.met o m as) σ H Q → rV L T call new B o σ H fun x H1 => tyV X.K Tn x H1 ∧ rEs L T call new B as σ H1 fun xs H2 => rMet L B m x xs H2 Q := fun σ H Q h => by
    refine one (R' := fun x H1 => tyV X.K Tn x H1 ∧ rEs L T call new B as σ H1 fun xs H2 => rMet L B m x xs H2 Q) shRV (tR_unf (fun σ => by rw [evE] <;> rfl) h) fun w env vx x sm hB er rx po => ?_
    split at po
    · rename_i hh
      refine ⟨hasTy_r sm g.hK rx (ht ▸ hh), w, env, rfl, sm, hB, er, po.bnd fun vs w1 xs e1 n1 r1 q1 => ?_⟩
      exact ⟨w1, vx, vs, rfl, n1.sm, n1.b hB, n1.v rx, r1, q1.from shRV sm n1⟩
    · exact po.elim
  cases es with
  | nil =>
    cases as with
    | cons a r => cases hm
    | nil =>
    refine pe_imp (pe_bm0 pa slot hty hmt (sV ho) (lam_super hs _ _) hl) fun σ H Q h => ?_
    obtain ⟨w, env, e, sm, hB, er, po⟩ := core σ H Q h
    refine ⟨w, env, e, sm, hB, er, po.imp fun x H1 ⟨q1, w2, env2, e2, sm2, hB2, er2, po2⟩ => ⟨q1, ?_⟩⟩
    subst e2
    rw [evEs] at po2
    exact po2 w2 [] rfl (Nx.refl sm2) .nil
  | cons e es => exact pe_imp (pe_metB pa slot hty hmt (sV ho) hs hl ha hm hlen) core
theorem c_met (g : Gd L T call new X N sc) {m : String} {o : ME} {as : MEs} {oe : Expr} {es : List Expr} {apos cpos : Pos} (hs : noSuper oe = true) (hl : (apos.endLine == cpos.line) = true) (hm : mEs N sc as es = true) (hlen : es.length < 30)
    (ho : PR L T call new B X o oe) (ha : PA X es (rEs L T call new B as)) : PR L T call new B X (.met o m as) (.Call (.Attribute oe (S m) apos) es [] cpos) := by
  by_cases h1 : m = "append"
  · subst h1
    exact c_metB g PySem.F.plainAttrs_list PySem.F.slot_list_append PySem.F.type_list_append append_ok (by decide) hs hl hm hlen ho ha
  by_cases h2 : m = "join"
  · subst h2
    exact c_metB g F.plainAttrs_str F.slot_str_join F.type_str_join (join_ok g.hK) (by decide) hs hl hm hlen ho ha
  refine ⟨fun pins s σ H Q I h => ?_⟩
  obtain ⟨w, env, _, _, _, _, po⟩ := h
  rw [evE] at po
  obtain ⟨a, h', e⟩ := po.there
  obtain ⟨vx, h3, e1, e2⟩ := bnd_there e
  split at e2
  · obtain ⟨vs, h4, e3, e4⟩ := bnd_there e2
    unfold metM at e4
    rw [if_neg h1] at e4
    have : ∀ d ds, metD d m ds = none := fun d ds => by
      unfold metD
      split <;> first | rfl | (exfalso; apply h2; rfl)
    split at e4
    · rw [this] at e4; cases e4
    · cases e4
  · cases e2

/-! ### blocks -/
theorem relS_local {scope sc : Scope} {x : Str} : ∀ {l : List (Str × NameKind)}, l.lookup x = some .local → (l.map fun (n, k) => if (k == .free && sc.kind == .function && sc.names.lookup n == some .cell) then (n, .cell) else (n, k)).lookup x = some NameKind.local
  | [], h => by cases h
  | (n, k) :: r, h => by
    rw [List.lookup_cons] at h
    rw [List.map_cons]
    cases e : (x == n) with
    | true =>
      rw [e] at h
      cases h
      show List.lookup x ((n, NameKind.local) :: _) = _
      rw [List.lookup_cons, e]
    | false =>
      rw [e] at h
      have ih := relS_local (scope := scope) (sc := sc) (l := r) h
      have one : ∀ k' : NameKind, List.lookup x ((n, k') :: (r.map fun (n, k) => if (k == .free && sc.kind == .function && sc.names.lookup n == some .cell) then (n, .cell) else (n, k))) = some NameKind.local := fun k' => by
        rw [List.lookup_cons, e]; exact ih
      by_cases q : (k == .free && sc.kind == .function && sc.names.lookup n == some .cell) = true
      · dsimp only
        rw [if_pos q]; exact one _
      · dsimp only
        rw [if_neg q]; exact one _
theorem Gd.blk (g : Gd L T call new X N sc) (s : Shared) (H : Hp) (scope : Scope) (cl : List (Str × Addr)) (C : Addr) (fp : List Addr) : Gd L T call new (X.blk s H scope (compEnvC scope cl C X.env) fp) N ⟨relS scope sc.v, scope⟩ where
  hN := g.hN
  nd := g.nd
  hv := by
    show relS scope X.env.scope = relS scope sc.v
    rw [g.hv]
  fn := fun x h => by
    show (scope.names.lookup x == some .cell) = true ∨ (relS scope X.env.scope).names.lookup x = some .local
    unfold locB at h
    split at h
    · rename_i q
      exact .inr (relS_local (scope := scope) q)
    · rename_i q
      left
      rw [q]; rfl
    · cases h
  hK := g.hK
  hmg := g.hmg
  calm := g.calm
  un := g.un
  ok := g.ok
  callF := g.callF
  newF := g.newF
end
end Mi

set_option Elab.async false
set_option linter.all false
set_option maxRecDepth 100000
set_option maxHeartbeats 4000000
/-! Mini 10: walks, targets, comprehensions. -/
namespace Mi
open PySem L2
section
variable {L : Lk} {T : Tb} {call new : String → List Val → Mo RV} {B : Nat} {X : Cx} {N : List Str} {sc : Sco} {pos : Pos}
theorem pi_imp {tg e : Expr} {t t' : TI} (h : PI X tg e t) (k : ∀ σ H R, t' σ H R → t σ H R) : PI X tg e t' := ⟨fun pins s σ H R I q => h.run pins s σ H R I (k _ _ _ q)⟩
theorem c_ival (g : Gd L T call new X N sc) {tg e : Expr} {m : ME} (h : PR L T call new B X m e) : PI X tg e (rI L T call new B (.val m)) := by
  refine pi_imp (pi_valB (sV h)) fun σ H R q => ?_
  refine one (f := fun _ x h => match walkW h x with
    | some k => .ok k h
    | none => .bad) (R' := fun x H1 => (∃ a xs, x = .ref a ∧ SqL X.K H1 a xs ∧ R (Itl X.K a) H1) ∨ (∃ a xs, x = .ref a ∧ SqT X.K H1 a xs ∧ R (Itt X.K a) H1) ∨ ∃ z, x = .str z ∧ R (Its z) H1) shWk (tR_unf (fun σ => by rw [evI] <;> rfl) q) fun w env vx x sm hB er rx po => ?_
  cases e : walkW w.h vx with
  | none => simp only [e] at po; exact po.elim
  | some k =>
    simp only [e] at po
    exact walk_r (w0 := w) g.hK sm rx e hB fun J hJ => po w J rfl (Nx.refl sm) hJ
def MEs.len : MEs → Nat
  | .nil => 0
  | .cons _ r => r.len + 1
theorem evEs_len : ∀ (as : MEs) (σ : Sl) (h h' : Hm) (vs : List Val), evEs T call new B as σ h = .ok vs h' → vs.length = as.len
  | .nil, σ, h, h', vs, e => by rw [evEs] at e; cases e; rfl
  | .cons a r, σ, h, h', vs, e => by
    rw [evEs] at e
    obtain ⟨x, h1, e1, e2⟩ := bnd_there e
    obtain ⟨xs, h2, e3, e4⟩ := bnd_there e2
    cases e4
    show xs.length + 1 = r.len + 1
    rw [evEs_len r σ _ _ _ e3]
theorem mEs_len : ∀ {as : MEs} {es : List Expr}, mEs N sc as es = true → es.length = as.len
  | .nil, [], _ => rfl
  | .cons a r, e :: es, h => by
    simp only [mEs, Bool.and_eq_true] at h
    show es.length + 1 = r.len + 1
    rw [mEs_len h.2]
  | .nil, e :: es, h => by simp [mEs] at h
  | .cons a r, [], h => by simp [mEs] at h
theorem vrl_map {w : Wd} {vs : List Val} {xs : List V} (r : wVL L w vs xs) : vs.length = xs.length := r.length
theorem rangeW_some {vs : List Val} {k : Wk} (e : rangeW vs = some k) : (∃ j, vs = [.d (.int j)] ∧ (-(2 ^ 62) ≤ j ∧ j < 2 ^ 62) ∧ k = .fix (rangeV 0 j.toNat)) ∨ ∃ i j, vs = [.d (.int i), .d (.int j)] ∧ (-(2 ^ 62) ≤ i ∧ i < 2 ^ 62 ∧ -(2 ^ 62) ≤ j ∧ j < 2 ^ 62) ∧ k = .fix (rangeV i (j - i).toNat) := by
  unfold rangeW at e
  split at e
  · split at e
    · rename_i c; cases e; exact .inl ⟨_, rfl, c, rfl⟩
    · cases e
  · split at e
    · rename_i c; cases e; exact .inr ⟨_, _, rfl, c, rfl⟩
    · cases e
  · cases e
theorem c_irange (g : Gd L T call new X N sc) {tg : Expr} {x : Str} {as : MEs} {es : List Expr} {p : Pos} (h1 : x = S "range") (h2 : glB sc.v x = true) (hm : mEs N sc as es = true) (ha : PA X es (rEs L T call new B as)) : PI X tg (.Call (.Name x p) es [] pos) (rI L T call new B (.range as)) := by
  subst h1
  have hg : Gl X "range" := by
    show X.env.scope.names.lookup (S "range") = _
    rw [g.hv]; exact gl_of h2
  have hmg : X.mg "range" = none := by rw [← g.hmg]; exact g.ok.bi "range" (.inr rfl)
  have hlen := mEs_len hm
  -- what comes of the arguments
  have core : ∀ σ H R, rI L T call new B (.range as) σ H R → rEs L T call new B as σ H fun xs H1 => (∃ j : Int, es.length = 1 ∧ xs = [.int j] ∧ (-(2 ^ 62) ≤ j ∧ j < 2 ^ 62) ∧ R (Itr 0 j.toNat) H1) ∨ ∃ i j : Int, es.length = 2 ∧ xs = [.int i, .int j] ∧ (-(2 ^ 62) ≤ i ∧ i < 2 ^ 62 ∧ -(2 ^ 62) ≤ j ∧ j < 2 ^ 62) ∧ R (Itr i (j - i).toNat) H1 := fun σ H R h => by
    obtain ⟨w, env, rfl, sm, hB, er, po⟩ := h
    rw [evI] at po
    refine ⟨w, env, rfl, sm, hB, er, po.bnd fun vs w1 xs e1 n1 r1 q1 => ?_⟩
    replace q1 := q1.from shWk sm n1
    have hl := evEs_len as env _ _ vs e1
    unfold Mo.opt at q1
    cases e : rangeW vs with
    | none => simp only [e] at q1; exact q1.elim
    | some k =>
      simp only [e] at q1
      rcases rangeW_some e with ⟨j, rfl, c, rfl⟩ | ⟨i, j, rfl, c, rfl⟩
      · left
        cases r1 with | cons r1 rr => cases rr; cases r1 with | d r1 => cases r1; exact ⟨j, by rw [hlen, ← hl]; rfl, rfl, c, q1 w1 _ rfl (Nx.refl n1.sm) ⟨_, range_r 0 j.toNat, fixed_range 0 j.toNat⟩⟩
      · right
        cases r1 with
        | cons r1 rr =>
        cases rr with
        | cons r2 rr =>
        cases rr
        cases r1 with
        | d r1 =>
        cases r2 with
        | d r2 =>
        cases r1
        cases r2
        exact ⟨i, j, by rw [hlen, ← hl]; rfl, rfl, c, q1 w1 _ rfl (Nx.refl n1.sm) ⟨_, range_r i (j - i).toNat, fixed_range i (j - i).toNat⟩⟩
  have mono : ∀ {σ : St} {H : Hp} {Q Q' : List V → Hp → Prop}, (∀ xs H, Q xs H → Q' xs H) → rEs L T call new B as σ H Q → rEs L T call new B as σ H Q' := fun k ⟨w, env, e, sm, hB, er, po⟩ => ⟨w, env, e, sm, hB, er, po.imp fun b H q => k b H q⟩
  match es, hm, ha, core with
  | [], hm, ha, core =>
    cases as with
    | cons a r => cases hm
    | nil =>
    refine ⟨fun pins s σ H R I h => ?_⟩
    obtain ⟨w, env, _, _, _, _, po⟩ := h
    rw [evI, evEs] at po
    exact po.elim
  | [a], hm, ha, core =>
    cases as with
    | nil => cases hm
    | cons m r =>
    simp only [mEs, Bool.and_eq_true] at hm
    refine pi_imp (pi_range1 hg hmg ha (star_each hm.1.1)) fun σ H R h => mono (fun xs H q => ?_) (core σ H R h)
    rcases q with ⟨j, _, e, c, q⟩ | ⟨i, j, e, _⟩
    · exact ⟨j, e, c.1, c.2, q⟩
    · cases e
  | [a, b], hm, ha, core =>
    cases as with
    | nil => cases hm
    | cons m r =>
    cases r with
    | nil => simp [mEs] at hm
    | cons m2 r2 =>
    simp only [mEs, Bool.and_eq_true] at hm
    refine pi_imp (pi_range2 hg hmg ha (by rw [star_each hm.1.1, star_each hm.2.1.1]; rfl) (by rw [star_each hm.2.1.1]; rfl)) fun σ H R h => mono (fun xs H q => ?_) (core σ H R h)
    rcases q with ⟨j, e, _⟩ | ⟨i, j, _, e, c, q⟩
    · cases e
    · exact ⟨i, j, e, c, q⟩
  | a :: b :: c :: es, hm, ha, core =>
    refine ⟨fun pins s σ H R I h => ?_⟩
    obtain ⟨w, env, _, _, _, _, po⟩ := h
    rw [evI] at po
    obtain ⟨k, h', e⟩ := po.there
    obtain ⟨vs, h1, e1, e2⟩ := bnd_there e
    have hl := evEs_len as env _ _ vs e1
    unfold Mo.opt at e2
    cases q : rangeW vs with
    | none => simp only [q] at e2; cases e2
    | some k =>
      have hl2 : vs.length = es.length + 3 := by rw [hl, ← hlen]; rfl
      rcases rangeW_some q with ⟨j, rfl, _⟩ | ⟨i, j, rfl, _⟩
      · simp at hl2
      · simp at hl2

/-! ### targets -/
theorem EnvR.set {w : Wd} {env : Sl} {σ : St} (e : EnvR L w env σ) {i : Nat} {v : Val} {x : V} (r : wV L w v x) : EnvR L w (env.set i (some v)) (σ.set i (some x)) := by
  refine ⟨by rw [List.length_set, List.length_set]; exact e.1, fun j u h => ?_⟩
  by_cases q : j = i
  · subst q
    by_cases hl : j < env.length
    · rw [List.getElem?_set_self hl] at h
      cases h
      exact ⟨x, by rw [List.getElem?_set_self (by rw [← e.1]; exact hl)], r⟩
    · rw [List.getElem?_eq_none (by rw [List.length_set]; omega)] at h; cases h
  · rw [List.getElem?_set_ne (Ne.symm q)] at h
    obtain ⟨y, hy, ry⟩ := e.2 j u h
    exact ⟨y, by rw [List.getElem?_set_ne (Ne.symm q)]; exact hy, ry⟩
theorem shG {ns : List Nat} {σ : St} : Shift L B (pG L ns σ) := fun _ _ _ _ _ _ _ h => h
theorem g_name (g : Gd L T call new X N sc) {i : Nat} {x : Str} (h1 : N[i]? = some x) (h2 : locB sc.v x = true) (h3 : locB sc.s x = true) : PG X (.Name x pos) (rG L T call new B (.name i)) := by
  refine pg_imp (pg_name (i := i) g.nd (by rw [g.hN]; exact h1) (by rw [g.hv]; exact loc_of h2) (g.fn x h3)) fun v σ H Q ⟨w, env, vv, e, sm, hB, er, rv, po⟩ => ?_
  subst e
  rw [evG] at po
  split at po
  · refine po w (σ.set i (some v)) rfl (Nx.refl sm) ⟨er.set rv, fun j hj => ?_⟩
    rw [List.getElem?_set_ne (by simp only [MT.slots, List.mem_singleton] at hj; exact fun e => hj e.symm)]
  · exact po.elim
theorem g_sub (g : Gd L T call new X N sc) {o i : ME} {oe ie : Expr} (hs : noSlice ie = true) (ho : PR L T call new B X o oe) (hi : PR L T call new B X i ie) : PG X (.Subscript oe ie pos) (rG L T call new B (.sub o i)) := by
  refine pg_imp (pg_sub (sV ho) (sV hi) (set_ok (L := L) (B := B)) (fun v => by cases ie <;> first | rfl | cases hs)) fun v σ H Q ⟨w, env, vv, e, sm, hB, er, rv, po⟩ => ?_
  subst e
  rw [evG] at po
  refine ⟨w, env, rfl, sm, hB, er, po.bnd fun vo w1 ox e1 n1 r1 q1 => ?_⟩
  replace q1 := q1.from shG sm n1
  refine ⟨w1, env, rfl, n1.sm, n1.b hB, er.nx n1, q1.bnd fun vi w2 ix e2 n2 r2 q2 => ?_⟩
  replace q2 := q2.from shG n1.sm n2
  split at q2
  · rename_i d
    cases r2 with
    | d r2 =>
    refine ⟨w2, vo, vv, d, rfl, n2.sm, n2.v r1, r2, n2.v (n1.v rv), ?_⟩
    refine (q2.bnd (P := fun _ _ (_ : Unit) (_ : Unit) => True) fun u w3 _ e3 n3 _ q3 => ?_)
    exact q3 w3 σ rfl (by exact n3) ⟨((er.nx n1).nx n2).nx n3, fun _ _ => rfl⟩
  · exact q2.elim
theorem assign_len {env : Env} : ∀ {ts : MTs} {es : List Expr}, mTs N sc ts es = true → (assignEach es env).findIdx? (·.1) = none ∧ (assignEach es env).length = ts.len
  | .nil, [], _ => ⟨rfl, rfl⟩
  | .cons a r, e :: es, h => by
    simp only [mTs, Bool.and_eq_true] at h
    obtain ⟨h1, h2⟩ := assign_len (env := env) h.2
    rw [star_asg h.1.1]
    exact ⟨by rw [List.findIdx?_cons]; simp only [h1]; rfl, by rw [List.length_cons, h2]; rfl⟩
  | .nil, e :: es, h => by simp [mTs] at h
  | .cons a r, [], h => by simp [mTs] at h
mutual
theorem evG_len : ∀ (t : MT) (v : Val) (σ : Sl) (h h' : Hm) (σ' : Sl), evG T call new B t v σ h = .ok σ' h' → σ'.length = σ.length
  | .name i, v, σ, h, h', σ', e => by
    rw [evG] at e
    split at e
    · cases e; rw [List.length_set]
    · cases e
  | .tup ts, v, σ, h, h', σ', e => by
    rw [evG] at e
    cases q : unTup ts.len v with
    | none => simp only [q] at e; cases e
    | some vs => simp only [q] at e; exact evGs_len ts _ σ h h' σ' e
  | .sub o i, v, σ, h, h', σ', e => by
    rw [evG] at e
    obtain ⟨x, h1, _, e⟩ := bnd_there e
    obtain ⟨y, h2, _, e⟩ := bnd_there e
    split at e
    · obtain ⟨z, h3, _, e⟩ := bnd_there e
      cases e; rfl
    · cases e
  | .att o f, v, σ, h, h', σ', e => by
    rw [evG] at e
    cases e
theorem evGs_len : ∀ (t : MTs) (vs : List Val) (σ : Sl) (h h' : Hm) (σ' : Sl), evGs T call new B t vs σ h = .ok σ' h' → σ'.length = σ.length
  | .nil, [], σ, h, h', σ', e => by rw [evGs] at e; cases e; rfl
  | .cons t r, v :: vs, σ, h, h', σ', e => by
    rw [evGs] at e
    obtain ⟨σ1, h1, e1, e⟩ := bnd_there e
    rw [evGs_len r vs σ1 _ _ _ e, evG_len t v σ _ _ _ e1]
  | .nil, v :: vs, σ, h, h', σ', e => by cases e
  | .cons t r, [], σ, h, h', σ', e => by cases e
end
theorem g_nil : PGs X [] (rGs L T call new B .nil) := by
  refine pgs_imp pgs_nil fun xs σ H Q ⟨w, env, vs, e, sm, hB, er, rv, po⟩ => ?_
  subst e
  cases rv with
  | nil =>
    rw [evGs] at po
    exact ⟨rfl, po w σ rfl (Nx.refl sm) ⟨er, fun _ _ => rfl⟩⟩
  | cons h r => exact po.elim
theorem g_cons {t : MT} {r : MTs} {e : Expr} {es : List Expr} (hs : noStar e = true) (h1 : PG X e (rG L T call new B t)) (h2 : PGs X es (rGs L T call new B r)) : PGs X (e :: es) (rGs L T call new B (.cons t r)) := by
  refine pgs_imp (pgs_cons h1 h2 (by rw [star_asg hs]; rfl)) fun xs σ H Q ⟨w, env, vs, e, sm, hB, er, rv, po⟩ => ?_
  subst e
  cases rv with
  | nil => exact po.elim
  | @cons v x vs xs rv rvs =>
    rw [evGs] at po
    refine ⟨x, xs, rfl, w, env, v, rfl, sm, hB, er, rv, po.bnd fun env1 w1 σ1 e1 n1 p1 q1 => ?_⟩
    refine ⟨w1, env1, vs, rfl, n1.sm, n1.b hB, p1.1, n1.vl rvs, ?_⟩
    refine Po.bnd2 (f := fun e => .ret e) (P' := pG L (MTs.slots (.cons t r)) σ) (Q := Q) (w1 := w) (by
      have : Po L B (pG L (MTs.slots (.cons t r)) σ) w ((evGs T call new B r vs env1).bnd (fun e => .ret e) w1.h) Q := by
        have e2 : (evGs T call new B r vs env1).bnd (fun e => .ret e) w1.h = evGs T call new B r vs env1 w1.h := by
          unfold Mo.bnd
          cases evGs T call new B r vs env1 w1.h <;> rfl
        rw [e2]; exact q1
      exact this) fun env2 w2 σ2 e2 n2 p2 q2 => ?_
    refine q2 w2 σ2 rfl (n1.trans sm n2) ⟨p2.1, fun j hj => ?_⟩
    simp only [MTs.slots, List.mem_append, not_or] at hj
    rw [p2.2 j hj.2, p1.2 j hj.1]
theorem g_tup (g : Gd L T call new X N sc) {ts : MTs} {es : List Expr} {k : Nat} (hm : mTs N sc ts es = true) (h : PGs X es (rGs L T call new B ts)) : PG X (.Tuple es k pos) (rG L T call new B (.tup ts)) := by
  refine pg_imp (pg_tup (n := ts.len) g.calm h (assign_len hm).2 (assign_len hm).1) fun v σ H Q ⟨w, env, vv, e, sm, hB, er, rv, po⟩ => ?_
  subst e
  rw [evG] at po
  have ok : ∀ (a : Addr) (xs : List V) (vs : List Val), v = .ref a → SqT L.K w.G a xs → wVL L w vs xs → vs.length = ts.len → Po L B (pG L (MT.slots (.tup ts)) σ) w (evGs T call new B ts vs env w.h) Q → gTup X.K ts.len (rGs L T call new B ts) v σ w.H Q := by
    rintro a xs vs rfl hq rl hl po
    exact ⟨a, xs, rfl, g.hK ▸ sqT_mono sm.le hq, by rw [← rl.length]; exact hl, w, env, vs, rfl, sm, hB, er, rl, po⟩
  cases rv with
  | ref hi => exact po.elim
  | @tup aa xs vs hq rl =>
    unfold unTup at po
    dsimp only at po
    by_cases hl : vs.length = ts.len
    · simp only [if_pos hl] at po
      exact ok _ _ _ rfl hq rl hl po
    · simp only [if_neg hl] at po
      exact po.elim
  | d rv =>
    cases rv with
    | @tup aa xs ds hq rl =>
      unfold unTup at po
      dsimp only at po
      by_cases hl : ds.length = ts.len
      · simp only [if_pos hl] at po
        exact ok _ _ _ rfl hq (VRL.ofRep rl) (by rw [List.length_map]; exact hl) po
      · simp only [if_neg hl] at po
        exact po.elim
    | non => exact po.elim
    | bl b => exact po.elim
    | int b => exact po.elim
    | str b => exact po.elim
    | lst b c => exact po.elim
    | ty b => exact po.elim
    | cls b => exact po.elim
    | scr b => exact po.elim
    | dicK _ _ _ => exact po.elim
    | dicT _ _ _ => exact po.elim
    | exc _ _ _ => exact po.elim

/-! ### comprehensions -/
theorem wipeS_len (σ : Sl) : ∀ vs : List Nat, (wipeS σ vs).length = σ.length
  | [] => rfl
  | i :: r => by unfold wipeS; rw [List.length_set, wipeS_len σ r]
theorem EnvR.wipe {w : Wd} {env : Sl} {σ : St} (e : EnvR L w env σ) : ∀ vs : List Nat, EnvR L w (wipeS env vs) (L2.wipe σ vs)
  | [] => e
  | i :: r => by
    obtain ⟨h1, h2⟩ := EnvR.wipe e r
    refine ⟨by unfold wipeS L2.wipe; rw [List.length_set, List.length_set]; exact h1, fun j v h => ?_⟩
    unfold wipeS at h
    by_cases q : j = i
    · subst q
      by_cases hl : j < (wipeS env r).length
      · rw [List.getElem?_set_self hl] at h; cases h
      · rw [List.getElem?_eq_none (by rw [List.length_set]; omega)] at h; cases h
    · rw [List.getElem?_set_ne (Ne.symm q)] at h
      unfold L2.wipe
      rw [List.getElem?_set_ne (Ne.symm q)]
      exact h2 j v h
theorem wipe_get (σ : St) (j : Nat) : ∀ vs : List Nat, (L2.wipe σ vs)[j]? = if j ∈ vs then (if j < σ.length then some none else none) else σ[j]?
  | [] => by simp [L2.wipe]
  | v :: vs => by
    unfold L2.wipe
    by_cases q : j = v
    · subst q
      by_cases hl : j < (L2.wipe σ vs).length
      · rw [List.getElem?_set_self hl]
        have hl' : j < σ.length := by rw [← L2.wipe_length σ vs]; exact hl
        simp [hl']
      · rw [List.getElem?_eq_none (by rw [List.length_set]; omega)]
        have hl' : ¬ j < σ.length := by rw [← L2.wipe_length σ vs]; exact hl
        simp [hl']
    · rw [List.getElem?_set_ne (Ne.symm q), wipe_get σ j vs]
      simp [q]
/-- what a target of the block's own names leaves is forgotten -/
theorem wipe_same {σ σ2 : St} {own ns : List Nat} (hl : σ2.length = σ.length) (hs : ∀ j, j ∉ ns → σ2[j]? = (L2.wipe σ own)[j]?) (h : ∀ j ∈ ns, j ∈ own) : L2.wipe σ2 own = L2.wipe σ own := by
  apply List.ext_getElem?
  intro j
  rw [wipe_get, wipe_get]
  by_cases q : j ∈ own
  · rw [if_pos q, if_pos q, hl]
  · rw [if_neg q, if_neg q]
    have := hs j fun z => q (h j z)
    rw [this, wipe_get, if_neg q]
/-- one's own object changed, behind a step -/
theorem Nx.updOwn {w w' : Wd} (x : Nx L B w w') {p : Addr} {o : HO} (h0 : w.H p = Option.none) (hg : w'.G p = Option.none) (hn : ∀ i, i < w'.n → w'.i i ≠ p) : Nx L B w ⟨w'.G, w'.i, w'.h, upd w'.H p o⟩ :=
  ⟨x.sm.own hg hn, x.le, x.same, x.len, fun a u e q => by
    show upd w'.H p o a = some u
    rw [upd_ne (ne_of_none e h0)]; exact x.keep a u e q, x.fresh, x.gnew, x.bd⟩

/-- a turn of a comprehension -/
def lcStep (T : Tb) (call new : String → List Val → Mo RV) (B : Nat) (elt : ME) (tg : MT) (ifs : MO) (σ0 : Sl) : Val → Mo (Option Val) := fun v =>
  (evG T call new B tg v σ0).bnd fun σ1 => (evO T call new B ifs σ1).bnd fun b => if b then (evV T call new B elt σ1).bnd fun x => .ret (some x) else .ret none
section
variable {elt : ME} {tg : MT} {ifs : MO} {own : List Nat} {D : Addr} {w1 w2 : Wd} {Q : VK} {env : Sl} {σ : St}
/-- one turn: what is due at the next one is reached -/
theorem lc_turn {K : Option Val → Mo RV} {v : Val} {x : V} {acc : List Val} {accV : List V} {Nxt : Hp → Prop} (hsl : ∀ j ∈ tg.slots, j ∈ own)
    (s1 : Sm L w1) (hB1 : B ≤ w1.n) (hD : w1.H D = none) (n2 : Nx L B w1 w2) (er : EnvR L w1 env σ) (hDa : w2.H D = some (.lst accV)) (hDg : w2.G D = none) (hDn : ∀ i, i < w2.n → w2.i i ≠ D) (ra : wVL L w2 acc accV) (rv : wV L w2 v x)
    (po : Po L B (pRV L) w1 (((lcStep T call new B elt tg ifs (wipeS env own) v).bnd K) w2.h) Q)
    (kn : ∀ w3 : Wd, Nx L B w1 w3 → w3.H D = some (.lst accV) → w3.G D = none → (∀ i, i < w3.n → w3.i i ≠ D) → wVL L w3 acc accV → Po L B (pRV L) w1 (K none w3.h) Q → Nxt w3.H)
    (ks : ∀ (w3 : Wd) (u : Val) (y : V), Nx L B w1 w3 → w3.H D = some (.lst accV) → w3.G D = none → (∀ i, i < w3.n → w3.i i ≠ D) → wVL L w3 acc accV → wV L w3 u y → Po L B (pRV L) w1 (K (some u) w3.h) Q → accV.length < sizeLine ∧ Nxt (upd w3.H D (.lst (accV ++ [y])))) :
    rG L T call new B tg x (L2.wipe σ own) w2.H fun σ2 H2 => L2.wipe σ2 own = L2.wipe σ own ∧ rO L T call new B ifs σ2 H2 fun b H3 =>
      if b = true then rV L T call new B elt σ2 H3 fun y H4 => ∃ acc, H4 D = some (.lst acc) ∧ acc.length < sizeLine ∧ Nxt (upd H4 D (.lst (acc ++ [y]))) else Nxt H3 := by
  unfold lcStep at po
  rw [Mo.assoc] at po
  refine ⟨w2, wipeS env own, v, rfl, n2.sm, n2.b hB1, (er.nx n2).wipe own, rv, po.bnd2 fun σ1 w3 σ2 e3 n3 pg q3 => ?_⟩
  refine ⟨wipe_same ?_ pg.2 hsl, ?_⟩
  · have h1 := pg.1.1
    have h2 : σ1.length = (wipeS env own).length := evG_len _ _ _ _ _ _ e3
    rw [← h1, h2, wipeS_len]; exact er.1
  rw [Mo.assoc] at q3
  refine ⟨w3, σ1, rfl, n3.sm, n3.b (n2.b hB1), pg.1, q3.bnd2 fun b w4 b' e4 n4 rb q4 => ?_⟩
  cases (show b = b' from rb)
  have n24 := n3.trans n2.sm n4
  cases b with
  | false =>
    rw [if_neg Bool.false_ne_true]
    exact kn w4 (n2.trans s1 n24) (n24.kept hDa hDn) (n24.gkept hDa hDg) (n24.nplace hDa hDn) (n24.vl ra) q4
  | true =>
    rw [if_pos rfl]
    rw [if_pos rfl, Mo.assoc] at q4
    refine ⟨w4, σ1, rfl, n4.sm, n4.b (n3.b (n2.b hB1)), pg.1.nx n4, q4.bnd2 fun u w5 y e5 n5 ru q5 => ?_⟩
    have n25 := n24.trans n2.sm n5
    exact ⟨accV, n25.kept hDa hDn, ks w5 u y (n2.trans s1 n25) (n25.kept hDa hDn) (n25.gkept hDa hDg) (n25.nplace hDa hDn) (n25.vl ra) ru q5⟩
end
end
end Mi

set_option Elab.async false
set_option linter.all false
set_option maxRecDepth 100000
set_option maxHeartbeats 4000000
/-! Mini 11: comprehensions whole; every expression. -/
namespace Mi
open PySem L2
section
variable {L : Lk} {T : Tb} {call new : String → List Val → Mo RV} {B : Nat} {X : Cx} {N : List Str} {sc : Sco} {pos : Pos}
def lcW (step : Val → Mo (Option Val)) : Wk → Mo (List Val)
  | .fix vs => lcF step vs []
  | .cell i => lcC i step lineN 0 []
def ownL (acc : List Val) : Mo RV := .ret (.own (.lst acc))
theorem lc_core' {elt : ME} {tg : MT} {it : MI} {ifs : MO} {own : List (String × Nat)} {σ : St} {H : Hp} {Q : VK} (hsl : ∀ j ∈ tg.slots, j ∈ own.map Prod.snd) (h : rE L T call new B (.lc elt tg it ifs own) σ H Q) :
    tLc (rI L T call new B it) (rG L T call new B tg) (rO L T call new B ifs) (rV L T call new B elt) (own.map Prod.snd) σ H Q := by
  obtain ⟨w, env, rfl, sm, hB, er, po⟩ := h
  have po' : Po L B (pRV L) w (((evI T call new B it env).bnd fun k => (lcW (lcStep T call new B elt tg ifs (wipeS env (own.map Prod.snd))) k).bnd ownL) w.h) Q := by
    rw [evE] at po; exact po
  refine ⟨w, env, rfl, sm, hB, er, po'.bnd fun k w1 J e1 n1 pw q1 => ?_⟩
  replace q1 := q1.from shRV sm n1
  intro D hD
  have s1 := n1.sm
  have hB1 := n1.b hB
  have er1 := er.nx n1
  -- the end: the list is handed on
  have fin : ∀ (w2 : Wd) (acc : List Val) (accV : List V), Nx L B w1 w2 → w2.H D = some (.lst accV) → w2.G D = none → (∀ i, i < w2.n → w2.i i ≠ D) → wVL L w2 acc accV → Po L B (pRV L) w1 (.ok (.own (.lst acc)) w2.h) Q → Q (.ref D) w2.H :=
    fun w2 acc accV n2 h1 h2 h3 ra po => po w2 (.ref D) rfl n2 ⟨D, .lst accV, rfl, h1, .lst ra, h2, h3, hD⟩
  have n0 : Nx L B w1 ⟨w1.G, w1.i, w1.h, upd w1.H D (.lst [])⟩ := Nx.laid s1 hD
  cases k with
  | fix vs =>
    obtain ⟨xs, rx, fx⟩ := pw
    refine ⟨fun i m H => m = xs.length - i ∧ i ≤ xs.length ∧ ∃ (w2 : Wd) (acc : List Val) (accV : List V), w2.H = H ∧ Nx L B w1 w2 ∧ w2.H D = some (.lst accV) ∧ w2.G D = none ∧ (∀ i, i < w2.n → w2.i i ≠ D) ∧ wVL L w2 acc accV ∧
      Po L B (pRV L) w1 (((lcF (lcStep T call new B elt tg ifs (wipeS env (own.map Prod.snd))) (vs.drop i) acc).bnd ownL) w2.h) Q, ⟨xs.length, by simp, Nat.zero_le _, ⟨w1.G, w1.i, w1.h, upd w1.H D (.lst [])⟩, [], [], rfl, n0, upd_same, s1.gnone hD, s1.ne hD, .nil, q1⟩, ?_⟩
    rintro i m H ⟨rfl, hi, w2, acc, accV, rfl, n2, hDa, hDg, hDn, ra, po2⟩
    obtain ⟨f1, f2, f3⟩ := fx w2 n2 i
    by_cases hlt : i < xs.length
    · right
      refine ⟨f2 hlt, fun H' => i + 1 ≤ xs.length ∧ ∃ (w2 : Wd) (acc : List Val) (accV : List V), w2.H = H' ∧ Nx L B w1 w2 ∧ w2.H D = some (.lst accV) ∧ w2.G D = none ∧ (∀ i, i < w2.n → w2.i i ≠ D) ∧ wVL L w2 acc accV ∧
        Po L B (pRV L) w1 (((lcF (lcStep T call new B elt tg ifs (wipeS env (own.map Prod.snd))) (vs.drop (i + 1)) acc).bnd ownL) w2.h) Q, fun H' h => ⟨xs.length - (i + 1), by omega, rfl, h.1, h.2⟩, fun x H' y => ?_⟩
      obtain ⟨rfl, hx⟩ := f3 x H' hlt y
      obtain ⟨v, hv, rv⟩ := rx.getV hx
      have hd : vs.drop i = v :: vs.drop (i + 1) := by
        obtain ⟨hlv, ev⟩ := List.getElem?_eq_some_iff.mp hv
        rw [List.drop_eq_getElem_cons hlv, ev]
      rw [hd] at po2
      have po3 : Po L B (pRV L) w1 (((lcStep T call new B elt tg ifs (wipeS env (own.map Prod.snd)) v).bnd fun o => (match o with
        | some x => if acc.length < lineN then lcF (lcStep T call new B elt tg ifs (wipeS env (own.map Prod.snd))) (vs.drop (i + 1)) (acc ++ [x]) else .fail
        | none => lcF (lcStep T call new B elt tg ifs (wipeS env (own.map Prod.snd))) (vs.drop (i + 1)) acc).bnd ownL) w2.h) Q := by
        rw [lcF, Mo.assoc] at po2; exact po2
      refine lc_turn hsl s1 hB1 hD n2 er1 hDa hDg hDn ra (n2.v rv) po3 (fun w3 n3 h1 h2 h3 ra3 q3 => ⟨hlt, w3, acc, accV, rfl, n3, h1, h2, h3, ra3, q3⟩) fun w3 u y n3 h1 h2 h3 ra3 ru q3 => ?_
      dsimp only at q3
      split at q3
      · rename_i hl
        refine ⟨by rw [line_eq, ← ra3.length]; exact hl, hlt, ⟨w3.G, w3.i, w3.h, upd w3.H D (.lst (accV ++ [y]))⟩, acc ++ [u], accV ++ [y], rfl, n3.updOwn hD h2 h3, upd_same, h2, h3, ra3.append (.cons ru .nil), q3⟩
      · exact q3.elim
    · left
      have he : i = xs.length := by omega
      subst he
      refine ⟨f1 (Nat.le_refl _), ?_⟩
      rw [show vs.drop xs.length = [] from by rw [← rx.length]; exact List.drop_length] at po2
      exact fin w2 acc accV n2 hDa hDg hDn ra po2
  | cell i0 =>
    obtain ⟨hi0, rfl⟩ := pw
    refine ⟨fun i m H => ∃ (w2 : Wd) (acc : List Val) (accV : List V), w2.H = H ∧ Nx L B w1 w2 ∧ w2.H D = some (.lst accV) ∧ w2.G D = none ∧ (∀ i, i < w2.n → w2.i i ≠ D) ∧ wVL L w2 acc accV ∧
      Po L B (pRV L) w1 (((lcC i0 (lcStep T call new B elt tg ifs (wipeS env (own.map Prod.snd))) m i acc).bnd ownL) w2.h) Q, ⟨lineN, ⟨w1.G, w1.i, w1.h, upd w1.H D (.lst [])⟩, [], [], rfl, n0, upd_same, s1.gnone hD, s1.ne hD, .nil, q1⟩, ?_⟩
    rintro i m H ⟨w2, acc, accV, rfl, n2, hDa, hDg, hDn, ra, po2⟩
    cases m with
    | zero => exact po2.elim
    | succ m =>
      have hi2 : i0 < w2.n := Nat.lt_of_lt_of_le hi0 n2.len
      obtain ⟨c, hc⟩ : ∃ c, w2.h[i0]? = some c := ⟨_, List.getElem?_eq_getElem hi2⟩
      obtain ⟨o, ho, rc⟩ := n2.sm.cell i0 c hc
      rw [n2.same i0 hi0] at ho
      have isL : ∃ vs, c = .lst vs := by
        cases c with
        | lst vs => exact ⟨vs, rfl⟩
        | dicK _ => exfalso; unfold Mo.bnd at po2; rw [lcC] at po2; simp only [hc] at po2; exact po2
        | dicT _ => exfalso; unfold Mo.bnd at po2; rw [lcC] at po2; simp only [hc] at po2; exact po2
        | ins _ _ => exfalso; unfold Mo.bnd at po2; rw [lcC] at po2; simp only [hc] at po2; exact po2
      obtain ⟨vs, rfl⟩ := isL
      cases rc with
      | @lst vs xs rl =>
      have e0 : ∀ K, ((lcC i0 (lcStep T call new B elt tg ifs (wipeS env (own.map Prod.snd))) (m + 1) i acc).bnd K : Mo RV) w2.h = (match vs[i]? with
          | none => K acc w2.h
          | some v => ((lcStep T call new B elt tg ifs (wipeS env (own.map Prod.snd)) v).bnd fun o => (match o with
            | some x => if acc.length < lineN then lcC i0 (lcStep T call new B elt tg ifs (wipeS env (own.map Prod.snd))) m (i + 1) (acc ++ [x]) else .fail
            | none => lcC i0 (lcStep T call new B elt tg ifs (wipeS env (own.map Prod.snd))) m (i + 1) acc).bnd K) w2.h) := fun K => by
        conv => lhs; unfold Mo.bnd; rw [lcC]; simp only [hc]
        cases vs[i]? with
        | none => rfl
        | some v => exact congrFun (Mo.assoc _ _ _) w2.h
      rw [e0] at po2
      cases hv : vs[i]? with
      | none =>
        left
        rw [hv] at po2
        have hl : xs.length ≤ i := by rw [← rl.length]; exact List.getElem?_eq_none_iff.mp hv
        exact ⟨⟨xs, SqL.of ho, hl⟩, fin w2 acc accV n2 hDa hDg hDn ra po2⟩
      | some v =>
        right
        rw [hv] at po2
        obtain ⟨x, hx, rv⟩ := rl.get hv
        refine ⟨⟨xs, x, SqL.of ho, hx⟩, fun H' => ∃ (w2 : Wd) (acc : List Val) (accV : List V), w2.H = H' ∧ Nx L B w1 w2 ∧ w2.H D = some (.lst accV) ∧ w2.G D = none ∧ (∀ i, i < w2.n → w2.i i ≠ D) ∧ wVL L w2 acc accV ∧
          Po L B (pRV L) w1 (((lcC i0 (lcStep T call new B elt tg ifs (wipeS env (own.map Prod.snd))) m (i + 1) acc).bnd ownL) w2.h) Q, fun H' h => ⟨m, Nat.lt_succ_self _, h⟩, fun x' H' y => ?_⟩
        obtain ⟨rfl, hy⟩ := y
        have := hy xs (SqL.of ho)
        rw [hx] at this
        cases this
        refine lc_turn hsl s1 hB1 hD n2 er1 hDa hDg hDn ra rv po2 (fun w3 n3 h1 h2 h3 ra3 q3 => ⟨w3, acc, accV, rfl, n3, h1, h2, h3, ra3, q3⟩) fun w3 u y n3 h1 h2 h3 ra3 ru q3 => ?_
        dsimp only at q3
        split at q3
        · rename_i hl
          refine ⟨by rw [line_eq, ← ra3.length]; exact hl, ⟨w3.G, w3.i, w3.h, upd w3.H D (.lst (accV ++ [y]))⟩, acc ++ [u], accV ++ [y], rfl, n3.updOwn hD h2 h3, upd_same, h2, h3, ra3.append (.cons ru .nil), q3⟩
        · exact q3.elim
end
end Mi

set_option Elab.async false
set_option linter.all false
set_option maxRecDepth 100000
set_option maxHeartbeats 8000000
/-! Mini 12: every expression that matches. -/
namespace Mi
open PySem L2
section
variable {L : Lk} {T : Tb} {call new : String → List Val → Mo RV} {B : Nat} {X : Cx} {N : List Str} {sc : Sco} {pos : Pos}
/-- what is shown of an expression: as a value, as a test -/
structure Good (L : Lk) (T : Tb) (call new : String → List Val → Mo RV) (B : Nat) (X : Cx) (m : ME) (e : Expr) : Prop where
  v : PR L T call new B X m e
  t : PT X e (rT L T call new B m)
  w : ∀ op vals pos, e = .BoolOp op vals pos → PW X e (rT L T call new B m)
theorem Good.of (g : Gd L T call new X N sc) {m : ME} {e : Expr} (h : PR L T call new B X m e) (he : ∀ whole, isTrue e X.env whole = (do let v ← whole; standAt e.pos; holding [v] (truthy v))) (hb : ∀ op vals pos, e ≠ .BoolOp op vals pos) : Good L T call new B X m e :=
  ⟨h, t_plain g h he, fun op vals pos z => (hb op vals pos z).elim⟩
theorem Good.ofT {m : ME} {e : Expr} (h : PR L T call new B X m e) (ht : PT X e (rT L T call new B m)) (hb : ∀ op vals pos, e ≠ .BoolOp op vals pos) : Good L T call new B X m e := ⟨h, ht, fun op vals pos z => (hb op vals pos z).elim⟩
theorem pt_imp {e : Expr} {t t' : TT} (h : PT X e t) (k : ∀ σ H Q, t' σ H Q → t σ H Q) : PT X e t' := ⟨fun pins s σ H Q I q => h.run pins s σ H Q I (k _ _ _ q)⟩
/-- a test's tree over the interpreter's: the value's truth -/
theorem tst {α : Type} {c : Sl → Mo α} {f : α → Mo RV} {σ : St} {H : Hp} {Q : Bool → Hp → Prop} {m : ME} (e : ∀ σ, evE T call new B m σ = (c σ).bnd f) (h : rT L T call new B m σ H Q) :
    tR L B pB (fun σ => (c σ).bnd fun a => (vOf (f a)).bnd truM) σ H Q := by
  refine tR_unf (fun σ => ?_) h
  show tOf (evE T call new B m σ) = _
  rw [e]
  unfold tOf vOf
  rw [Mo.assoc, Mo.assoc]
  congr 1
  funext a
  rw [Mo.assoc]
theorem blOk {w : Wd} {b : Bool} {Q : Bool → Hp → Prop} (po : Po L B pB w (((vOf (.ret (.v (.d (.bl b))))).bnd truM) w.h) Q) (sm : Sm L w) : Q b w.H := po w b rfl (Nx.refl sm) rfl
theorem tt_not {a : ME} {e : Expr} (ha : PT X e (rT L T call new B a)) : PT X (.UnaryOp .Not e pos) (rT L T call new B (.not a)) := by
  refine pt_imp (pt_not ha) fun σ H Q h => ?_
  have h2 := tst (m := .not a) (c := fun σ => evT T call new B a σ) (f := fun b => .ret (.v (.d (.bl (!b))))) (fun σ => by rw [evE] <;> rfl) h
  exact test (R' := fun k H1 => Q (!k) H1) shB h2 fun w env c sm hB er po => blOk po sm
theorem cmp_eq {o : Cmp} {a b : ME} (σ : Sl) : evE T call new B (.cmp o a b) σ = ((evV T call new B a σ).bnd fun x => (evV T call new B b σ).bnd fun y => cmpM o x y).bnd blM := by
  rw [evE, Mo.assoc]
  congr 1
  funext x
  rw [Mo.assoc]
  rfl
theorem cmp2_eq {o o2 : Cmp} {a b c : ME} (σ : Sl) : evE T call new B (.cmp2 o o2 a b c) σ = ((evV T call new B a σ).bnd fun x => (evV T call new B b σ).bnd fun y => (cmpM o x y).bnd fun k => if k then (evV T call new B c σ).bnd fun z => cmpM o2 y z else .ret false).bnd blM := by
  rw [evE, Mo.assoc]
  congr 1
  funext x
  rw [Mo.assoc]
  congr 1
  funext y
  rw [Mo.assoc]
  congr 1
  funext k
  cases k with
  | false => rfl
  | true => rw [if_pos rfl, if_pos rfl, Mo.assoc]; rfl
/-- the truth of a comparison -/
theorem tst_bl {c : Sl → Mo Bool} {σ : St} {H : Hp} {Q : Bool → Hp → Prop} {m : ME} (e : ∀ σ, evE T call new B m σ = (c σ).bnd blM) (h : rT L T call new B m σ H Q) : tR L B pB c σ H Q := by
  refine tR_unf (fun σ => ?_) (tst e h)
  funext h
  unfold Mo.bnd
  cases c σ h <;> rfl
theorem tt_cmp (g : Gd L T call new X N sc) {a b : ME} {l r : Expr} {o : Cmp} (hs : noSet r = true) (ha : PR L T call new B X a l) (hb : PR L T call new B X b r) : PT X (.Compare l [o.op] [r] pos) (rT L T call new B (.cmp o a b)) := by
  refine pt_imp (pt_cmpR (op_cmpD (L := L) (B := B) g.hK (by have := g.un; omega) o) (sV ha) (sV hb) (set_mark hs _)) fun σ H Q h => ?_
  refine two (f := fun _ x y => cmpM o x y) (R' := fun x y H2 => rC2 L B (cmpD o) x y H2 fun x H' => ∃ k, x = .bl k ∧ Q k H') shB (tst_bl cmp_eq h) fun w env vx vy x y sm hB er rx ry po => ?_
  have po' : Po L B pB w (((cmpM o vx vy).bnd .ret) w.h) Q := by
    have : ((cmpM o vx vy).bnd .ret) w.h = cmpM o vx vy w.h := by unfold Mo.bnd; cases cmpM o vx vy w.h <;> rfl
    rw [this]; exact po
  obtain ⟨dx, dy, r, f1, f2, e3, q⟩ := cmpM_r sm rx ry po'
  exact ⟨w, dx, dy, r, rfl, sm, f1, f2, e3, r, rfl, q w r rfl (Nx.refl sm) rfl⟩
theorem tt_cmp2 (g : Gd L T call new X N sc) {a b c : ME} {l r t : Expr} {o o2 : Cmp} (hs : noSet r = true) (ht : noSet t = true) (ha : PR L T call new B X a l) (hb : PR L T call new B X b r) (hc : PR L T call new B X c t) :
    PT X (.Compare l [o.op, o2.op] [r, t] pos) (rT L T call new B (.cmp2 o o2 a b c)) := by
  refine pt_imp (pt_chain (op_cmpD (L := L) (B := B) g.hK (by have := g.un; omega) o) (op_cmpD (L := L) (B := B) g.hK (by have := g.un; omega) o2) (sV ha) (sV hb) (sV hc) (marks2 hs ht)) fun σ H Q h => ?_
  refine two (f := fun σ x y => (cmpM o x y).bnd fun k => if k then (evV T call new B c σ).bnd fun z => cmpM o2 y z else .ret false)
    (R' := fun x y H2 => rC2 L B (cmpD o) x y H2 fun z H3 => ∃ k, z = .bl k ∧ (if k = true then rV L T call new B c σ H3 fun w' H4 => rC2 L B (cmpD o2) y w' H4 (fun x H' => ∃ k, x = .bl k ∧ Q k H') else (∃ k, V.bl false = .bl k ∧ Q k H3))) shB (tst_bl cmp2_eq h) fun w env vx vy x y sm hB er rx ry po => ?_
  obtain ⟨dx, dy, r, f1, f2, e3, q⟩ := cmpM_r sm rx ry po
  refine ⟨w, dx, dy, r, rfl, sm, f1, f2, e3, r, rfl, ?_⟩
  cases r with
  | false => rw [if_neg Bool.false_ne_true]; exact ⟨false, rfl, q w false rfl (Nx.refl sm) rfl⟩
  | true =>
    rw [if_pos rfl] at q ⊢
    refine ⟨w, env, rfl, sm, hB, er, q.bnd fun vz w2 z e2' n2 rz q2 => ?_⟩
    replace q2 := q2.from shB sm n2
    have po' : Po L B pB w2 (((cmpM o2 vy vz).bnd .ret) w2.h) Q := by
      have : ((cmpM o2 vy vz).bnd .ret) w2.h = cmpM o2 vy vz w2.h := by unfold Mo.bnd; cases cmpM o2 vy vz w2.h <;> rfl
      rw [this]; exact q2
    obtain ⟨dx, dy, r, f1, f2, e3, q⟩ := cmpM_r n2.sm (n2.v ry) rz po'
    exact ⟨w2, dx, dy, r, rfl, n2.sm, f1, f2, e3, r, rfl, q w2 r rfl (Nx.refl n2.sm) rfl⟩
/-- and, or as tests -/
theorem and_eq {a b : ME} (σ : Sl) : evT T call new B (.and a b) σ = (evT T call new B a σ).bnd fun k => if k then evT T call new B b σ else .ret false := by
  show (vOf (evE T call new B (.and a b) σ)).bnd truM = ((vOf (evE T call new B a σ)).bnd truM).bnd _
  rw [evE]
  show (((vOf (evE T call new B a σ)).bnd _).bnd _).bnd truM = _
  rw [Mo.assoc, Mo.assoc, Mo.assoc]
  congr 1
  funext x h
  rw [Mo.assoc]
  unfold Mo.bnd
  cases e : truM x h with
  | exc c fs h => rfl
  | bad => rfl
  | ok k h' =>
    have e0 : h' = h ∧ truV h x = some k := by
      unfold truM at e
      cases q : truV h x with
      | none => simp only [q] at e; cases e
      | some b => simp only [q] at e; cases e; exact ⟨rfl, rfl⟩
    obtain ⟨rfl, e1⟩ := e0
    cases k with
    | true => exact (congrFun (Mo.assoc (evE T call new B b σ) (fun r => frzM r) truM) h').symm
    | false =>
      show truM x h' = _
      unfold truM
      rw [e1]; rfl
theorem or_eq {a b : ME} (σ : Sl) : evT T call new B (.or a b) σ = (evT T call new B a σ).bnd fun k => if k then .ret true else evT T call new B b σ := by
  show (vOf (evE T call new B (.or a b) σ)).bnd truM = ((vOf (evE T call new B a σ)).bnd truM).bnd _
  rw [evE]
  show (((vOf (evE T call new B a σ)).bnd _).bnd _).bnd truM = _
  rw [Mo.assoc, Mo.assoc, Mo.assoc]
  congr 1
  funext x h
  rw [Mo.assoc]
  unfold Mo.bnd
  cases e : truM x h with
  | exc c fs h => rfl
  | bad => rfl
  | ok k h' =>
    have e0 : h' = h ∧ truV h x = some k := by
      unfold truM at e
      cases q : truV h x with
      | none => simp only [q] at e; cases e
      | some b => simp only [q] at e; cases e; exact ⟨rfl, rfl⟩
    obtain ⟨rfl, e1⟩ := e0
    cases k with
    | false => exact (congrFun (Mo.assoc (evE T call new B b σ) (fun r => frzM r) truM) h').symm
    | true =>
      show truM x h' = _
      unfold truM
      rw [e1]; rfl
theorem tt_and {a b : ME} {e : Expr} {rest : List Expr} (ha : PT X e (rT L T call new B a)) (hb : PW X (.BoolOp .And rest pos) (rT L T call new B b)) (hr : rest ≠ []) : PW X (.BoolOp .And (e :: rest) pos) (rT L T call new B (.and a b)) := by
  cases rest with
  | nil => exact (hr rfl).elim
  | cons e2 rest =>
    refine pw_imp (pw_and ha hb) fun σ H Q h => ?_
    refine test (R' := fun k H1 => if k = true then rT L T call new B b σ H1 Q else Q false H1) shB (tR_unf and_eq h) fun w env k sm hB er po => ?_
    cases k with
    | true => rw [if_pos rfl]; exact ⟨w, env, rfl, sm, hB, er, po⟩
    | false => rw [if_neg Bool.false_ne_true]; exact po w false rfl (Nx.refl sm) rfl
theorem tt_or {a b : ME} {e : Expr} {rest : List Expr} (ha : PT X e (rT L T call new B a)) (hb : PW X (.BoolOp .Or rest pos) (rT L T call new B b)) (hr : rest ≠ []) : PW X (.BoolOp .Or (e :: rest) pos) (rT L T call new B (.or a b)) := by
  cases rest with
  | nil => exact (hr rfl).elim
  | cons e2 rest =>
    refine pw_imp (pw_or ha hb) fun σ H Q h => ?_
    refine test (R' := fun k H1 => if k = true then Q true H1 else rT L T call new B b σ H1 Q) shB (tR_unf or_eq h) fun w env k sm hB er po => ?_
    cases k with
    | false => rw [if_neg Bool.false_ne_true]; exact ⟨w, env, rfl, sm, hB, er, po⟩
    | true => rw [if_pos rfl]; exact po w true rfl (Nx.refl sm) rfl
theorem ife_eq {c a b : ME} (σ : Sl) : evT T call new B (.ife c a b) σ = (evT T call new B c σ).bnd fun k => if k then evT T call new B a σ else evT T call new B b σ := by
  show tOf (evE T call new B (.ife c a b) σ) = (tOf (evE T call new B c σ)).bnd _
  rw [evE]
  show (((tOf (evE T call new B c σ)).bnd _).bnd _).bnd truM = _
  rw [Mo.assoc, Mo.assoc]
  congr 1
  funext k
  cases k with
  | true => rw [if_pos rfl, if_pos rfl]; exact (Mo.assoc (evE T call new B a σ) (fun r => frzM r) truM).symm
  | false => rw [if_neg Bool.false_ne_true, if_neg Bool.false_ne_true]; exact (Mo.assoc (evE T call new B b σ) (fun r => frzM r) truM).symm
theorem tt_ife {c a b : ME} {t x y : Expr} (hc : PT X t (rT L T call new B c)) (ha : PT X x (rT L T call new B a)) (hb : PT X y (rT L T call new B b)) : PT X (.IfExp t x y pos) (rT L T call new B (.ife c a b)) := by
  refine ⟨fun pins s σ H Q I h => ?_⟩
  have h2 := test (R' := fun k H1 => if k = true then rT L T call new B a σ H1 Q else rT L T call new B b σ H1 Q) shB (tR_unf ife_eq h) fun w env k sm hB er po => by
    cases k with
    | true => rw [if_pos rfl]; exact ⟨w, env, rfl, sm, hB, er, po⟩
    | false => rw [if_neg Bool.false_ne_true]; exact ⟨w, env, rfl, sm, hB, er, po⟩
  refine PyProof.Rows.isTrue_IfExp (thn (hc.run pins s σ H _ I h2) fun k s1 ⟨H1, I1, q1⟩ => ?_)
  cases k with
  | true => rw [if_pos rfl] at q1; exact ha.run pins s1 σ H1 Q I1 q1
  | false => rw [if_neg Bool.false_ne_true] at q1; exact hb.run pins s1 σ H1 Q I1 q1
end
end Mi

set_option Elab.async false
set_option linter.all false
set_option maxRecDepth 100000
set_option maxHeartbeats 4000000
/-! Mini d1: slices, dict displays. -/
namespace Mi
open PySem L2
section
variable {L : Lk} {T : Tb} {call new : String → List Val → Mo RV} {B : Nat} {X : Cx} {N : List Str} {sc : Sco} {pos : Pos}
def pO : Wd → Wd → Option Int → Option Int → Prop := fun _ _ a b => a = b
theorem shO : Shift L B pO := fun _ _ _ _ _ _ _ h => h
abbrev rP (L : Lk) (T : Tb) (call new : String → List Val → Mo RV) (B : Nat) (m : MO) : TO := tR L B pO (evP T call new B m)
theorem po_imp {e : Option Expr} {t t' : TO} (h : PO X e t) (k : ∀ σ H Q, t' σ H Q → t σ H Q) : PO X e t' := ⟨fun pins s σ H Q I q => h.run pins s σ H Q I (k _ _ _ q)⟩
theorem o_pnone : PO X none (rP L T call new B .none) := po_imp po_none fun σ H Q ⟨w, env, e, sm, hB, er, po⟩ => by
  subst e
  rw [evP] at po
  exact po w none rfl (Nx.refl sm) rfl
theorem o_psome {e : Expr} {m : ME} (h : PR L T call new B X m e) : PO X (some e) (rP L T call new B (.some m)) := by
  refine po_imp (po_some (sV h)) fun σ H Q h => ?_
  refine one (R' := fun x H1 => ∃ i, x = .int i ∧ Q (some i) H1) shO (tR_unf (fun σ => by rw [evP] <;> rfl) h) fun w env vx x sm hB er rx po => ?_
  split at po
  · rename_i i
    cases rx with
    | d rx => cases rx; exact ⟨i, rfl, po w (some i) rfl (Nx.refl sm) rfl⟩
  · exact po.elim
theorem c_sl (g : Gd L T call new X N sc) {o : ME} {lo hi : MO} {oe : Expr} {le he : Option Expr} {p2 : Pos} (ho : PR L T call new B X o oe) (hl : PO X le (rP L T call new B lo)) (hh : PO X he (rP L T call new B hi)) : PR L T call new B X (.sl o lo hi) (.Subscript oe (.Slice le he none p2) pos) := by
  refine pe_imp (pe_slice (sl_ok (L := L) (B := B) g.hK) (sV ho) hl hh) fun σ H Q h => ?_
  obtain ⟨w, env, rfl, sm, hB, er, po⟩ := h
  rw [evE] at po
  refine ⟨w, env, rfl, sm, hB, er, po.bnd fun vx w1 x e1 n1 r1 q1 => ?_⟩
  replace q1 := q1.from shRV sm n1
  refine ⟨w1, env, rfl, n1.sm, n1.b hB, er.nx n1, q1.bnd fun l w2 l' e2 n2 r2 q2 => ?_⟩
  cases (show l = l' from r2)
  replace q2 := q2.from shRV n1.sm n2
  refine ⟨w2, env, rfl, n2.sm, n2.b (n1.b hB), (er.nx n1).nx n2, q2.bnd fun u w3 u' e3 n3 r3 q3 => ?_⟩
  cases (show u = u' from r3)
  replace q3 := q3.from shRV n2.sm n3
  cases e : slV w3.h vx l u with
  | none => simp only [e] at q3; exact q3.elim
  | some r => simp only [e] at q3; exact ⟨w3, vx, r, rfl, n3.sm, n3.v (n2.v r1), e, q3⟩
/-! displays -/
def trsOf (L : Lk) (T : Tb) (call new : String → List Val → Mo RV) (B : Nat) : MEs → List (TE × TE)
  | .cons a (.cons b r) => (rV L T call new B a, rV L T call new B b) :: trsOf L T call new B r
  | _ => []
def pairUp : List V → List (V × V)
  | x :: y :: r => (x, y) :: pairUp r
  | _ => []
def even : MEs → Bool
  | .nil => true
  | .cons _ (.cons _ r) => even r
  | _ => false
theorem pairs_r : ∀ (ps : MEs) {w1 : Wd} {env : Sl} {σ : St} (R : List (V × V) → Hp → Prop), even ps = true → Sm L w1 → B ≤ w1.n → EnvR L w1 env σ → Po L B (pVL L) w1 (evEs T call new B ps env w1.h) (fun xs H2 => R (pairUp xs) H2) → tPairs (trsOf L T call new B ps) σ w1.H R
  | .nil, w1, env, σ, R, _, sm, hB, er, po => by
    rw [evEs] at po
    exact po w1 [] rfl (Nx.refl sm) .nil
  | .cons _ .nil, _, _, _, _, h, _, _, _, _ => by cases h
  | .cons a (.cons b r), w1, env, σ, R, h, sm, hB, er, po => by
    rw [evEs] at po
    refine ⟨w1, env, rfl, sm, hB, er, po.bnd fun vx w2 x e2 n2 r2 q2 => ?_⟩
    replace q2 := q2.from shVL sm n2
    rw [evEs, Mo.assoc] at q2
    refine ⟨w2, env, rfl, n2.sm, n2.b hB, er.nx n2, q2.bnd fun vy w3 y e3 n3 r3 q3 => ?_⟩
    replace q3 := q3.from shVL n2.sm n3
    rw [Mo.assoc] at q3
    refine pairs_r r _ h n3.sm (n3.b (n2.b hB)) ((er.nx n2).nx n3) ?_
    refine Po.bnd (P := pVL L) (R' := fun xs H2 => R ((x, y) :: pairUp xs) H2) q3 fun vs w4 xs e4 n4 r4 q4 => ?_
    replace q4 := q4.from shVL n3.sm n4
    exact q4 w4 (x :: y :: xs) rfl (Nx.refl n4.sm) (.cons (n4.v (n3.v r2)) (.cons (n4.v r3) r4))
theorem keyD_r {w : Wd} {v : Val} {x : V} {k : Key} (r : wV L w v x) (e : keyD v = some k) : x = kV k := by
  unfold keyD at e
  split at e
  · cases e; cases r with | d r => cases r; rfl
  · cases e; cases r with | d r => cases r; rfl
  · cases e
theorem pairsK_r {w : Wd} : ∀ {vs : List Val} {xs : List V} {kvs : List (Sum Int Str × Val)}, wVL L w vs xs → pairsK vs = some kvs → ∃ kxs : List (Key × V), pairUp xs = kxs.map (fun kv => (kV kv.1, kv.2)) ∧ kvs.map (·.1) = kxs.map (·.1) ∧ wVL L w (kvs.map (·.2)) (kxs.map (·.2))
  | [], _, kvs, .nil, e => by cases e; exact ⟨[], rfl, rfl, .nil⟩
  | [_], _, kvs, .cons _ .nil, e => by cases e
  | k :: v :: r, x :: y :: ys, kvs, .cons h1 (.cons h2 rr), e => by
    unfold pairsK at e
    cases q1 : keyD k with
    | none => rw [q1] at e; cases e
    | some k' =>
      cases q2 : pairsK r with
      | none => rw [q1, q2] at e; cases e
      | some rs =>
        rw [q1, q2] at e; cases e
        obtain ⟨kxs, g1, g2, g3⟩ := pairsK_r rr q2
        refine ⟨(k', y) :: kxs, ?_, ?_, .cons h2 g3⟩
        · rw [keyD_r h1 q1]
          show (kV k', y) :: pairUp ys = (kV k', y) :: kxs.map (fun kv => (kV kv.1, kv.2))
          rw [g1]
        · exact congrArg (k' :: ·) g2
section
variable {κ : Type} [DecidableEq κ] {w : Wd}
theorem put_r {kvs : List (κ × Val)} {kxs : List (κ × V)} {k : κ} {v : Val} {x : V} (e : kvs.map (·.1) = kxs.map (·.1)) (r : wVL L w (kvs.map (·.2)) (kxs.map (·.2))) (rv : wV L w v x) :
    (putM kvs k v).map (·.1) = (putK kxs k x).map (·.1) ∧ wVL L w ((putM kvs k v).map (·.2)) ((putK kxs k x).map (·.2)) := by
  have hc : (k ∈ kvs.map (·.1)) ↔ (kxs.any fun kv => decide (kv.1 = k)) = true := by
    rw [e, List.any_eq_true]
    constructor
    · intro h
      obtain ⟨p, hp, q⟩ := List.mem_map.mp h
      exact ⟨p, hp, decide_eq_true q⟩
    · rintro ⟨p, hp, q⟩
      exact List.mem_map.mpr ⟨p, hp, of_decide_eq_true q⟩
  unfold putM putK
  by_cases h : k ∈ kvs.map (·.1)
  · rw [if_pos h, if_pos (hc.mp h)]
    clear h hc
    induction kvs generalizing kxs with
    | nil =>
      cases kxs with
      | nil => exact ⟨rfl, .nil⟩
      | cons _ _ => cases e
    | cons p kvs ih =>
      cases kxs with
      | nil => cases e
      | cons q kxs =>
        obtain ⟨p1, p2⟩ := p
        obtain ⟨q1, q2⟩ := q
        have e1 : p1 = q1 := (List.cons.inj e).1
        subst e1
        cases r with
        | cons r1 rr =>
        obtain ⟨i1, i2⟩ := ih (List.cons.inj e).2 rr
        simp only [List.map_cons]
        by_cases hk : p1 = k
        · rw [if_pos hk, if_pos hk]
          exact ⟨congrArg (p1 :: ·) i1, .cons rv i2⟩
        · rw [if_neg hk, if_neg hk]
          exact ⟨congrArg (p1 :: ·) i1, .cons r1 i2⟩
  · rw [if_neg h, if_neg fun z => h (hc.mpr z)]
    simp only [List.map_append, List.map_cons, List.map_nil]
    exact ⟨by rw [e], r.append (.cons rv .nil)⟩
theorem merge_r {w : Wd} : ∀ {kvs acc : List (Sum Int Str × Val)} {kxs acx : List (Key × V)}, kvs.map (·.1) = kxs.map (·.1) → wVL L w (kvs.map (·.2)) (kxs.map (·.2)) → acc.map (·.1) = acx.map (·.1) → wVL L w (acc.map (·.2)) (acx.map (·.2)) →
    (kvs.foldl (fun acc kv => putM acc kv.1 kv.2) acc).map (·.1) = (mergeK acx kxs).map (·.1) ∧ wVL L w ((kvs.foldl (fun acc kv => putM acc kv.1 kv.2) acc).map (·.2)) ((mergeK acx kxs).map (·.2))
  | [], acc, [], acx, _, _, h1, h2 => ⟨h1, h2⟩
  | [], _, _ :: _, _, h, _, _, _ => by cases h
  | _ :: _, _, [], _, h, _, _, _ => by cases h
  | (k, v) :: kvs, acc, (k2, x) :: kxs, acx, h, hr, h1, h2 => by
    cases hr with
    | cons r1 rr =>
    have e1 : k = k2 := (List.cons.inj h).1
    subst e1
    obtain ⟨g1, g2⟩ := put_r (k := k) h1 h2 r1
    exact merge_r (kvs := kvs) (kxs := kxs) (List.cons.inj h).2 rr g1 g2
end
theorem dic_core {ps : MEs} (he : even ps = true) {σ : St} {H : Hp} {Q : VK} (h : rE L T call new B (.dic ps) σ H Q) : tDisp (trsOf L T call new B ps) σ H Q := by
  obtain ⟨w, env, rfl, sm, hB, er, po⟩ := h
  rw [evE] at po
  intro p hp
  have n0 : Nx L B w ⟨w.G, w.i, w.h, upd w.H p (.dK [])⟩ := Nx.laid sm hp
  refine pairs_r (w1 := ⟨w.G, w.i, w.h, upd w.H p (.dK [])⟩) ps _ he n0.sm hB (er.nx n0) ?_
  refine po.bnd2 (P := pVL L) fun vs w2 xs e2 n2 r2 q2 => ?_
  have n02 := n0.trans sm n2
  have h1 : w2.H p = some (.dK []) := n2.kept (w := ⟨w.G, w.i, w.h, upd w.H p (.dK [])⟩) upd_same (sm.ne hp)
  have hg : w2.G p = none := n2.gkept (w := ⟨w.G, w.i, w.h, upd w.H p (.dK [])⟩) (o := .dK []) upd_same (sm.gnone hp)
  have hn : ∀ i, i < w2.n → w2.i i ≠ p := n2.nplace (w := ⟨w.G, w.i, w.h, upd w.H p (.dK [])⟩) (o := .dK []) upd_same (sm.ne hp)
  cases ek : pairsK vs with
  | none => rw [ek] at q2; exact q2.elim
  | some kvs =>
    rw [ek] at q2
    dsimp only at q2
    split at q2
    · rename_i hl
      obtain ⟨kxs, g1, g2, g3⟩ := pairsK_r r2 ek
      have ll : kxs.length ≤ 15 := by
        have := congrArg List.length g2
        simp only [List.length_map] at this
        omega
      refine ⟨h1, kxs, g1, ll, ?_⟩
      obtain ⟨m1, m2⟩ := merge_r (acc := []) (acx := []) g2 g3 rfl .nil
      have n3 : Nx L B w ⟨w2.G, w2.i, w2.h, upd w2.H p (.dK (mergeK [] kxs))⟩ := n02.updOwn hp hg hn
      exact q2 ⟨w2.G, w2.i, w2.h, upd w2.H p (.dK (mergeK [] kxs))⟩ (.ref p) rfl n3 ⟨p, .dK (mergeK [] kxs), rfl, upd_same, .dicK m1 m2, hg, hn, hp⟩
    · exact q2.elim
theorem c_dic {ps : MEs} {ks : List (Option Expr)} {vs : List Expr} (he : even ps = true) (h : PPs X pos ks vs (trsOf L T call new B ps)) (hall : ks.all (·.isSome) = true) (hl : ks.length = vs.length) (h0 : ks ≠ []) (h15 : ks.length ≤ 15) : PR L T call new B X (.dic ps) (.Dict ks vs pos) :=
  pe_imp (pe_disp h hall hl h0 h15) fun _ _ _ q => dic_core he q
theorem c_dnew {t : Bool} : PR L T call new B X (.dnew t) (.Dict [] [] pos) := by
  cases t with
  | false =>
    refine pe_imp pe_dnewK fun σ H Q h => ?_
    obtain ⟨w, env, rfl, sm, hB, er, po⟩ := h
    rw [evE, if_neg Bool.false_ne_true] at po
    intro p hp
    exact po ⟨w.G, w.i, w.h, upd w.H p (.dK [])⟩ (.ref p) rfl (Nx.laid sm hp) ⟨p, .dK [], rfl, upd_same, .dicK rfl .nil, sm.gnone hp, sm.ne hp, hp⟩
  | true =>
    refine pe_imp pe_dnewT fun σ H Q h => ?_
    obtain ⟨w, env, rfl, sm, hB, er, po⟩ := h
    rw [evE, if_pos rfl] at po
    intro p hp
    exact po ⟨w.G, w.i, w.h, upd w.H p (.dT [])⟩ (.ref p) rfl (Nx.laid sm hp) ⟨p, .dT [], rfl, upd_same, .dicT rfl .nil, sm.gnone hp, sm.ne hp, hp⟩
theorem mKs_len {ps : MEs} : ∀ {ks : List (Option Expr)} {vs : List Expr}, mKs N sc ps ks vs = true → even ps = true ∧ ks.all (·.isSome) = true ∧ ks.length = vs.length := by
  induction ps using even.induct with
  | case1 =>
    intro ks vs h
    cases ks <;> cases vs <;> first | exact ⟨rfl, rfl, rfl⟩ | (simp [mKs] at h)
  | case2 a b r ih =>
    intro ks vs h
    cases ks with
    | nil => simp [mKs] at h
    | cons k ks =>
      cases k with
      | none => simp [mKs] at h
      | some k =>
        cases vs with
        | nil => simp [mKs] at h
        | cons v vs =>
          simp only [mKs, Bool.and_eq_true] at h
          obtain ⟨h1, h2, h3⟩ := ih h.2
          exact ⟨h1, by simpa using h2, by simpa using h3⟩
  | case3 t h1 h2 =>
    intro ks vs h
    exfalso
    cases t with
    | nil => exact h1 rfl
    | cons a r =>
      cases r with
      | nil => simp [mKs] at h
      | cons b r => exact h2 _ _ _ rfl
end
end Mi

set_option Elab.async false
set_option linter.all false
set_option maxRecDepth 100000
set_option maxHeartbeats 8000000
/-! Mini 13: what a match tells; the theorem of all expressions. -/
namespace Mi
open PySem L2
section
variable {N : List Str} {sc : Sco} {e : Expr}
theorem inv_var {i : Nat} (h : mE N sc (.var i) e = true) : ∃ x pos, e = .Name x pos ∧ N[i]? = some x ∧ visB sc.v x = true ∧ plainB x = true := by
  cases e <;> simp only [mE, Bool.false_eq_true, Bool.and_eq_true, decide_eq_true_eq] at h
  exact ⟨_, _, rfl, h.1.1, h.1.2, h.2⟩
theorem inv_non (h : mE N sc .non e = true) : ∃ j pos, e = .Constant .none j pos := by
  cases e <;> try (exfalso; simp only [mE, Bool.false_eq_true] at h; done)
  rename_i c j pos
  cases c <;> try (exfalso; simp only [mE, Bool.false_eq_true] at h; done)
  exact ⟨_, _, rfl⟩
theorem inv_bl {b : Bool} (h : mE N sc (.bl b) e = true) : ∃ j pos, e = .Constant (.bool b) j pos := by
  cases e <;> try (exfalso; simp only [mE, Bool.false_eq_true] at h; done)
  rename_i c j pos
  cases c <;> try (exfalso; simp only [mE, Bool.false_eq_true] at h; done)
  simp only [mE, decide_eq_true_eq] at h
  subst h; exact ⟨_, _, rfl⟩
theorem inv_int {b : Int} (h : mE N sc (.int b) e = true) : ∃ j pos, e = .Constant (.int b) j pos := by
  cases e <;> try (exfalso; simp only [mE, Bool.false_eq_true] at h; done)
  rename_i c j pos
  cases c <;> try (exfalso; simp only [mE, Bool.false_eq_true] at h; done)
  simp only [mE, decide_eq_true_eq] at h
  subst h; exact ⟨_, _, rfl⟩
theorem inv_str {b : Str} (h : mE N sc (.str b) e = true) : ∃ j pos, e = .Constant (.str b) j pos := by
  cases e <;> try (exfalso; simp only [mE, Bool.false_eq_true] at h; done)
  rename_i c j pos
  cases c <;> try (exfalso; simp only [mE, Bool.false_eq_true] at h; done)
  simp only [mE, decide_eq_true_eq] at h
  subst h; exact ⟨_, _, rfl⟩
theorem inv_glob {g : String} (h : mE N sc (.glob g) e = true) : ∃ x pos, e = .Name x pos ∧ x = S g ∧ glB sc.v x = true ∧ plainB x = true := by
  cases e <;> simp only [mE, Bool.false_eq_true, Bool.and_eq_true, decide_eq_true_eq] at h
  exact ⟨_, _, rfl, h.1.1, h.1.2, h.2⟩
theorem inv_ari {o : Ari} {a b : ME} (h : mE N sc (.ari o a b) e = true) : ∃ l r pos, e = .BinOp l o.op r pos ∧ mE N sc a l = true ∧ mE N sc b r = true := by
  cases e <;> simp only [mE, Bool.false_eq_true, Bool.and_eq_true, decide_eq_true_eq] at h
  obtain ⟨⟨rfl, h1⟩, h2⟩ := h
  exact ⟨_, _, _, rfl, h1, h2⟩
theorem inv_neg {a : ME} (h : mE N sc (.neg a) e = true) : ∃ l pos, e = .UnaryOp .USub l pos ∧ mE N sc a l = true := by
  cases e <;> try (exfalso; simp only [mE, Bool.false_eq_true] at h; done)
  rename_i o l pos
  cases o <;> try (exfalso; simp only [mE, Bool.false_eq_true] at h; done)
  exact ⟨_, _, rfl, by simpa only [mE] using h⟩
theorem inv_not {a : ME} (h : mE N sc (.not a) e = true) : ∃ l pos, e = .UnaryOp .Not l pos ∧ mE N sc a l = true := by
  cases e <;> try (exfalso; simp only [mE, Bool.false_eq_true] at h; done)
  rename_i o l pos
  cases o <;> try (exfalso; simp only [mE, Bool.false_eq_true] at h; done)
  exact ⟨_, _, rfl, by simpa only [mE] using h⟩
theorem inv_and {a b : ME} (h : mE N sc (.and a b) e = true) : ∃ x y rest pos, e = .BoolOp .And (x :: y :: rest) pos ∧ mE N sc a x = true ∧ ((rest = [] ∧ mE N sc b y = true) ∨ (rest ≠ [] ∧ mE N sc b (.BoolOp .And (y :: rest) pos) = true)) := by
  cases e <;> try (exfalso; simp only [mE, Bool.false_eq_true] at h; done)
  rename_i o vs pos
  cases o <;> try (exfalso; simp only [mE, Bool.false_eq_true] at h; done)
  cases vs with
  | nil => simp only [mE, Bool.false_eq_true] at h
  | cons x vs =>
    cases vs with
    | nil => simp only [mE, Bool.false_eq_true] at h
    | cons y rest =>
      simp only [mE, Bool.and_eq_true] at h
      refine ⟨x, y, rest, pos, rfl, h.1, ?_⟩
      cases rest with
      | nil => exact .inl ⟨rfl, h.2⟩
      | cons z r => exact .inr ⟨(fun q => nomatch q), h.2⟩
theorem inv_or {a b : ME} (h : mE N sc (.or a b) e = true) : ∃ x y rest pos, e = .BoolOp .Or (x :: y :: rest) pos ∧ mE N sc a x = true ∧ ((rest = [] ∧ mE N sc b y = true) ∨ (rest ≠ [] ∧ mE N sc b (.BoolOp .Or (y :: rest) pos) = true)) := by
  cases e <;> try (exfalso; simp only [mE, Bool.false_eq_true] at h; done)
  rename_i o vs pos
  cases o <;> try (exfalso; simp only [mE, Bool.false_eq_true] at h; done)
  cases vs with
  | nil => simp only [mE, Bool.false_eq_true] at h
  | cons x vs =>
    cases vs with
    | nil => simp only [mE, Bool.false_eq_true] at h
    | cons y rest =>
      simp only [mE, Bool.and_eq_true] at h
      refine ⟨x, y, rest, pos, rfl, h.1, ?_⟩
      cases rest with
      | nil => exact .inl ⟨rfl, h.2⟩
      | cons z r => exact .inr ⟨(fun q => nomatch q), h.2⟩
theorem inv_cmp {o : Cmp} {a b : ME} (h : mE N sc (.cmp o a b) e = true) : ∃ l r pos, e = .Compare l [o.op] [r] pos ∧ noSet r = true ∧ mE N sc a l = true ∧ mE N sc b r = true := by
  cases e <;> try (exfalso; simp only [mE, Bool.false_eq_true] at h; done)
  rename_i l ops cs pos
  rcases ops with _ | ⟨p, _ | ⟨p2, ops⟩⟩ <;> try (exfalso; simp only [mE, Bool.false_eq_true] at h; done)
  rcases cs with _ | ⟨r, _ | ⟨r2, cs⟩⟩ <;> try (exfalso; simp only [mE, Bool.false_eq_true] at h; done)
  simp only [mE, Bool.and_eq_true, decide_eq_true_eq] at h
  obtain ⟨⟨⟨rfl, h1⟩, h2⟩, h3⟩ := h
  exact ⟨_, _, _, rfl, h1, h2, h3⟩
theorem inv_cmp2 {o o2 : Cmp} {a b c : ME} (h : mE N sc (.cmp2 o o2 a b c) e = true) : ∃ l r t pos, e = .Compare l [o.op, o2.op] [r, t] pos ∧ noSet r = true ∧ noSet t = true ∧ mE N sc a l = true ∧ mE N sc b r = true ∧ mE N sc c t = true := by
  cases e <;> try (exfalso; simp only [mE, Bool.false_eq_true] at h; done)
  rename_i l ops cs pos
  rcases ops with _ | ⟨p, _ | ⟨p2, _ | ⟨p3, ops⟩⟩⟩ <;> try (exfalso; simp only [mE, Bool.false_eq_true] at h; done)
  rcases cs with _ | ⟨r, _ | ⟨r2, _ | ⟨r3, cs⟩⟩⟩ <;> try (exfalso; simp only [mE, Bool.false_eq_true] at h; done)
  simp only [mE, Bool.and_eq_true, decide_eq_true_eq] at h
  obtain ⟨⟨⟨⟨⟨⟨rfl, rfl⟩, h1⟩, h2⟩, h3⟩, h4⟩, h5⟩ := h
  exact ⟨_, _, _, _, rfl, h1, h2, h3, h4, h5⟩
theorem inv_ife {c a b : ME} (h : mE N sc (.ife c a b) e = true) : ∃ t x y pos, e = .IfExp t x y pos ∧ mE N sc c t = true ∧ mE N sc a x = true ∧ mE N sc b y = true := by
  cases e <;> simp only [mE, Bool.false_eq_true, Bool.and_eq_true] at h
  exact ⟨_, _, _, _, rfl, h.1.1, h.1.2, h.2⟩
theorem inv_call {f : String} {as : MEs} (h : mE N sc (.call f as) e = true) : ∃ x p es pos, e = .Call (.Name x p) es [] pos ∧ x = S f ∧ glB sc.v x = true ∧ plainB x = true ∧ mEs N sc as es = true := by
  cases e <;> try (exfalso; simp only [mE, Bool.false_eq_true] at h; done)
  rename_i fe es kws pos
  cases kws <;> cases fe <;> try (exfalso; simp only [mE, Bool.false_eq_true] at h; done)
  simp only [mE, Bool.and_eq_true, decide_eq_true_eq] at h
  exact ⟨_, _, _, _, rfl, h.1.1.1, h.1.1.2, h.1.2, h.2⟩
theorem inv_bif {f : String} {as : MEs} (h : mE N sc (.bif f as) e = true) : ∃ x p es pos, e = .Call (.Name x p) es [] pos ∧ x = S f ∧ glB sc.v x = true ∧ plainB x = true ∧ mEs N sc as es = true := by
  cases e <;> try (exfalso; simp only [mE, Bool.false_eq_true] at h; done)
  rename_i fe es kws pos
  cases kws <;> cases fe <;> try (exfalso; simp only [mE, Bool.false_eq_true] at h; done)
  simp only [mE, Bool.and_eq_true, decide_eq_true_eq] at h
  exact ⟨_, _, _, _, rfl, h.1.1.1, h.1.1.2, h.1.2, h.2⟩
theorem inv_new {f : String} {as : MEs} (h : mE N sc (.new f as) e = true) : ∃ x p es pos, e = .Call (.Name x p) es [] pos ∧ x = S f ∧ glB sc.v x = true ∧ plainB x = true ∧ mEs N sc as es = true := by
  cases e <;> try (exfalso; simp only [mE, Bool.false_eq_true] at h; done)
  rename_i fe es kws pos
  cases kws <;> cases fe <;> try (exfalso; simp only [mE, Bool.false_eq_true] at h; done)
  simp only [mE, Bool.and_eq_true, decide_eq_true_eq] at h
  exact ⟨_, _, _, _, rfl, h.1.1.1, h.1.1.2, h.1.2, h.2⟩
theorem inv_sl {o : ME} {lo hi : MO} (h : mE N sc (.sl o lo hi) e = true) : ∃ oe le he p2 pos, e = .Subscript oe (.Slice le he none p2) pos ∧ mE N sc o oe = true ∧ mP N sc lo le = true ∧ mP N sc hi he = true := by
  cases e <;> try (exfalso; simp only [mE, Bool.false_eq_true] at h; done)
  rename_i oe ie pos
  cases ie <;> try (exfalso; simp only [mE, Bool.false_eq_true] at h; done)
  rename_i le he st p2
  cases st with
  | some _ => exfalso; simp only [mE, Bool.false_eq_true] at h
  | none =>
    simp only [mE, Bool.and_eq_true] at h
    exact ⟨_, _, _, _, _, rfl, h.1.1, h.1.2, h.2⟩
theorem inv_dic {ps : MEs} (h : mE N sc (.dic ps) e = true) : ∃ ks vs pos, e = .Dict ks vs pos ∧ mKs N sc ps ks vs = true ∧ ks.length ≤ 15 ∧ ks ≠ [] := by
  cases e <;> simp only [mE, Bool.false_eq_true, Bool.and_eq_true, decide_eq_true_eq, Bool.not_eq_true', List.isEmpty_eq_false_iff] at h
  exact ⟨_, _, _, rfl, h.1.1, h.1.2, h.2⟩
theorem inv_dnew {t : Bool} (h : mE N sc (.dnew t) e = true) : ∃ pos, e = .Dict [] [] pos := by
  cases e <;> try (exfalso; simp only [mE, Bool.false_eq_true] at h; done)
  rename_i ks vs pos
  cases ks <;> cases vs <;> first | exact ⟨_, rfl⟩ | (exfalso; simp only [mE, Bool.false_eq_true] at h; done)
theorem inv_met {o : ME} {m : String} {as : MEs} (h : mE N sc (.met o m as) e = true) : ∃ oe apos es cpos, e = .Call (.Attribute oe (S m) apos) es [] cpos ∧ apos.endLine = cpos.line ∧ noSuper oe = true ∧ es.length < 30 ∧ mE N sc o oe = true ∧ mEs N sc as es = true := by
  cases e <;> try (exfalso; simp only [mE, Bool.false_eq_true] at h; done)
  rename_i fe es kws pos
  cases kws <;> cases fe <;> try (exfalso; simp only [mE, Bool.false_eq_true] at h; done)
  simp only [mE, Bool.and_eq_true, decide_eq_true_eq] at h
  obtain ⟨⟨⟨⟨⟨rfl, h1⟩, h2⟩, h3⟩, h4⟩, h5⟩ := h
  exact ⟨_, _, _, _, rfl, h1, h2, h3, h4, h5⟩
theorem inv_sub {o i : ME} (h : mE N sc (.sub o i) e = true) : ∃ l r pos, e = .Subscript l r pos ∧ noSlice r = true ∧ mE N sc o l = true ∧ mE N sc i r = true := by
  cases e <;> simp only [mE, Bool.false_eq_true, Bool.and_eq_true] at h
  exact ⟨_, _, _, rfl, h.1.1, h.1.2, h.2⟩
theorem inv_tup {es : MEs} (h : mE N sc (.tup es) e = true) : ∃ xs k pos, e = .Tuple xs k pos ∧ mEs N sc es xs = true := by
  cases e <;> simp only [mE, Bool.false_eq_true] at h
  exact ⟨_, _, _, rfl, h⟩
theorem inv_lst {es : MEs} (h : mE N sc (.lst es) e = true) : ∃ xs pos, e = .List xs pos ∧ mEs N sc es xs = true := by
  cases e <;> simp only [mE, Bool.false_eq_true] at h
  exact ⟨_, _, rfl, h⟩
theorem inv_lc {elt : ME} {tg : MT} {it : MI} {ifs : MO} {own : List (String × Nat)} (h : mE N sc (.lc elt tg it ifs own) e = true) : ∃ x t i cs scope pos, e = .ListComp x [⟨t, i, cs, 0⟩] scope pos ∧
    blkC N sc.v scope (own.map fun p => (S p.1, p.2)) = true ∧ (∀ j ∈ tg.slots, j ∈ own.map Prod.snd) ∧ mI N sc it i = true ∧ noSet i = true ∧ mT N ⟨relS scope sc.v, scope⟩ tg t = true ∧ mO N ⟨relS scope sc.v, scope⟩ ifs cs = true ∧ mE N ⟨relS scope sc.v, scope⟩ elt x = true := by
  cases e <;> try (exfalso; simp only [mE, Bool.false_eq_true] at h; done)
  rename_i x gs scope pos
  rcases gs with _ | ⟨⟨t, i, cs, k⟩, _ | ⟨g2, gs⟩⟩ <;> try (exfalso; simp only [mE, Bool.false_eq_true] at h; done)
  by_cases hk : k = 0
  · subst hk
    have h' : (blkC N sc.v scope (own.map fun p => (S p.1, p.2)) && (MT.slots tg).all (fun j => decide (j ∈ own.map Prod.snd)) && mI N sc it i && noSet i && mT N ⟨relS scope sc.v, scope⟩ tg t && mO N ⟨relS scope sc.v, scope⟩ ifs cs && mE N ⟨relS scope sc.v, scope⟩ elt x) = true := by
      rw [← h]; rw [mE]
    simp only [Bool.and_eq_true, List.all_eq_true, decide_eq_true_eq] at h'
    obtain ⟨⟨⟨⟨⟨⟨h1, h2⟩, h3⟩, h4⟩, h5⟩, h6⟩, h7⟩ := h'
    exact ⟨_, _, _, _, _, _, rfl, h1, h2, h3, h4, h5, h6, h7⟩
  · exfalso
    unfold mE at h
    split at h
    all_goals first
      | (rename_i q; exact hk (by injection q with _ q _ _; injection q with q _; injection q with _ _ _ q))
      | exact Bool.false_ne_true h
      | (simp_all; done)
theorem inv_range {as : MEs} (h : mI N sc (.range as) e = true) : ∃ x p es pos, e = .Call (.Name x p) es [] pos ∧ x = S "range" ∧ glB sc.v x = true ∧ mEs N sc as es = true := by
  cases e <;> try (exfalso; simp only [mI, Bool.false_eq_true] at h; done)
  rename_i fe es kws pos
  cases kws <;> cases fe <;> try (exfalso; simp only [mI, Bool.false_eq_true] at h; done)
  simp only [mI, Bool.and_eq_true, decide_eq_true_eq] at h
  exact ⟨_, _, _, _, rfl, h.1.1, h.1.2, h.2⟩
theorem inv_tname {i : Nat} (h : mT N sc (.name i) e = true) : ∃ x pos, e = .Name x pos ∧ N[i]? = some x ∧ locB sc.v x = true ∧ locB sc.s x = true := by
  cases e <;> simp only [mT, Bool.false_eq_true, Bool.and_eq_true, decide_eq_true_eq] at h
  exact ⟨_, _, rfl, h.1.1, h.1.2, h.2⟩
theorem inv_ttup {ts : MTs} (h : mT N sc (.tup ts) e = true) : ∃ xs k pos, e = .Tuple xs k pos ∧ mTs N sc ts xs = true := by
  cases e <;> simp only [mT, Bool.false_eq_true] at h
  exact ⟨_, _, _, rfl, h⟩
theorem inv_tsub {o i : ME} (h : mT N sc (.sub o i) e = true) : ∃ l r pos, e = .Subscript l r pos ∧ noSlice r = true ∧ mE N sc o l = true ∧ mE N sc i r = true := by
  cases e <;> simp only [mT, Bool.false_eq_true, Bool.and_eq_true] at h
  exact ⟨_, _, _, rfl, h.1.1, h.1.2, h.2⟩
end

section
variable {L : Lk} {T : Tb} {call new : String → List Val → Mo RV} {B : Nat} {N : List Str}
theorem c_lc {X : Cx} {sc : Sco} {pos : Pos} (g : Gd L T call new X N sc) {elt : ME} {tg : MT} {it : MI} {ifs : MO} {own : List (String × Nat)} {x t i : Expr} {cs : List Expr} {scope : Scope} (hb : blkC N sc.v scope (own.map fun p => (S p.1, p.2)) = true) (hs : ∀ j ∈ tg.slots, j ∈ own.map Prod.snd) (hset : noSet i = true)
    (hi : PI X t i (rI L T call new B it)) (hg : ∀ X' : Cx, Gd L T call new X' N ⟨relS scope sc.v, scope⟩ → PG X' t (rG L T call new B tg)) (ht : ∀ X' : Cx, Gd L T call new X' N ⟨relS scope sc.v, scope⟩ → PTs X' cs (rO L T call new B ifs))
    (he : ∀ X' : Cx, Gd L T call new X' N ⟨relS scope sc.v, scope⟩ → PR L T call new B X' elt x) : PR L T call new B X (.lc elt tg it ifs own) (.ListComp x [⟨t, i, cs, 0⟩] scope pos) := by
  have ok : BlkOk X.N X.env.scope scope (own.map fun p => (S p.1, p.2)) := by
    rw [g.hN, g.hv]; exact blkOk_by hb
  have e1 : (own.map fun p => (S p.1, p.2)).map (·.2) = own.map Prod.snd := by rw [List.map_map]; rfl
  refine pe_imp (pe_lc g.calm g.nd hi ok (fun s H C cl fp => hg _ (g.blk s H scope cl C fp)) (fun s H C cl fp => ht _ (g.blk s H scope cl C fp)) (fun s H C cl fp => sV (he _ (g.blk s H scope cl C fp))) (fun x => set_plain hset _ x)) fun σ H Q h => ?_
  rw [e1]
  exact lc_core' hs h
theorem o_none {X : Cx} : PTs X [] (rO L T call new B .none) := by
  refine ⟨fun pins s σ H Q I ⟨w, env, e, sm, hB, er, po⟩ => pts_nil.run pins s σ H Q I ?_⟩
  subst e
  rw [evO] at po
  exact po w true rfl (Nx.refl sm) rfl
theorem o_some {X : Cx} {c : Expr} {m : ME} (h : PT X c (rT L T call new B m)) : PTs X [c] (rO L T call new B (.some m)) := by
  refine ⟨fun pins s σ H Q I q => (pts_one h).run pins s σ H Q I (tR_unf (fun σ => by rw [evO] <;> rfl) q)⟩
theorem ne_bool {e : Expr} (h : ∀ o v p, e ≠ .BoolOp o v p) : ∀ o v p, e ≠ .BoolOp o v p := h
mutual
theorem sE : ∀ (m : ME) {X : Cx} {sc : Sco} (g : Gd L T call new X N sc) {e : Expr}, mE N sc m e = true → Good L T call new B X m e
  | .var i, X, sc, g, e, h => by
    obtain ⟨x, pos, rfl, h1, h2, h3⟩ := inv_var h
    exact .of g (c_var g h1 h2 h3) (fun _ => rfl) (fun _ _ _ q => nomatch q)
  | .non, X, sc, g, e, h => by
    obtain ⟨j, pos, rfl⟩ := inv_non h
    exact .of g (c_con pe_non (fun σ => by rw [evE]) fun _ => .non) (fun _ => rfl) (fun _ _ _ q => nomatch q)
  | .bl b, X, sc, g, e, h => by
    obtain ⟨j, pos, rfl⟩ := inv_bl h
    exact .of g (c_con pe_bl (fun σ => by rw [evE]) fun _ => .bl b) (fun _ => rfl) (fun _ _ _ q => nomatch q)
  | .int b, X, sc, g, e, h => by
    obtain ⟨j, pos, rfl⟩ := inv_int h
    exact .of g (c_con pe_int (fun σ => by rw [evE]) fun _ => .int b) (fun _ => rfl) (fun _ _ _ q => nomatch q)
  | .str b, X, sc, g, e, h => by
    obtain ⟨j, pos, rfl⟩ := inv_str h
    exact .of g (c_con pe_str (fun σ => by rw [evE]) fun _ => .str b) (fun _ => rfl) (fun _ _ _ q => nomatch q)
  | .glob n, X, sc, g, e, h => by
    obtain ⟨x, pos, rfl, h1, h2, h3⟩ := inv_glob h
    exact .of g (c_glob g h1 h2 h3) (fun _ => rfl) (fun _ _ _ q => nomatch q)
  | .ari o a b, X, sc, g, e, h => by
    obtain ⟨l, r, pos, rfl, h1, h2⟩ := inv_ari h
    exact .of g (c_ari (sE a g h1).v (sE b g h2).v) (fun _ => rfl) (fun _ _ _ q => nomatch q)
  | .neg a, X, sc, g, e, h => by
    obtain ⟨l, pos, rfl, h1⟩ := inv_neg h
    exact .of g (c_neg (sE a g h1).v) (fun _ => rfl) (fun _ _ _ q => nomatch q)
  | .not a, X, sc, g, e, h => by
    obtain ⟨l, pos, rfl, h1⟩ := inv_not h
    exact .ofT (c_not g (sE a g h1).v) (tt_not (sE a g h1).t) (fun _ _ _ q => nomatch q)
  | .and a b, X, sc, g, e, h => by
    obtain ⟨x, y, rest, pos, rfl, h1, h2⟩ := inv_and h
    have ia := sE a g h1
    have vb : PR L T call new B X b (.BoolOp .And (y :: rest) pos) ∧ PW X (.BoolOp .And (y :: rest) pos) (rT L T call new B b) := by
      rcases h2 with ⟨rfl, h2⟩ | ⟨_, h2⟩
      · have ib := sE b g h2
        exact ⟨pe_one ib.v, pw_and1 ib.t⟩
      · have ib := sE b g h2
        exact ⟨ib.v, ib.w _ _ _ rfl⟩
    have w := tt_and ia.t vb.2 (fun q => nomatch q)
    exact ⟨c_and g ia.v vb.1, w.pt, fun op vals p q => by cases q; exact w⟩
  | .or a b, X, sc, g, e, h => by
    obtain ⟨x, y, rest, pos, rfl, h1, h2⟩ := inv_or h
    have ia := sE a g h1
    have vb : PR L T call new B X b (.BoolOp .Or (y :: rest) pos) ∧ PW X (.BoolOp .Or (y :: rest) pos) (rT L T call new B b) := by
      rcases h2 with ⟨rfl, h2⟩ | ⟨_, h2⟩
      · have ib := sE b g h2
        exact ⟨pe_one ib.v, pw_or1 ib.t⟩
      · have ib := sE b g h2
        exact ⟨ib.v, ib.w _ _ _ rfl⟩
    have w := tt_or ia.t vb.2 (fun q => nomatch q)
    exact ⟨c_or g ia.v vb.1, w.pt, fun op vals p q => by cases q; exact w⟩
  | .cmp o a b, X, sc, g, e, h => by
    obtain ⟨l, r, pos, rfl, h0, h1, h2⟩ := inv_cmp h
    have ia := sE a g h1
    have ib := sE b g h2
    exact .ofT (c_cmp g h0 ia.v ib.v) (tt_cmp g h0 ia.v ib.v) (fun _ _ _ q => nomatch q)
  | .cmp2 o o2 a b c, X, sc, g, e, h => by
    obtain ⟨l, r, t, pos, rfl, h0, h0', h1, h2, h3⟩ := inv_cmp2 h
    have ia := sE a g h1
    have ib := sE b g h2
    have ic := sE c g h3
    exact .ofT (c_cmp2 g h0 h0' ia.v ib.v ic.v) (tt_cmp2 g h0 h0' ia.v ib.v ic.v) (fun _ _ _ q => nomatch q)
  | .ife c a b, X, sc, g, e, h => by
    obtain ⟨t, x, y, pos, rfl, h1, h2, h3⟩ := inv_ife h
    have ic := sE c g h1
    have ia := sE a g h2
    have ib := sE b g h3
    exact .ofT (c_ife ic.t ia.v ib.v) (tt_ife ic.t ia.t ib.t) (fun _ _ _ q => nomatch q)
  | .call f as, X, sc, g, e, h => by
    obtain ⟨x, p, es, pos, rfl, h1, h2, h3, h4⟩ := inv_call h
    exact .of g (c_call g h1 h2 h3 h4 (sEs as g h4)) (fun _ => rfl) (fun _ _ _ q => nomatch q)
  | .new f as, X, sc, g, e, h => by
    obtain ⟨x, p, es, pos, rfl, h1, h2, h3, h4⟩ := inv_new h
    exact .of g (c_new g h1 h2 h3 h4 (sEs as g h4)) (fun _ => rfl) (fun _ _ _ q => nomatch q)
  | .bif f as, X, sc, g, e, h => by
    obtain ⟨x, p, es, pos, rfl, h1, h2, h3, h4⟩ := inv_bif h
    exact .of g (c_bif g h1 h2 h3 h4 (sEs as g h4)) (fun _ => rfl) (fun _ _ _ q => nomatch q)
  | .met o m as, X, sc, g, e, h => by
    obtain ⟨oe, apos, es, cpos, rfl, h1, h2, h3, h4, h5⟩ := inv_met h
    exact .of g (c_met g h2 (by simp [h1]) h5 h3 (sE o g h4).v (sEs as g h5)) (fun _ => rfl) (fun _ _ _ q => nomatch q)
  | .att o f, X, sc, g, e, h => by simp only [mE, Bool.false_eq_true] at h
  | .sub o i, X, sc, g, e, h => by
    obtain ⟨l, r, pos, rfl, h0, h1, h2⟩ := inv_sub h
    exact .of g (c_sub g h0 (sE o g h1).v (sE i g h2).v) (fun _ => rfl) (fun _ _ _ q => nomatch q)
  | .sl o a b, X, sc, g, e, h => by
    obtain ⟨oe, le, he, p2, pos, rfl, h1, h2, h3⟩ := inv_sl h
    exact .of g (c_sl g (sE o g h1).v (sP a g h2) (sP b g h3)) (fun _ => rfl) (fun _ _ _ q => nomatch q)
  | .tup es, X, sc, g, e, h => by
    obtain ⟨xs, k, pos, rfl, h1⟩ := inv_tup h
    exact .of g (c_tup (sEs es g h1)) (fun _ => rfl) (fun _ _ _ q => nomatch q)
  | .lst es, X, sc, g, e, h => by
    obtain ⟨xs, pos, rfl, h1⟩ := inv_lst h
    exact .of g (c_lst (sEs es g h1)) (fun _ => rfl) (fun _ _ _ q => nomatch q)
  | .dic a, X, sc, g, e, h => by
    obtain ⟨ks, vs, pos, rfl, h1, h2, h3⟩ := inv_dic h
    obtain ⟨g1, g2, g3⟩ := mKs_len h1
    exact .of g (c_dic g1 (sKs a g h1) g2 g3 h3 h2) (fun _ => rfl) (fun _ _ _ q => nomatch q)
  | .dnew t, X, sc, g, e, h => by
    obtain ⟨pos, rfl⟩ := inv_dnew h
    exact .of g c_dnew (fun _ => rfl) (fun _ _ _ q => nomatch q)
  | .lc elt tg it ifs own, X, sc, g, e, h => by
    obtain ⟨x, t, i, cs, scope, pos, rfl, h1, h2, h3, h4, h5, h6, h7⟩ := inv_lc h
    exact .of g (c_lc g h1 h2 h4 (sI it g h3) (fun X' g' => sT tg g' h5) (fun X' g' => sO ifs g' h6) fun X' g' => (sE elt g' h7).v) (fun _ => rfl) (fun _ _ _ q => nomatch q)
theorem sEs : ∀ (m : MEs) {X : Cx} {sc : Sco} (g : Gd L T call new X N sc) {es : List Expr}, mEs N sc m es = true → PA X es (rEs L T call new B m)
  | .nil, X, sc, g, [], h => c_nil
  | .cons a r, X, sc, g, e :: es, h => by
    simp only [mEs, Bool.and_eq_true] at h
    exact c_cons h.1.1 (sE a g h.1.2).v (sEs r g h.2)
  | .nil, X, sc, g, e :: es, h => by simp [mEs] at h
  | .cons a r, X, sc, g, [], h => by simp [mEs] at h
theorem sP : ∀ (m : MO) {X : Cx} {sc : Sco} (g : Gd L T call new X N sc) {e : Option Expr}, mP N sc m e = true → PO X e (rP L T call new B m)
  | .none, X, sc, g, none, h => o_pnone
  | .some a, X, sc, g, some e, h => o_psome (sE a g (by simpa only [mP] using h)).v
  | .none, X, sc, g, some e, h => by simp [mP] at h
  | .some a, X, sc, g, none, h => by simp [mP] at h
theorem sKs : ∀ (m : MEs) {X : Cx} {sc : Sco} (g : Gd L T call new X N sc) {ks : List (Option Expr)} {vs : List Expr} {pos : Pos}, mKs N sc m ks vs = true → PPs X pos ks vs (trsOf L T call new B m)
  | .nil, X, sc, g, [], [], pos, h => pps_nil
  | .cons a (.cons b r), X, sc, g, some k :: ks, v :: vs, pos, h => by
    simp only [mKs, Bool.and_eq_true] at h
    exact pps_cons (sV (sE a g h.1.1).v) (sV (sE b g h.1.2).v) (sKs r g h.2)
  | .nil, X, sc, g, _ :: _, _, pos, h => by simp [mKs] at h
  | .nil, X, sc, g, [], _ :: _, pos, h => by simp [mKs] at h
  | .cons _ .nil, X, sc, g, _, _, pos, h => by simp [mKs] at h
  | .cons _ (.cons _ _), X, sc, g, [], _, pos, h => by simp [mKs] at h
  | .cons _ (.cons _ _), X, sc, g, none :: _, _, pos, h => by simp [mKs] at h
  | .cons _ (.cons _ _), X, sc, g, some _ :: _, [], pos, h => by simp [mKs] at h
theorem sO : ∀ (m : MO) {X : Cx} {sc : Sco} (g : Gd L T call new X N sc) {es : List Expr}, mO N sc m es = true → PTs X es (rO L T call new B m)
  | .none, X, sc, g, [], h => o_none
  | .some a, X, sc, g, [e], h => o_some (sE a g (by simpa only [mO] using h)).t
  | .none, X, sc, g, e :: es, h => by simp [mO] at h
  | .some a, X, sc, g, [], h => by simp [mO] at h
  | .some a, X, sc, g, e :: e2 :: es, h => by simp [mO] at h
theorem sI : ∀ (m : MI) {X : Cx} {sc : Sco} (g : Gd L T call new X N sc) {tg e : Expr}, mI N sc m e = true → PI X tg e (rI L T call new B m)
  | .val m, X, sc, g, tg, e, h => c_ival g (sE m g (by simpa only [mI] using h)).v
  | .range as, X, sc, g, tg, e, h => by
    obtain ⟨x, p, es, pos, rfl, h1, h2, h3⟩ := inv_range h
    exact c_irange g h1 h2 h3 (sEs as g h3)
  | .enum m, X, sc, g, tg, e, h => by simp only [mI, Bool.false_eq_true] at h
  | .zip m m2, X, sc, g, tg, e, h => by simp only [mI, Bool.false_eq_true] at h
theorem sT : ∀ (m : MT) {X : Cx} {sc : Sco} (g : Gd L T call new X N sc) {e : Expr}, mT N sc m e = true → PG X e (rG L T call new B m)
  | .name i, X, sc, g, e, h => by
    obtain ⟨x, pos, rfl, h1, h2, h3⟩ := inv_tname h
    exact g_name g h1 h2 h3
  | .tup ts, X, sc, g, e, h => by
    obtain ⟨xs, k, pos, rfl, h1⟩ := inv_ttup h
    exact g_tup g h1 (sTs ts g h1)
  | .sub o i, X, sc, g, e, h => by
    obtain ⟨l, r, pos, rfl, h0, h1, h2⟩ := inv_tsub h
    exact g_sub g h0 (sE o g h1).v (sE i g h2).v
  | .att o f, X, sc, g, e, h => by simp only [mT, Bool.false_eq_true] at h
theorem sTs : ∀ (m : MTs) {X : Cx} {sc : Sco} (g : Gd L T call new X N sc) {es : List Expr}, mTs N sc m es = true → PGs X es (rGs L T call new B m)
  | .nil, X, sc, g, [], h => g_nil
  | .cons a r, X, sc, g, e :: es, h => by
    simp only [mTs, Bool.and_eq_true] at h
    exact g_cons h.1.1 (sT a g h.1.2) (sTs r g h.2)
  | .nil, X, sc, g, e :: es, h => by simp [mTs] at h
  | .cons a r, X, sc, g, [], h => by simp [mTs] at h
end
end
end Mi

set_option Elab.async false
set_option linter.all false
set_option maxRecDepth 100000
set_option maxHeartbeats 8000000
/-! Mini 14: statements. -/
namespace Mi
open PySem L2
section
variable (L : Lk) (B : Nat)
def PoF (w : Wd) (r : R (Fl × Sl)) (D : Ends) : Prop := match r with
  | .ok p h' => ∀ w' : Wd, w'.h = h' → Nx L B w w' → (match p.1 with
    | .nx => ∀ σ', EnvR L w' p.2 σ' → D.nx σ' w'.H
    | .brk => ∀ σ', EnvR L w' p.2 σ' → D.bk σ' w'.H
    | .cnt => ∀ σ', EnvR L w' p.2 σ' → D.ct σ' w'.H
    | .ret rv => ∀ y, RVR L w w' rv y → D.rt y w'.H)
  | _ => False
def rSt (c : Sl → Mo (Fl × Sl)) : TS := fun D σ H => ∃ (w : Wd) (env : Sl), w.H = H ∧ Sm L w ∧ B ≤ w.n ∧ EnvR L w env σ ∧ PoF L B w (c env w.h) D
end
section
variable {L : Lk} {B : Nat} {α β : Type} {P : Wd → Wd → α → β → Prop} {w w1 : Wd} {D : Ends}
theorem PoF.bnd {c : Mo α} {f : α → Mo (Fl × Sl)} {h : Hm} {R' : β → Hp → Prop} (po : PoF L B w1 ((c.bnd f) h) D)
    (k : ∀ (a : α) (w2 : Wd) (b : β), c h = .ok a w2.h → Nx L B w w2 → P w w2 a b → PoF L B w1 (f a w2.h) D → R' b w2.H) : Po L B P w (c h) R' := by
  unfold Mo.bnd at po
  cases e : c h with
  | ok a h1 =>
    rw [e] at po
    intro w2 b e1 nx pp
    subst e1
    exact k a w2 b e nx pp po
  | exc c fs h1 => rw [e] at po; exact po
  | bad => rw [e] at po; exact po
theorem PoF.from {r : R (Fl × Sl)} (s : Sm L w) (nx : Nx L B w w1) (po : PoF L B w r D) : PoF L B w1 r D := by
  cases r with
  | ok p h1 =>
    intro w2 e nx2
    have q := po w2 e (nx.trans s nx2)
    cases hp : p.1 with
    | ret rv => rw [hp] at q; exact fun y ry => q y (shRV w w1 w2 rv y s nx ry)
    | nx => rw [hp] at q; exact q
    | brk => rw [hp] at q; exact q
    | cnt => rw [hp] at q; exact q
  | exc c fs h1 => exact po
  | bad => exact po
/-- a block's run, then what its way out leads to -/
theorem PoF.seq {c : Mo (Fl × Sl)} {f : Fl × Sl → Mo (Fl × Sl)} {D' : Ends} {h : Hm} (s : Sm L w1) (nx1 : Nx L B w1 w) (po : PoF L B w1 ((c.bnd f) h) D)
    (k : ∀ (p : Fl × Sl) (w2 : Wd), Nx L B w1 w2 → PoF L B w1 (f p w2.h) D → (match p.1 with
      | .nx => ∀ σ', EnvR L w2 p.2 σ' → D'.nx σ' w2.H
      | .brk => ∀ σ', EnvR L w2 p.2 σ' → D'.bk σ' w2.H
      | .cnt => ∀ σ', EnvR L w2 p.2 σ' → D'.ct σ' w2.H
      | .ret rv => ∀ y, RVR L w1 w2 rv y → D'.rt y w2.H)) : PoF L B w (c h) D' := by
  unfold Mo.bnd at po
  cases e : c h with
  | ok p h1 =>
    rw [e] at po
    intro w2 e1 nx2
    subst e1
    have q := k p w2 (nx1.trans s nx2) po
    cases hp : p.1 with
    | ret rv => rw [hp] at q; exact fun y ry => q y (shRV w1 w w2 rv y s nx1 ry)
    | nx => rw [hp] at q; exact q
    | brk => rw [hp] at q; exact q
    | cnt => rw [hp] at q; exact q
  | exc c fs h1 => rw [e] at po; exact po
  | bad => rw [e] at po; exact po
theorem PoF.ret {p : Fl × Sl} (po : PoF L B w1 (Mo.ret p w.h) D) (n : Nx L B w1 w) : (match p.1 with
    | .nx => ∀ σ', EnvR L w p.2 σ' → D.nx σ' w.H
    | .brk => ∀ σ', EnvR L w p.2 σ' → D.bk σ' w.H
    | .cnt => ∀ σ', EnvR L w p.2 σ' → D.ct σ' w.H
    | .ret rv => ∀ y, RVR L w1 w rv y → D.rt y w.H) := po w rfl n
end
section
variable {L : Lk} {T : Tb} {call new : String → List Val → Mo RV} {B : Nat} {X : Cx} {N : List Str} {sc : Sco} {pos : Pos}
abbrev rS (L : Lk) (T : Tb) (call new : String → List Val → Mo RV) (B : Nat) (m : MS) : TS := rSt L B (exS T call new B m)
abbrev rSs (L : Lk) (T : Tb) (call new : String → List Val → Mo RV) (B : Nat) (m : MSs) : TS := rSt L B (exSs T call new B m)
theorem rSt_unf {c c' : Sl → Mo (Fl × Sl)} (e : ∀ σ, c σ = c' σ) {D : Ends} {σ : St} {H : Hp} (h : rSt L B c D σ H) : rSt L B c' D σ H := by
  obtain ⟨w, env, h1, h2, h3, h4, po⟩ := h
  exact ⟨w, env, h1, h2, h3, h4, by rw [← e]; exact po⟩
theorem no_swap {v : Expr} (h : noComp v = true) (t : Option Expr) (l : Nat) (env : Env) : swapsWith v t l env = pure false := by
  cases v <;> first | rfl | cases h
theorem no_swapS {te v : Expr} (h : tupB te v = true) (env : Env) : swappedStores [te] v env = pure none := by
  unfold swappedStores
  cases te <;> cases v <;> first | rfl | cases h
theorem s_asgF {t : MT} {e : ME} {te v : Expr} (h1 : noStar te = true) (h2 : noComp v = true) (h3 : tupB te v = true)
    (ht : PG X te (rG L T call new B t)) (he : PR L T call new B X e v) : PS X (.Assign [te] v pos) (rS L T call new B (.asg t false e)) := by
  refine ps_imp (ps_asg (sV he) ht (no_swap h2 _ _ _) (no_swapS h3 _) (by rw [star_asg h1]; rfl)) fun D σ H h => ?_
  obtain ⟨w, env, rfl, sm, hB, er, po⟩ := rSt_unf (c' := fun σ => (evV T call new B e σ).bnd fun v => (evG T call new B t v σ).bnd fun σ1 => .ret (.nx, σ1)) (fun σ => by rw [exS] <;> rfl) h
  refine ⟨w, env, rfl, sm, hB, er, po.bnd fun vx w1 x e1 n1 r1 q1 => ?_⟩
  refine ⟨w1, env, vx, rfl, n1.sm, n1.b hB, er.nx n1, r1, q1.bnd fun σ1 w2 σ2 e2 n2 p2 q2 => ?_⟩
  exact q2.ret (n1.trans sm n2) σ2 p2.1
theorem s_asgT {t : MT} {e : ME} {te v : Expr} (h1 : noStar te = true) (h2 : noComp v = true) (h3 : tupB te v = true)
    (ht : PG X te (rG L T call new B t)) (he : PR L T call new B X e v) : PS X (.Assign [te] v pos) (rS L T call new B (.asg t true e)) := by
  refine ps_imp (ps_asg he ht (no_swap h2 _ _ _) (no_swapS h3 _) (by rw [star_asg h1]; rfl)) fun D σ H h => ?_
  obtain ⟨w, env, rfl, sm, hB, er, po⟩ := h
  rw [exS] at po
  refine ⟨w, env, rfl, sm, hB, er, po.bnd fun r w1 x e1 n1 r1 q1 => ?_⟩
  cases r with
  | v z => exact q1.elim
  | own c =>
    obtain ⟨p, o, rfl, ho, rc, hg, hn, h0⟩ := r1
    have n2 := Nx.place sm n1 ho rc hg hn h0 hB
    refine ⟨⟨w1.G, fun i => if i = w1.n then p else w1.i i, w1.h ++ [c], w1.H⟩, env, .ref w1.h.length, rfl, n2.sm, n2.b hB, er.nx n2, ?_, ?_⟩
    · have : VR L w1.G (fun i => if i = w1.n then p else w1.i i) (w1.h ++ [c]).length (.ref w1.n) (.ref ((fun i => if i = w1.n then p else w1.i i) w1.n)) := .ref (by simp [Wd.n])
      have e : (fun i => if i = w1.n then p else w1.i i) w1.n = p := if_pos rfl
      rw [e] at this
      exact this
    · refine PoF.bnd (w1 := w) (D := D) (f := fun σ1 => .ret (.nx, σ1)) q1 fun σ1 w2 σ2 e2 n3 p2 q2 => ?_
      exact q2.ret (n2.trans sm n3) σ2 p2.1
theorem s_expr {e : ME} {v : Expr} (h2 : noComp v = true) (he : PR L T call new B X e v) : PS X (.Expr v pos) (rS L T call new B (.expr e)) := by
  refine ps_imp (ps_expr (sV he) (no_swap h2 _ _ _)) fun D σ H h => ?_
  obtain ⟨w, env, rfl, sm, hB, er, po⟩ := rSt_unf (c' := fun σ => (evV T call new B e σ).bnd fun _ => .ret (.nx, σ)) (fun σ => by rw [exS] <;> rfl) h
  exact ⟨w, env, rfl, sm, hB, er, po.bnd fun vx w1 x e1 n1 r1 q1 => q1.ret n1 σ (er.nx n1)⟩
theorem s_ret {e : ME} {v : Expr} (he : PR L T call new B X e v) : PS X (.Return (some v) pos) (rS L T call new B (.ret e)) := by
  refine ps_imp (ps_ret he) fun D σ H h => ?_
  obtain ⟨w, env, rfl, sm, hB, er, po⟩ := h
  rw [exS] at po
  exact ⟨w, env, rfl, sm, hB, er, po.bnd fun vx w1 x e1 n1 r1 q1 => q1.ret n1 x r1⟩
theorem s_retN : PS X (.Return none pos) (rS L T call new B .retN) := by
  refine ps_imp ps_retN fun D σ H h => ?_
  obtain ⟨w, env, rfl, sm, hB, er, po⟩ := h
  rw [exS] at po
  exact po.ret (Nx.refl sm) .non (VR.d .non)
theorem s_pass : PS X (.Pass pos) (rS L T call new B .pass) := ps_imp ps_pass fun D σ H ⟨w, env, e, sm, hB, er, po⟩ => by
  subst e; rw [exS] at po; exact po.ret (Nx.refl sm) σ er
theorem s_brk : PS X (.Break pos) (rS L T call new B .brk) := ps_imp ps_break fun D σ H ⟨w, env, e, sm, hB, er, po⟩ => by
  subst e; rw [exS] at po; exact po.ret (Nx.refl sm) σ er
theorem s_cnt : PS X (.Continue pos) (rS L T call new B .cnt) := ps_imp ps_continue fun D σ H ⟨w, env, e, sm, hB, er, po⟩ => by
  subst e; rw [exS] at po; exact po.ret (Nx.refl sm) σ er
theorem s_ite {c : ME} {a b : MSs} {t : Expr} {x y : List Stmt} (hc : PT X t (rT L T call new B c)) (ha : PSs X x (rSs L T call new B a)) (hb : PSs X y (rSs L T call new B b)) : PS X (.If t x y pos) (rS L T call new B (.ite c a b)) := by
  refine ps_imp (ps_if hc ha hb) fun D σ H h => ?_
  obtain ⟨w, env, rfl, sm, hB, er, po⟩ := h
  rw [exS] at po
  refine ⟨w, env, rfl, sm, hB, er, po.bnd fun k w1 k' e1 n1 r1 q1 => ?_⟩
  cases (show k = k' from r1)
  replace q1 := q1.from sm n1
  cases k with
  | true => rw [if_pos rfl] at q1 ⊢; exact ⟨w1, env, rfl, n1.sm, n1.b hB, er.nx n1, q1⟩
  | false => rw [if_neg Bool.false_ne_true] at q1 ⊢; exact ⟨w1, env, rfl, n1.sm, n1.b hB, er.nx n1, q1⟩
theorem s_nil : PSs X [] (rSs L T call new B .nil) := pss_imp pss_nil fun D σ H ⟨w, env, e, sm, hB, er, po⟩ => by
  subst e; rw [exSs] at po; exact po.ret (Nx.refl sm) σ er
theorem s_cons {a : MS} {r : MSs} {s : Stmt} {ss : List Stmt} (h1 : PS X s (rS L T call new B a)) (h2 : PSs X ss (rSs L T call new B r)) : PSs X (s :: ss) (rSs L T call new B (.cons a r)) := by
  refine pss_imp (pss_cons h1 h2) fun D σ H h => ?_
  obtain ⟨w, env, rfl, sm, hB, er, po⟩ := h
  rw [exSs] at po
  refine ⟨w, env, rfl, sm, hB, er, po.seq sm (Nx.refl sm) fun p w2 n2 q => ?_⟩
  cases hp : p.1 with
  | nx =>
    rw [hp] at q
    exact fun σ' er' => ⟨w2, p.2, rfl, n2.sm, n2.b hB, er', q.from sm n2⟩
  | brk => rw [hp] at q; exact q.ret n2
  | cnt => rw [hp] at q; exact q.ret n2
  | ret rv => rw [hp] at q; exact q.ret n2

/-! ### loops -/
def forStep (T : Tb) (call new : String → List Val → Mo RV) (B : Nat) (t : MT) (b : MSs) : Val → Sl → Mo (Fl × Sl) := fun v σ => (evG T call new B t v σ).bnd fun σ1 => exSs T call new B b σ1
/-- one turn -/
theorem for_turn {t : MT} {b : MSs} {K : Fl × Sl → Mo (Fl × Sl)} {v : Val} {x : V} {w1 w2 : Wd} {env : Sl} {σ : St} {D : Ends} {Nxt : St → Hp → Prop} (s1 : Sm L w1) (hB1 : B ≤ w1.n) (n2 : Nx L B w1 w2) (er : EnvR L w2 env σ) (rv : wV L w2 v x)
    (po : PoF L B w1 (((forStep T call new B t b v env).bnd K) w2.h) D)
    (hn : ∀ (e : Sl) (w3 : Wd) (σ' : St), Nx L B w1 w3 → EnvR L w3 e σ' → PoF L B w1 (K (.nx, e) w3.h) D → Nxt σ' w3.H)
    (hc : ∀ (e : Sl) (w3 : Wd) (σ' : St), Nx L B w1 w3 → EnvR L w3 e σ' → PoF L B w1 (K (.cnt, e) w3.h) D → Nxt σ' w3.H)
    (hb : ∀ (e : Sl) (w3 : Wd) (σ' : St), Nx L B w1 w3 → EnvR L w3 e σ' → PoF L B w1 (K (.brk, e) w3.h) D → D.nx σ' w3.H)
    (hr : ∀ (e : Sl) (rv : RV) (w3 : Wd) (y : V), Nx L B w1 w3 → RVR L w1 w3 rv y → PoF L B w1 (K (.ret rv, e) w3.h) D → D.rt y w3.H) :
    rG L T call new B t x σ w2.H fun σ2 H2 => rSs L T call new B b { D with nx := Nxt, ct := Nxt, bk := D.nx } σ2 H2 := by
  unfold forStep at po
  rw [Mo.assoc] at po
  refine ⟨w2, env, v, rfl, n2.sm, n2.b hB1, er, rv, po.bnd fun σ1 w3 σ2 e3 n3 pg q3 => ?_⟩
  have n13 := n2.trans s1 n3
  refine ⟨w3, σ1, rfl, n3.sm, n3.b (n2.b hB1), pg.1, q3.seq s1 n13 fun p w4 n4 q => ?_⟩
  obtain ⟨f, e⟩ := p
  cases f with
  | nx => exact fun σ' er' => hn e w4 σ' n4 er' q
  | cnt => exact fun σ' er' => hc e w4 σ' n4 er' q
  | brk => exact fun σ' er' => hb e w4 σ' n4 er' q
  | ret rv => exact fun y ry => hr e rv w4 y n4 ry q
theorem for_core {t : MT} {it : MI} {b : MSs} {D : Ends} {σ : St} {H : Hp} (h : rS L T call new B (.for t it b) D σ H) : tFor (rI L T call new B it) (rG L T call new B t) (rSs L T call new B b) D σ H := by
  obtain ⟨w, env, rfl, sm, hB, er, po⟩ := h
  have po' : PoF L B w (((evI T call new B it env).bnd fun k => (match k with
      | .fix vs => forF (forStep T call new B t b) vs env
      | .cell i => forC i (forStep T call new B t b) lineN 0 env : Mo (Fl × Sl))) w.h) D := by
    rw [exS] at po; exact po
  refine ⟨w, env, rfl, sm, hB, er, po'.bnd fun k w1 J e1 n1 pw q1 => ?_⟩
  replace q1 := q1.from sm n1
  have s1 := n1.sm
  have hB1 := n1.b hB
  have er1 := er.nx n1
  cases k with
  | fix vs =>
    obtain ⟨xs, rx, fx⟩ := pw
    refine ⟨fun i m σ H => m = xs.length - i ∧ i ≤ xs.length ∧ ∃ (w2 : Wd) (e : Sl), w2.H = H ∧ Nx L B w1 w2 ∧ EnvR L w2 e σ ∧ PoF L B w1 (forF (forStep T call new B t b) (vs.drop i) e w2.h) D, ⟨xs.length, by simp, Nat.zero_le _, w1, env, rfl, Nx.refl s1, er1, q1⟩, ?_⟩
    rintro i m σ H ⟨rfl, hi, w2, e, rfl, n2, er2, po2⟩
    obtain ⟨f1, f2, f3⟩ := fx w2 n2 i
    by_cases hlt : i < xs.length
    · right
      refine ⟨f2 hlt, fun σ' H' => i + 1 ≤ xs.length ∧ ∃ (w2 : Wd) (e : Sl), w2.H = H' ∧ Nx L B w1 w2 ∧ EnvR L w2 e σ' ∧ PoF L B w1 (forF (forStep T call new B t b) (vs.drop (i + 1)) e w2.h) D, fun σ' H' h => ⟨xs.length - (i + 1), by omega, rfl, h.1, h.2⟩, fun x H' y => ?_⟩
      obtain ⟨rfl, hx⟩ := f3 x H' hlt y
      obtain ⟨v, hv, rv⟩ := rx.getV hx
      have hd : vs.drop i = v :: vs.drop (i + 1) := by
        obtain ⟨hlv, ev⟩ := List.getElem?_eq_some_iff.mp hv
        rw [List.drop_eq_getElem_cons hlv, ev]
      rw [hd, forF] at po2
      exact for_turn s1 hB1 n2 er2 (n2.v rv) po2 (fun e w3 σ' n3 er3 q => ⟨hlt, w3, e, rfl, n3, er3, q⟩) (fun e w3 σ' n3 er3 q => ⟨hlt, w3, e, rfl, n3, er3, q⟩) (fun e w3 σ' n3 er3 q => q.ret n3 σ' er3) (fun e rv w3 y n3 ry q => q.ret n3 y ry)
    · left
      have he : i = xs.length := by omega
      subst he
      refine ⟨f1 (Nat.le_refl _), ?_⟩
      rw [show vs.drop xs.length = [] from by rw [← rx.length]; exact List.drop_length, forF] at po2
      exact po2.ret n2 σ er2
  | cell i0 =>
    obtain ⟨hi0, rfl⟩ := pw
    refine ⟨fun i m σ H => ∃ (w2 : Wd) (e : Sl), w2.H = H ∧ Nx L B w1 w2 ∧ EnvR L w2 e σ ∧ PoF L B w1 (forC i0 (forStep T call new B t b) m i e w2.h) D, ⟨lineN, w1, env, rfl, Nx.refl s1, er1, q1⟩, ?_⟩
    rintro i m σ H ⟨w2, e, rfl, n2, er2, po2⟩
    cases m with
    | zero => exact po2.elim
    | succ m =>
      have hi2 : i0 < w2.n := Nat.lt_of_lt_of_le hi0 n2.len
      obtain ⟨c, hc⟩ : ∃ c, w2.h[i0]? = some c := ⟨_, List.getElem?_eq_getElem hi2⟩
      obtain ⟨o, ho, rc⟩ := n2.sm.cell i0 c hc
      rw [n2.same i0 hi0] at ho
      have isL : ∃ vs, c = .lst vs := by
        cases c with
        | lst vs => exact ⟨vs, rfl⟩
        | dicK _ => exfalso; rw [forC] at po2; simp only [hc] at po2; exact po2
        | dicT _ => exfalso; rw [forC] at po2; simp only [hc] at po2; exact po2
        | ins _ _ => exfalso; rw [forC] at po2; simp only [hc] at po2; exact po2
      obtain ⟨vs, rfl⟩ := isL
      cases rc with
      | @lst vs xs rl =>
      rw [forC] at po2
      simp only [hc] at po2
      cases hv : vs[i]? with
      | none =>
        left
        simp only [hv] at po2
        have hl : xs.length ≤ i := by rw [← rl.length]; exact List.getElem?_eq_none_iff.mp hv
        exact ⟨⟨xs, SqL.of ho, hl⟩, PoF.ret (p := (.nx, e)) po2 n2 σ er2⟩
      | some v =>
        right
        simp only [hv] at po2
        obtain ⟨x, hx, rv⟩ := rl.get hv
        refine ⟨⟨xs, x, SqL.of ho, hx⟩, fun σ' H' => ∃ (w2 : Wd) (e : Sl), w2.H = H' ∧ Nx L B w1 w2 ∧ EnvR L w2 e σ' ∧ PoF L B w1 (forC i0 (forStep T call new B t b) m (i + 1) e w2.h) D, fun σ' H' h => ⟨m, Nat.lt_succ_self _, h⟩, fun x' H' y => ?_⟩
        obtain ⟨rfl, hy⟩ := y
        have := hy xs (SqL.of ho)
        rw [hx] at this
        cases this
        exact for_turn s1 hB1 n2 er2 rv po2 (fun e w3 σ' n3 er3 q => ⟨w3, e, rfl, n3, er3, q⟩) (fun e w3 σ' n3 er3 q => ⟨w3, e, rfl, n3, er3, q⟩) (fun e w3 σ' n3 er3 q => q.ret n3 σ' er3) (fun e rv w3 y n3 ry q => q.ret n3 y ry)
theorem while_core {c : ME} {b : MSs} {D : Ends} {σ : St} {H : Hp} (h : rS L T call new B (.while c b) D σ H) : tWhile (rT L T call new B c) (rSs L T call new B b) D σ H := by
  obtain ⟨w1, env, rfl, s1, hB1, er1, po⟩ := h
  rw [exS] at po
  refine ⟨fun m σ H => ∃ (w2 : Wd) (e : Sl), w2.H = H ∧ Nx L B w1 w2 ∧ EnvR L w2 e σ ∧ PoF L B w1 (whileF (fun σ => evT T call new B c σ) (fun σ => exSs T call new B b σ) m e w2.h) D, ⟨lineN, w1, env, rfl, Nx.refl s1, er1, po⟩, ?_⟩
  rintro m σ H ⟨w2, e, rfl, n2, er2, po2⟩
  cases m with
  | zero => exact po2.elim
  | succ m =>
    rw [whileF] at po2
    refine ⟨w2, e, rfl, n2.sm, n2.b hB1, er2, po2.bnd fun k w3 k' e3 n3 r3 q3 => ?_⟩
    cases (show k = k' from r3)
    have n13 := n2.trans s1 n3
    cases k with
    | false => rw [if_neg Bool.false_ne_true] at q3 ⊢; exact q3.ret n13 σ (er2.nx n3)
    | true =>
      rw [if_pos rfl] at q3 ⊢
      refine ⟨fun σ' H' => ∃ (w2 : Wd) (e : Sl), w2.H = H' ∧ Nx L B w1 w2 ∧ EnvR L w2 e σ' ∧ PoF L B w1 (whileF (fun σ => evT T call new B c σ) (fun σ => exSs T call new B b σ) m e w2.h) D, fun σ' H' h => ⟨m, Nat.lt_succ_self _, h⟩, ?_⟩
      refine ⟨w3, e, rfl, n3.sm, n3.b (n2.b hB1), er2.nx n3, q3.seq s1 n13 fun p w4 n4 q => ?_⟩
      obtain ⟨f, e4⟩ := p
      cases f with
      | nx => exact fun σ' er' => ⟨w4, e4, rfl, n4, er', q⟩
      | cnt => exact fun σ' er' => ⟨w4, e4, rfl, n4, er', q⟩
      | brk => exact fun σ' er' => q.ret n4 σ' er'
      | ret rv => exact fun y ry => q.ret n4 y ry

theorem tg_name {X : Cx} {t : Expr} {c : TG} {i : Nat} {y : Str} : True := trivial
end
section
variable {L : Lk} {T : Tb} {call new : String → List Val → Mo RV} {B : Nat} {X : Cx} {N : List Str} {sc : Sco} {pos : Pos}
theorem s_for {t : MT} {it : MI} {b : MSs} {te ie : Expr} {x : List Stmt} (hp : PassesOwn (model X.prog X.w) X.A X.env X.xe) (hc : X.calm = true) (hset : noSet ie = true) (hi : PI X te ie (rI L T call new B it)) (hg : PG X te (rG L T call new B t)) (hb : PSs X x (rSs L T call new B b)) :
    PS X (.For te ie x [] pos) (rS L T call new B (.for t it b)) :=
  ps_imp (ps_for hp hc hi hg hb (fun x => set_plain hset _ x)) fun _ _ _ h => for_core h
theorem s_while {c : ME} {b : MSs} {t : Expr} {x : List Stmt} (hp : PassesOwn (model X.prog X.w) X.A X.env X.xe) (hc : PT X t (rT L T call new B c)) (hb : PSs X x (rSs L T call new B b)) : PS X (.While t x [] pos) (rS L T call new B (.while c b)) :=
  ps_imp (ps_while hp hc hb) fun _ _ _ h => while_core h
theorem s_raise {e : Option Expr} {c : Option Expr} : PS X (.Raise e c pos) (rS L T call new B .raise) :=
  ps_imp ps_never fun D σ H ⟨w, env, e, sm, hB, er, po⟩ => by rw [exS] at po; exact po.elim
end
end Mi

set_option Elab.async false
set_option linter.all false
set_option maxRecDepth 100000
set_option maxHeartbeats 8000000
/-! Mini 15: every statement. -/
namespace Mi
open PySem L2
section
variable {N : List Str} {sc : Sco} {s : Stmt}
theorem inv_asg {t : MT} {k : Bool} {e : ME} (h : mS N sc (.asg t k e) s = true) : ∃ te v pos, s = .Assign [te] v pos ∧ noStar te = true ∧ mT N sc t te = true ∧ mE N sc e v = true ∧ (lcB sc.v te v = true ∨ (noComp v = true ∧ tupB te v = true)) := by
  cases s <;> try (exfalso; simp only [mS, Bool.false_eq_true] at h; done)
  rename_i ts v pos
  cases ts with
  | nil => exfalso; simp only [mS, Bool.false_eq_true] at h
  | cons te r =>
    cases r with
    | cons _ _ => exfalso; simp only [mS, Bool.false_eq_true] at h
    | nil =>
      simp only [mS, Bool.and_eq_true, Bool.or_eq_true] at h
      exact ⟨_, _, _, rfl, h.1.1.1, h.1.1.2, h.1.2, h.2⟩
theorem inv_expr {e : ME} (h : mS N sc (.expr e) s = true) : ∃ v pos, s = .Expr v pos ∧ noComp v = true ∧ mE N sc e v = true := by
  cases s <;> try (exfalso; simp only [mS, Bool.false_eq_true] at h; done)
  simp only [mS, Bool.and_eq_true] at h
  exact ⟨_, _, rfl, h.1, h.2⟩
theorem inv_ret {e : ME} (h : mS N sc (.ret e) s = true) : ∃ v pos, s = .Return (some v) pos ∧ mE N sc e v = true := by
  cases s <;> try (exfalso; simp only [mS, Bool.false_eq_true] at h; done)
  rename_i o pos
  cases o with
  | none => exfalso; simp only [mS, Bool.false_eq_true] at h
  | some v => exact ⟨_, _, rfl, by simpa only [mS] using h⟩
theorem inv_retN (h : mS N sc .retN s = true) : ∃ pos, s = .Return none pos := by
  cases s <;> try (exfalso; simp only [mS, Bool.false_eq_true] at h; done)
  rename_i o pos
  cases o with
  | some v => exfalso; simp only [mS, Bool.false_eq_true] at h
  | none => exact ⟨_, rfl⟩
theorem inv_ite {c : ME} {a b : MSs} (h : mS N sc (.ite c a b) s = true) : ∃ t x y pos, s = .If t x y pos ∧ mE N sc c t = true ∧ mSs N sc a x = true ∧ mSs N sc b y = true := by
  cases s <;> try (exfalso; simp only [mS, Bool.false_eq_true] at h; done)
  simp only [mS, Bool.and_eq_true] at h
  exact ⟨_, _, _, _, rfl, h.1.1, h.1.2, h.2⟩
theorem inv_for {t : MT} {it : MI} {b : MSs} (h : mS N sc (.for t it b) s = true) : ∃ te ie x pos, s = .For te ie x [] pos ∧ mT N sc t te = true ∧ mI N sc it ie = true ∧ noSet ie = true ∧ mSs N sc b x = true := by
  cases s <;> try (exfalso; simp only [mS, Bool.false_eq_true] at h; done)
  rename_i te ie x o pos
  cases o with
  | cons _ _ => exfalso; simp only [mS, Bool.false_eq_true] at h
  | nil =>
    simp only [mS, Bool.and_eq_true] at h
    exact ⟨_, _, _, _, rfl, h.1.1.1, h.1.1.2, h.1.2, h.2⟩
theorem inv_while {c : ME} {b : MSs} (h : mS N sc (.while c b) s = true) : ∃ t x pos, s = .While t x [] pos ∧ mE N sc c t = true ∧ mSs N sc b x = true := by
  cases s <;> try (exfalso; simp only [mS, Bool.false_eq_true] at h; done)
  rename_i t x o pos
  cases o with
  | cons _ _ => exfalso; simp only [mS, Bool.false_eq_true] at h
  | nil =>
    simp only [mS, Bool.and_eq_true] at h
    exact ⟨_, _, _, rfl, h.1, h.2⟩
theorem inv_pass (h : mS N sc .pass s = true) : ∃ pos, s = .Pass pos := by
  cases s <;> first | exact ⟨_, rfl⟩ | (exfalso; simp only [mS, Bool.false_eq_true] at h)
theorem inv_brk (h : mS N sc .brk s = true) : ∃ pos, s = .Break pos := by
  cases s <;> first | exact ⟨_, rfl⟩ | (exfalso; simp only [mS, Bool.false_eq_true] at h)
theorem inv_cnt (h : mS N sc .cnt s = true) : ∃ pos, s = .Continue pos := by
  cases s <;> first | exact ⟨_, rfl⟩ | (exfalso; simp only [mS, Bool.false_eq_true] at h)
theorem inv_raise (h : mS N sc .raise s = true) : ∃ a b pos, s = .Raise a b pos := by
  cases s <;> first | exact ⟨_, _, _, rfl⟩ | (exfalso; simp only [mS, Bool.false_eq_true] at h)
theorem inv_lcB {v : Scope} {te e : Expr} (h : lcB v te e = true) : ∃ y py x gs scope cpos, te = .Name y py ∧ e = .ListComp x gs scope cpos ∧ v.kind = .function ∧ v.names.lookup y = some .local ∧ (py.line == cpos.line) = true ∧ (scope.names.any fun (n, k) => n == y && (k == .local || k == .cell)) = false := by
  cases te <;> try (exfalso; simp only [lcB, Bool.false_eq_true] at h; done)
  cases e <;> try (exfalso; simp only [lcB, Bool.false_eq_true] at h; done)
  rename_i y py x gs scope cpos
  simp only [lcB, Bool.and_eq_true, Bool.not_eq_true'] at h
  refine ⟨y, py, x, gs, scope, cpos, rfl, rfl, ?_, ?_, ?_, h.2⟩
  · have := h.1.1.1
    split at this
    · assumption
    · cases this
  · have := h.1.1.2
    split at this
    · assumption
    · cases this
  · have := of_decide_eq_true h.1.2
    rw [this]; exact beq_self_eq_true _
theorem inv_mTname {t : MT} {y : Str} {py : Pos} (h : mT N sc t (.Name y py) = true) : ∃ i, t = .name i := by
  cases t <;> first | exact ⟨_, rfl⟩ | (exfalso; simp only [mT, Bool.false_eq_true] at h)
theorem inv_mElc {m : ME} {x : Expr} {gs : List Comprehension} {scope : Scope} {pos : Pos} (h : mE N sc m (.ListComp x gs scope pos) = true) : ∃ elt tg it ifs own, m = .lc elt tg it ifs own := by
  cases m <;> first | exact ⟨_, _, _, _, _, rfl⟩ | (exfalso; simp only [mE, Bool.false_eq_true] at h)
end
section
variable {L : Lk} {T : Tb} {call new : String → List Val → Mo RV} {B : Nat} {N : List Str}
theorem rV_rE {m : ME} {σ : St} {H : Hp} {Q : V → Hp → Prop} (h : rV L T call new B m σ H Q) : rE L T call new B m σ H Q := by
  obtain ⟨w, env, e1, sm, hB, er, po⟩ := h
  refine ⟨w, env, e1, sm, hB, er, ?_⟩
  subst e1
  have po' : Po L B (pV L) w (((evE T call new B m env).bnd fun r => frzM r) w.h) Q := po
  refine po'.bnd fun r w1 y e1 nx rr q => ?_
  unfold frzM Mo.opt at q
  cases ef : r.frz with
  | none => rw [ef] at q; exact q.elim
  | some v =>
    rw [ef] at q
    obtain ⟨w2, h1, h2, n2, rv⟩ := RVR.frz sm nx rr ef
    have := q w2 y h1 n2 rv
    rw [h2] at this; exact this
theorem asg_core {t : MT} {k : Bool} {e : ME} {D : Ends} {σ : St} {H : Hp} (h : rS L T call new B (.asg t k e) D σ H) : tAsg (rE L T call new B e) (rG L T call new B t) D σ H := by
  cases k with
  | false =>
    refine rV_rE ?_
    obtain ⟨w, env, rfl, sm, hB, er, po⟩ := rSt_unf (c' := fun σ => (evV T call new B e σ).bnd fun v => (evG T call new B t v σ).bnd fun σ1 => .ret (.nx, σ1)) (fun σ => by rw [exS] <;> rfl) h
    refine ⟨w, env, rfl, sm, hB, er, po.bnd fun vx w1 x e1 n1 r1 q1 => ?_⟩
    refine ⟨w1, env, vx, rfl, n1.sm, n1.b hB, er.nx n1, r1, q1.bnd fun σ1 w2 σ2 e2 n2 p2 q2 => ?_⟩
    exact q2.ret (n1.trans sm n2) σ2 p2.1
  | true =>
    obtain ⟨w, env, rfl, sm, hB, er, po⟩ := h
    rw [exS] at po
    refine ⟨w, env, rfl, sm, hB, er, po.bnd fun r w1 x e1 n1 r1 q1 => ?_⟩
    cases r with
    | v z => exact q1.elim
    | own c =>
      obtain ⟨p, o, rfl, ho, rc, hg, hn, h0⟩ := r1
      have n2 := Nx.place sm n1 ho rc hg hn h0 hB
      refine ⟨⟨w1.G, fun i => if i = w1.n then p else w1.i i, w1.h ++ [c], w1.H⟩, env, .ref w1.h.length, rfl, n2.sm, n2.b hB, er.nx n2, ?_, ?_⟩
      · have : VR L w1.G (fun i => if i = w1.n then p else w1.i i) (w1.h ++ [c]).length (.ref w1.n) (.ref ((fun i => if i = w1.n then p else w1.i i) w1.n)) := .ref (by simp [Wd.n])
        have e : (fun i => if i = w1.n then p else w1.i i) w1.n = p := if_pos rfl
        rw [e] at this
        exact this
      · refine PoF.bnd (w1 := w) (D := D) (f := fun σ1 => .ret (.nx, σ1)) q1 fun σ1 w2 σ2 e2 n3 p2 q2 => ?_
        exact q2.ret (n2.trans sm n3) σ2 p2.1
theorem name_core {i : Nat} {x : V} {σ : St} {H : Hp} {Q : St → Hp → Prop} (h : rG L T call new B (.name i) x σ H Q) : gName i x σ H Q := by
  obtain ⟨w, env, vv, e, sm, hB, er, rv, po⟩ := h
  subst e
  rw [evG] at po
  split at po
  · refine po w (σ.set i (some x)) rfl (Nx.refl sm) ⟨er.set rv, fun j hj => ?_⟩
    rw [List.getElem?_set_ne (by simp only [MT.slots, List.mem_singleton] at hj; exact fun e => hj e.symm)]
  · exact po.elim
theorem rE_mono {m : ME} {σ : St} {H : Hp} {Q Q' : V → Hp → Prop} (h : rE L T call new B m σ H Q) (k : ∀ x H, Q x H → Q' x H) : rE L T call new B m σ H Q' := by
  obtain ⟨w, env, e, sm, hB, er, po⟩ := h
  exact ⟨w, env, e, sm, hB, er, po.imp fun b w2 h => k _ _ h⟩
theorem s_asg {X : Cx} {sc : Sco} {pos : Pos} {t : MT} {k : Bool} {e : ME} {te v : Expr} (h1 : noStar te = true) (h2 : noComp v = true) (h3 : tupB te v = true)
    (ht : PG X te (rG L T call new B t)) (he : PR L T call new B X e v) : PS X (.Assign [te] v pos) (rS L T call new B (.asg t k e)) :=
  ps_imp (ps_asg he ht (no_swap h2 _ _ _) (no_swapS h3 _) (by rw [star_asg h1]; rfl)) fun D σ H h => asg_core h
theorem s_setLc {X : Cx} {sc : Sco} {pos spos : Pos} (g : Gd L T call new X N sc) {k : Bool} {j : Nat} {y : Str} {py : Pos} {elt : ME} {tg : MT} {it : MI} {ifs : MO} {own : List (String × Nat)} {x t i : Expr} {cs : List Expr} {scope : Scope} (hb : blkC N sc.v scope (own.map fun p => (S p.1, p.2)) = true) (hs : ∀ j ∈ tg.slots, j ∈ own.map Prod.snd) (hset : noSet i = true)
    (hi : PI X t i (rI L T call new B it)) (hg : ∀ X' : Cx, Gd L T call new X' N ⟨relS scope sc.v, scope⟩ → PG X' t (rG L T call new B tg)) (ht : ∀ X' : Cx, Gd L T call new X' N ⟨relS scope sc.v, scope⟩ → PTs X' cs (rO L T call new B ifs))
    (he : ∀ X' : Cx, Gd L T call new X' N ⟨relS scope sc.v, scope⟩ → PR L T call new B X' elt x) (hy : N[j]? = some y) (hk : sc.v.kind = .function) (hyl : sc.v.names.lookup y = some .local) (hl : (py.line == pos.line) = true) (ha : (scope.names.any fun (n, k) => n == y && (k == .local || k == .cell)) = false) :
    PS X (.Assign [.Name y py] (.ListComp x [⟨t, i, cs, 0⟩] scope pos) spos) (rS L T call new B (.asg (.name j) k (.lc elt tg it ifs own))) := by
  have ok : BlkOk X.N X.env.scope scope (own.map fun p => (S p.1, p.2)) := by
    rw [g.hN, g.hv]; exact blkOk_by hb
  have e1 : (own.map fun p => (S p.1, p.2)).map (·.2) = own.map Prod.snd := by rw [List.map_map]; rfl
  refine ps_imp (ps_setLc (i := j) (te := rV L T call new B elt) g.calm g.nd (by rw [g.hN]; exact hy) (by rw [g.hv]; exact hyl) (sw_true (by rw [g.hv]; exact hk) (by rw [g.hv]; exact hyl) hl ha) hi ok (fun s H C cl fp => hg _ (g.blk s H scope cl C fp)) (fun s H C cl fp => ht _ (g.blk s H scope cl C fp)) (fun s H C cl fp => sV (he _ (g.blk s H scope cl C fp))) (fun x => set_plain hset _ x)) fun D σ H h => ?_
  rw [e1]
  have h0 : rE L T call new B (.lc elt tg it ifs own) σ H (fun x H1 => rG L T call new B (.name j) x σ H1 D.nx) := asg_core h
  exact lc_core' hs (rE_mono h0 fun x H q => name_core q)
mutual
theorem sS : ∀ (m : MS) {X : Cx} {sc : Sco} (g : Gd L T call new X N sc) (hp : PassesOwn (model X.prog X.w) X.A X.env X.xe) {s : Stmt}, mS N sc m s = true → PS X s (rS L T call new B m)
  | .asg t k e, X, sc, g, hp, s, h => by
    obtain ⟨te, v, pos, rfl, h1, h2, h3, h4⟩ := inv_asg h
    rcases h4 with h4 | ⟨h4, h5⟩
    · obtain ⟨y, py, x, gs, scope, cpos, rfl, rfl, hk, hyl, hl, ha⟩ := inv_lcB h4
      obtain ⟨j, rfl⟩ := inv_mTname h2
      obtain ⟨elt, tg, it, ifs, own, rfl⟩ := inv_mElc h3
      obtain ⟨x', t', i', cs, scope', pos', e0, a1, a2, a3, a4, a5, a6, a7⟩ := inv_lc h3
      injection e0 with e1 e2 e3 e4
      subst e1 e2 e3 e4
      obtain ⟨y', p', e5, b1, b2, b3⟩ := inv_tname h2
      injection e5 with e6 e7
      subst e6 e7
      exact s_setLc g a1 a2 a4 (sI it g a3) (fun X' g' => sT tg g' a5) (fun X' g' => sO ifs g' a6) (fun X' g' => (sE elt g' a7).v) b1 hk hyl hl ha
    · exact s_asg (sc := sc) h1 h4 h5 (sT t g h2) (sE e g h3).v
  | .expr e, X, sc, g, hp, s, h => by
    obtain ⟨v, pos, rfl, h1, h2⟩ := inv_expr h
    exact s_expr h1 (sE e g h2).v
  | .ret e, X, sc, g, hp, s, h => by
    obtain ⟨v, pos, rfl, h2⟩ := inv_ret h
    exact s_ret (sE e g h2).v
  | .retN, X, sc, g, hp, s, h => by
    obtain ⟨pos, rfl⟩ := inv_retN h
    exact s_retN
  | .ite c a b, X, sc, g, hp, s, h => by
    obtain ⟨t, x, y, pos, rfl, h1, h2, h3⟩ := inv_ite h
    exact s_ite (sE c g h1).t (sSs a g hp h2) (sSs b g hp h3)
  | .for t it b, X, sc, g, hp, s, h => by
    obtain ⟨te, ie, x, pos, rfl, h1, h2, h3, h4⟩ := inv_for h
    exact s_for hp g.calm h3 (sI it g h2) (sT t g h1) (sSs b g hp h4)
  | .while c b, X, sc, g, hp, s, h => by
    obtain ⟨t, x, pos, rfl, h1, h2⟩ := inv_while h
    exact s_while hp (sE c g h1).t (sSs b g hp h2)
  | .pass, X, sc, g, hp, s, h => by
    obtain ⟨pos, rfl⟩ := inv_pass h
    exact s_pass
  | .brk, X, sc, g, hp, s, h => by
    obtain ⟨pos, rfl⟩ := inv_brk h
    exact s_brk
  | .cnt, X, sc, g, hp, s, h => by
    obtain ⟨pos, rfl⟩ := inv_cnt h
    exact s_cnt
  | .raise, X, sc, g, hp, s, h => by
    obtain ⟨a, b, pos, rfl⟩ := inv_raise h
    exact s_raise
theorem sSs : ∀ (m : MSs) {X : Cx} {sc : Sco} (g : Gd L T call new X N sc) (hp : PassesOwn (model X.prog X.w) X.A X.env X.xe) {ss : List Stmt}, mSs N sc m ss = true → PSs X ss (rSs L T call new B m)
  | .nil, X, sc, g, hp, [], h => s_nil
  | .cons a r, X, sc, g, hp, s :: ss, h => by
    simp only [mSs, Bool.and_eq_true] at h
    exact s_cons (sS a g hp h.1) (sSs r g hp h.2)
  | .nil, X, sc, g, hp, s :: ss, h => by simp [mSs] at h
  | .cons a r, X, sc, g, hp, [], h => by simp [mSs] at h
end
end
end Mi

set_option Elab.async false
set_option linter.all false
set_option maxRecDepth 100000
set_option maxHeartbeats 4000000
/-! Mini 16: the defs, and the law. -/
namespace Mi
open PySem L2
/-- a def of the text is the table's def -/
structure DefIs (L : Lk) (f : String) (d : MDef) (qual : Str) (st : Stmt) (ad : Addr) (fd : FuncData) (N ps : List Str) : Prop where
  F : Fun L.K (S f) qual st ad fd
  Sc : FnScope N ps (defScope st)
  hps : ps.length = d.ps
  hN : N.length = d.slots
  hm : mSs N ⟨defScope st, defScope st⟩ d.body (defBody st) = true
  hmg : L.mg (S f) = some (.ref ad)
  hb : Binds L.K fd ps []
def AllOk (L : Lk) (T : Tb) : Prop := ∀ f d, T.defs f = some d → ∃ qual st ad fd N ps, DefIs L f d qual st ad fd N ps
section
variable {L : Lk} {T : Tb} {B : Nat}
theorem VRL.map_env {w : Wd} {as : List Val} {vs : List V} (r : wVL L w as vs) : ∀ (j : Nat) (v : Val), (as.map some)[j]? = some (some v) → ∃ x, (vs.map some)[j]? = some (some x) ∧ wV L w v x := fun j v h => by
  rw [List.getElem?_map] at h
  cases e : as[j]? with
  | none => rw [e] at h; cases h
  | some u =>
    rw [e] at h; cases h
    obtain ⟨x, hx, rv⟩ := r.get e
    exact ⟨x, by rw [List.getElem?_map, hx]; rfl, rv⟩
theorem env_start {w : Wd} {d : MDef} {as : List Val} {vs : List V} {N : List Str} (r : wVL L w as vs) (hN : N.length = d.slots) : EnvR L w (startS d as) (L2.start N vs) := by
  have hl := r.length
  refine ⟨by simp [startS, L2.start, hN, hl], fun j v h => ?_⟩
  unfold startS at h
  unfold L2.start
  by_cases hj : j < as.length
  · rw [List.getElem?_append_left (by simpa using hj)] at h
    rw [List.getElem?_append_left (by simpa [← hl] using hj)]
    exact r.map_env j v h
  · rw [List.getElem?_append_right (by simpa using hj), List.getElem?_replicate] at h
    split at h <;> cases h
theorem RepL.vrl {G : Hp} {ι : Nat → Addr} {n : Nat} {vs : List Val} {xs : List V} {ds : List D} (h : VRL L G ι n vs xs) (e : allD vs = some ds) : ∀ {m : Nat} {ι' : Nat → Addr}, VRL L G ι' m vs xs := fun {m ι'} => by
  have q := VRL.ofRep (ι := ι') (n := m) (h.allD e)
  have z : vs = ds.map .d := by
    clear h q
    induction vs generalizing ds with
    | nil => cases e; rfl
    | cons v vs ih =>
      cases v with
      | d d =>
        have e' : (allD vs).map (d :: ·) = some ds := e
        cases q : allD vs with
        | none => rw [q] at e'; cases e'
        | some es =>
          rw [q] at e'; cases e'
          rw [ih q]; rfl
      | ref i => cases e
      | tup i => cases e
  rw [z]; exact q
/-- a def is left -/
theorem leave_ok {w w' : Wd} {rv : RV} {y : V} {Q : V → Hp → Prop} (s : Sm L w) (hB : B ≤ w.n) (x : Nx L w.n w w') (r : RVR L w w' rv y) (po : Po L B (pRV L) w (leave w.n rv w'.h) Q) : Q y w'.H := by
  have tl : (w'.h.take w.n).length = w.n := by rw [List.length_take]; exact Nat.min_eq_left x.len
  have hb : Bd w.n w'.h := x.bd w.n (Nat.le_refl _) s.bd
  have n2 : Nx L B w ⟨w'.G, w'.i, w'.h.take w.n, w'.H⟩ := by
    refine ⟨⟨x.sm.le, fun i c e => ?_, fun i hi => ?_, fun i j hi hj e => ?_⟩, x.le, x.same, by show w.n ≤ (w'.h.take w.n).length; omega, x.keep, fun j h1 h2 => ?_, x.gnew, fun b h1 h2 i c hi e => ?_⟩
    · have e' : (w'.h.take w.n)[i]? = some c := e
      have hi : i < w.n := by rw [← tl]; exact (List.getElem?_eq_some_iff.mp e').1
      rw [List.getElem?_take_of_lt hi] at e'
      obtain ⟨o, ho, rc⟩ := x.sm.cell i c e'
      refine ⟨o, ho, ?_⟩
      show CellR L w'.G w'.i (w'.h.take w.n).length c o
      rw [tl]; exact rc.lower (hb i c hi e')
    · have hi' : i < (w'.h.take w.n).length := hi
      exact x.sm.free i (Nat.lt_of_lt_of_le (by omega) x.len)
    · have hi' : i < (w'.h.take w.n).length := hi
      have hj' : j < (w'.h.take w.n).length := hj
      exact x.sm.inj i j (Nat.lt_of_lt_of_le (by omega) x.len) (Nat.lt_of_lt_of_le (by omega) x.len) e
    · have h2' : j < (w'.h.take w.n).length := h2
      omega
    · have e' : (w'.h.take w.n)[i]? = some c := e
      rw [List.getElem?_take_of_lt (by omega)] at e'
      exact x.bd b (Nat.le_trans h1 hB) h2 i c hi e'
  cases rv with
  | v v =>
    cases v with
    | d d =>
      refine po ⟨w'.G, w'.i, w'.h.take w.n, w'.H⟩ y rfl n2 ?_
      cases r with
      | d r => exact VR.d r
    | ref i =>
      cases r with
      | ref hi =>
      rw [leave] at po
      by_cases hlt : i < w.n
      · rw [if_pos hlt] at po
        refine po ⟨w'.G, w'.i, w'.h.take w.n, w'.H⟩ _ rfl n2 ?_
        exact VR.ref (by show i < (w'.h.take w.n).length; omega)
      · rw [if_neg hlt] at po
        have hi' : i < w'.n := hi
        obtain ⟨c, hc⟩ : ∃ c, w'.h[i]? = some c := ⟨_, List.getElem?_eq_getElem hi'⟩
        obtain ⟨o, ho, rc⟩ := x.sm.cell i c hc
        rw [hc] at po
        cases c with
        | lst vs =>
          dsimp only at po
          cases ea : allD vs with
          | none => rw [ea] at po; exact po.elim
          | some ds =>
            rw [ea] at po
            cases rc with
            | lst rl =>
            refine po ⟨w'.G, w'.i, w'.h.take w.n, w'.H⟩ _ rfl n2 ⟨_, _, rfl, ho, .lst (RepL.vrl rl ea), x.sm.free i hi', fun j hj e => ?_, x.fresh i (Nat.le_of_not_lt hlt) hi'⟩
            have hj' : j < (w'.h.take w.n).length := hj
            have := x.sm.inj j i (Nat.lt_of_lt_of_le (by omega) x.len) hi' e
            omega
        | dicK _ => exact po.elim
        | dicT _ => exact po.elim
        | ins _ _ => exact po.elim
    | tup vs => exact po.elim
  | own c =>
    cases c with
    | lst vs =>
      rw [leave] at po
      cases ea : allD vs with
      | none => rw [ea] at po; exact po.elim
      | some ds =>
        rw [ea] at po
        obtain ⟨p, o, rfl, ho, rc, hg, hn, h0⟩ := r
        cases rc with
        | lst rl =>
        refine po ⟨w'.G, w'.i, w'.h.take w.n, w'.H⟩ _ rfl n2 ⟨p, _, rfl, ho, .lst (RepL.vrl rl ea), hg, fun j hj e => ?_, h0⟩
        have hj' : j < (w'.h.take w.n).length := hj
        exact hn j (Nat.lt_of_lt_of_le (by omega) x.len) e
    | dicK _ => exact po.elim
    | dicT _ => exact po.elim
    | ins _ _ => exact po.elim
theorem runD_po {call new : String → List Val → Mo RV} {d : MDef} {as : List Val} {w : Wd} {Q : V → Hp → Prop} (s : Sm L w) (hB : B ≤ w.n) (po : Po L B (pRV L) w (runD T call new d as w.h) Q) :
    as.length = d.ps ∧ PoF L w.n w (exSs T call new w.n d.body (startS d as) w.h) { nx := fun _ H' => Q .non H', rt := Q } := by
  unfold runD at po
  by_cases h1 : as.length = d.ps
  · rw [if_pos h1] at po
    refine ⟨h1, ?_⟩
    unfold Mo.bnd at po
    cases e : exSs T call new w.n d.body (startS d as) w.h with
    | ok p h' =>
      have e' : exSs T call new w.h.length d.body (startS d as) w.h = .ok p h' := e
      rw [e'] at po
      dsimp only at po
      intro w' hw x
      subst hw
      cases hp : p.1 with
      | nx =>
        rw [hp] at po
        intro σ' er
        exact leave_ok (rv := .v (.d .non)) s hB x (VR.d .non) po
      | ret rv =>
        rw [hp] at po
        intro y ry
        exact leave_ok s hB x ry po
      | brk => rw [hp] at po; exact po.elim
      | cnt => rw [hp] at po; exact po.elim
    | exc c fs h' =>
      have e' : exSs T call new w.h.length d.body (startS d as) w.h = .exc c fs h' := e
      rw [e'] at po; exact po.elim
    | bad =>
      have e' : exSs T call new w.h.length d.body (startS d as) w.h = .bad := e
      rw [e'] at po; exact po.elim
  · rw [if_neg h1] at po; exact po.elim
theorem hu1 {k : Nat} {A : Around} (r : Room k A) : A.units + 65 < cLine := by have := r.un; omega
variable {P : Program} {w : World} {base : Heap}
theorem def_ok (hL : LkOk L T) (hA : AllOk L T) (hX : ∀ c, T.exc c = true → NewX L P w base 2 c) : ∀ (n : Nat) (f : String) (d : MDef), T.defs f = some d → ∀ {qual : Str} {st : Stmt} {ad : Addr} {fd : FuncData} {N ps : List Str}, DefIs L f d qual st ad fd N ps → FnOk P w L.K L.mg base CX0 n ad fd ps (spM L (callN T n f))
  | 0, f, d, hd, qual, st, ad, fd, N, ps, h => ⟨fun vs H Q E ⟨w, as, B, _, _, _, _, po⟩ => po.elim, fun A outer s H args us vs Q E _ _ _ _ ⟨w, as, B, _, _, _, _, po⟩ => po.elim⟩
  | n + 1, f, d, hd, qual, st, ad, fd, N, ps, h => by
    have un : ∀ as, callN T (n + 1) f as = runD T (callN T n) (newT T n) d as := fun as => by rw [callN, hd]
    refine h.F.ok h.Sc (fun vs H Q E ⟨w0, as, B, _, s0, hB, ra, po⟩ => ?_) fun cdv A outer s H vs Q E hr ⟨w0, as, B, hw, s0, hB, ra, po⟩ => ?_
    · rw [un] at po
      rw [← ra.length, (runD_po s0 hB po).1, h.hps]
    · rw [un] at po
      obtain ⟨h1, po'⟩ := runD_po s0 hB po
      subst hw
      have g : Gd L T (callN T n) (newT T n) (cxOf CX0 P w L.K L.mg base N qual (defScope st) ad cdv A outer s w0.H E).nox N ⟨defScope st, defScope st⟩ := by
        refine ⟨rfl, h.Sc.nd, rfl, fun x _ => .inl rfl, rfl, rfl, rfl, ?_, hL, fun g as h a h' e => ?_, fun g as h a h' e => ?_⟩
        · exact hu1 hr
        · cases hg : T.defs g with
          | none =>
            cases n with
            | zero => rw [callN] at e; cases e
            | succ n => rw [callN, hg] at e; cases e
          | some d' =>
            obtain ⟨_, _, _, _, _, _, h'⟩ := hA g d' hg
            exact ⟨n, _, _, _, def_ok hL hA hX n g d' hg h', hr, h'.hmg, h'.F.kp, h'.hb⟩
        · unfold newT at e
          split at e
          · rename_i hc
            rw [Bool.and_eq_true, decide_eq_true_eq] at hc
            split at e
            · cases e
              exact ⟨⟨2, hX g hc.1, hr.mono hc.2⟩, rfl, rfl, rfl⟩
            · cases e
          · cases e
      exact ⟨_, sSs (B := w0.n) d.body g PassesOwn.never h.hm, w0, startS d as, rfl, s0, Nat.le_refl _, env_start ra h.hN, po'⟩
/-- what is asked of a law -/
def spLaw (n : Nat) (K : PySem.W.Frag) : Sp := fun vs H Q _ => ∃ (a : Addr) (ns : List Int), vs = [.ref a] ∧ SqL K H a (ns.map V.int) ∧ ns.length ≤ n ∧ ∀ H', Q (.bl true) H'
theorem law_fn {L : Lk} {n k : Nat} {f : String} {d : MDef} {qual x : Str} {st : Stmt} {ad : Addr} {fd : FuncData} {N : List Str} (hL : LkOk L T) (hA : AllOk L T) (hX : ∀ c, T.exc c = true → NewX L P w base 2 c)
    (hd : T.defs f = some d) (D : DefIs L f d qual st ad fd N [x]) (h : ∀ ns : List Int, ns.length ≤ n → ∃ h', callN T k f [.d (.scr ns)] [] = .ok (.v (.d (.bl true))) h') :
    FnOk P w L.K L.mg base CX0 k ad fd [x] (spLaw n L.K) := by
  have F := def_ok (base := base) hL hA hX k f d hd D
  refine F.imp fun vs H Q E ⟨a, ns, hv, hS, hl, k'⟩ => ?_
  subst hv
  obtain ⟨h', e⟩ := h ns hl
  refine ⟨⟨H, fun _ => 0, [], H⟩, [.d (.scr ns)], 0, rfl, ⟨fun _ _ z => z, fun i c z => by simp at z, fun i hi => absurd hi (Nat.not_lt_zero _), fun i j hi => absurd hi (Nat.not_lt_zero _)⟩, Nat.zero_le _, .cons (.d (.scr hS)) .nil, ?_⟩
  show Po _ _ _ _ (callN T k f [.d (.scr ns)] []) Q
  rw [e]
  intro w' y hw x' r
  cases r with
  | d r => cases r with
    | bl => exact k' _
/-- the whole of a law: what its text must say, and what the interpreter answers -/
theorem law_walk {l : PySem.W.OpenLaw} {n k : Nat} {q : Program} {loose : List Str} {XP : (Str → Option Value) → Heap → Prop} {YP : World → Heap → Prop} {d : DefRec} {K : Params → PySem.W.Frag} {x : Str} (hn : l.most = some n) (hn2 : n ≤ sizeLine) (hdf : d.params.defaults = []) (hr : Room k PySem.callerA)
    (hY : ∀ (w : World) (h : Heap), YP w h → (K w.params).In h)
    (F : ∀ (w : World) (mg : Str → Option Value) (fa : Addr) (h : Heap), (K w.params).In h → h.Ns mainGlobals mg → mg d.name = some (.ref fa) →
      ∃ fd : FuncData, (∀ (s : Shared) (u : Value), BindsTo s fd ⟨[u], []⟩ [(x, u)]) ∧ ∀ base : Heap, (K w.params).In base → base.Ns mainGlobals mg → FnOk l.prog w (K w.params) mg base CX0 k fa fd [x] (spLaw n (K w.params))) :
    PySem.W.WalkO q loose XP YP l.row.toRowW d [] (fun f vs => PySem.call f vs) :=
  L2.walk_of (n := n) (k := k) (x := x) (CX := fun _ => CX0) (sp := fun w => spLaw n (K w.params)) hn hn2 hdf hr hY F (fun _ _ a ns hl _ hS => ⟨a, ns, rfl, hS, hl, fun _ => rfl⟩) fun _ _ _ _ _ z => z
end
end Mi

set_option Elab.async false
set_option linter.all false
set_option maxRecDepth 100000
set_option maxHeartbeats 4000000
/-! Mini 17: the interpreter by rewriting, from the left. -/
namespace Mi
open PySem
section
variable {T : Tb} {call new : String → List Val → Mo RV} {B : Nat} {β : Type} {σ : Sl} {h : Hm}
/-- a result is frozen, then .. -/
def fz (r : RV) (K : Val → Mo β) : Mo β := match r.frz with
  | some v => K v
  | none => .fail
theorem fz_v {v : Val} {K : Val → Mo β} : fz (.v v) K = K v := rfl
theorem ret_ap {α : Type} {a : α} : (Mo.ret a) h = .ok a h := rfl
theorem bnd_ret {α : Type} (c : Mo α) : c.bnd Mo.ret = c := by
  funext h
  unfold Mo.bnd
  cases c h <;> rfl
theorem fz_lst {vs : List Val} {K : Val → Mo β} : fz (.own (.lst vs)) K = (match allD vs with
  | some ds => K (.d (.lst ds))
  | none => .fail) := by
  show (match (allD vs).map (fun ds => Val.d (.lst ds)) with
    | some v => K v
    | none => .fail) = _
  cases allD vs <;> rfl
theorem fz_dicK {kvs : List (Sum Int Str × Val)} {K : Val → Mo β} : fz (.own (.dicK kvs)) K = (match allD (kvs.map (·.2)) with
  | some ds => K (.d (.dicK ((kvs.map (·.1)).zip ds)))
  | none => .fail) := by
  show (match (allD (kvs.map (·.2))).map (fun ds => Val.d (.dicK ((kvs.map (·.1)).zip ds))) with
    | some v => K v
    | none => .fail) = _
  cases allD (kvs.map (·.2)) <;> rfl
theorem fz_lstD {ds : List D} {K : Val → Mo β} : fz (.own (.lst (ds.map .d))) K = K (.d (.lst ds)) := by
  rw [fz_lst, allD_map]
theorem fz_eq (r : RV) (K : Val → Mo β) : (frzM r).bnd K = fz r K := by
  unfold frzM Mo.opt fz Mo.bnd
  funext h
  cases r.frz <;> rfl
theorem fz_bnd {γ : Type} (r : RV) (K : Val → Mo β) (J : β → Mo γ) : (fz r K).bnd J = fz r fun x => (K x).bnd J := by
  unfold fz
  cases r.frz <;> rfl
theorem v_eq (a : ME) (K : Val → Mo β) : ((vOf (evE T call new B a σ)).bnd K) = (evE T call new B a σ).bnd fun r => fz r K := by
  unfold vOf
  rw [Mo.assoc]
  congr 1
  funext r
  exact fz_eq r K
/-- one value, then .. -/
def tr (x : Val) (K : Bool → Mo β) : Mo β := fun h => match truV h x with
  | some b => K b h
  | none => .bad
theorem tr_eq (x : Val) (K : Bool → Mo β) : (truM x).bnd K = tr x K := by
  funext h
  unfold truM tr Mo.bnd
  dsimp only
  cases truV h x <;> rfl
theorem t_eq (a : ME) (K : Bool → Mo β) : ((tOf (evE T call new B a σ)).bnd K) = (evE T call new B a σ).bnd fun r => fz r fun x => tr x K := by
  unfold tOf
  rw [Mo.assoc, v_eq]
  congr 1
  funext r
  congr 1
  funext x
  exact tr_eq x K
theorem tr_ok {x : Val} {b : Bool} {K : Bool → Mo β} (e : truV h x = some b) : tr x K h = K b h := by unfold tr; rw [e]
def cm (o : Cmp) (x y : Val) (K : Bool → Mo β) : Mo β := fun h => match flat h x with
  | some x => match flat h y with
    | some y => match cmpD o x y with
      | some c => K c h
      | none => .bad
    | none => .bad
  | none => .bad
theorem tr_bnd {γ : Type} (x : Val) (K : Bool → Mo β) (J : β → Mo γ) : (tr x K).bnd J = tr x fun b => (K b).bnd J := by
  funext h
  unfold tr Mo.bnd
  dsimp only
  cases truV h x <;> rfl
theorem cm_bnd {γ : Type} (o : Cmp) (x y : Val) (K : Bool → Mo β) (J : β → Mo γ) : (cm o x y K).bnd J = cm o x y fun b => (K b).bnd J := by
  funext h
  unfold cm Mo.bnd
  dsimp only
  cases flat h x with
  | none => rfl
  | some x =>
    dsimp only
    cases flat h y with
    | none => rfl
    | some y => dsimp only; cases cmpD o x y <;> rfl
theorem cm_eq (o : Cmp) (x y : Val) (K : Bool → Mo β) : (cmpM o x y).bnd K = cm o x y K := by
  funext h
  unfold cmpM cm Mo.bnd
  dsimp only
  cases flat h x with
  | none => rfl
  | some x =>
    cases flat h y with
    | none => rfl
    | some y => dsimp only; cases cmpD o x y <;> rfl
variable {K : RV → Mo β}
theorem bnd_of {α : Type} {c : Mo α} {a : α} {h' : Hm} {K : α → Mo β} (e : c h = .ok a h') : (c.bnd K) h = K a h' := by unfold Mo.bnd; rw [e]
theorem k_ret {α : Type} {a : α} {K : α → Mo β} : ((Mo.ret a).bnd K) h = K a h := rfl
theorem k_non : ((evE T call new B .non σ).bnd K) h = K (.v (.d .non)) h := by rw [evE]; rfl
theorem k_bl {b : Bool} : ((evE T call new B (.bl b) σ).bnd K) h = K (.v (.d (.bl b))) h := by rw [evE]; rfl
theorem k_int {b : Int} : ((evE T call new B (.int b) σ).bnd K) h = K (.v (.d (.int b))) h := by rw [evE]; rfl
theorem k_str {b : Str} : ((evE T call new B (.str b) σ).bnd K) h = K (.v (.d (.str b))) h := by rw [evE]; rfl
theorem k_var {i : Nat} {v : Val} (e : σ[i]? = some (some v)) : ((evE T call new B (.var i) σ).bnd K) h = K (.v v) h := by
  unfold Mo.bnd
  rw [evE]
  dsimp only
  rw [e]
theorem k_var' {i : Nat} : ((evE T call new B (.var i) σ).bnd K) h = (match σ[i]? with
    | some (some v) => K (.v v) h
    | _ => .bad) := by
  unfold Mo.bnd
  rw [evE]
  dsimp only
  cases σ[i]? with
  | none => rfl
  | some o => cases o <;> rfl
theorem k_glob {x : String} : ((evE T call new B (.glob x) σ).bnd K) h = (match T.cst x with
    | some d => K (.v (.d d)) h
    | none => .bad) := by
  unfold Mo.bnd
  rw [evE]
  dsimp only
  cases T.cst x <;> rfl
theorem k_ari {o : Ari} {a b : ME} : ((evE T call new B (.ari o a b) σ).bnd K) h = ((evE T call new B a σ).bnd fun r => fz r fun x => (evE T call new B b σ).bnd fun r2 => fz r2 fun y h => match flat h x with
    | some x => (match flat h y with
      | some y => (match ariD o x y with
        | some r => K r h
        | none => .bad)
      | none => .bad)
    | none => .bad) h := by
  rw [evE, Mo.assoc, v_eq]
  simp only [Mo.assoc, v_eq, fz_bnd]
  congr 1
  funext r
  congr 1
  funext x
  congr 1
  funext r2
  congr 1
  funext y
  funext h
  unfold Mo.bnd
  dsimp only
  cases flat h x with
  | none => rfl
  | some x =>
    dsimp only
    cases flat h y with
    | none => rfl
    | some y => dsimp only; cases ariD o x y <;> rfl
theorem k_neg {a : ME} : ((evE T call new B (.neg a) σ).bnd K) h = ((evE T call new B a σ).bnd fun r => fz r fun x => match x with
    | .d (.int i) => K (.v (.d (.int (-i))))
    | _ => .fail) h := by
  rw [evE, Mo.assoc, v_eq]
  congr 1
  funext r
  congr 1
  funext x
  cases x with
  | d d => cases d <;> rfl
  | ref i => rfl
  | tup i => rfl
theorem k_not {a : ME} : ((evE T call new B (.not a) σ).bnd K) h = ((evE T call new B a σ).bnd fun r => fz r fun x => tr x fun b => K (.v (.d (.bl (!b))))) h := by
  rw [evE, Mo.assoc, t_eq]
  rfl
theorem k_and {a b : ME} : ((evE T call new B (.and a b) σ).bnd K) h = ((evE T call new B a σ).bnd fun r => fz r fun x => tr x fun k => if k = true then (evE T call new B b σ).bnd K else K (.v x)) h := by
  rw [evE, Mo.assoc, v_eq]
  congr 1
  funext r
  congr 1
  funext x
  rw [Mo.assoc, tr_eq]
  congr 1
  funext k
  cases k <;> rfl
theorem k_or {a b : ME} : ((evE T call new B (.or a b) σ).bnd K) h = ((evE T call new B a σ).bnd fun r => fz r fun x => tr x fun k => if k = true then K (.v x) else (evE T call new B b σ).bnd K) h := by
  rw [evE, Mo.assoc, v_eq]
  congr 1
  funext r
  congr 1
  funext x
  rw [Mo.assoc, tr_eq]
  congr 1
  funext k
  cases k <;> rfl
theorem k_cmp {o : Cmp} {a b : ME} : ((evE T call new B (.cmp o a b) σ).bnd K) h = ((evE T call new B a σ).bnd fun r => fz r fun x => (evE T call new B b σ).bnd fun r2 => fz r2 fun y => cm o x y fun k => K (.v (.d (.bl k)))) h := by
  rw [evE, Mo.assoc, v_eq]
  simp only [Mo.assoc, v_eq, cm_eq, fz_bnd, cm_bnd]
  rfl
theorem k_cmp2 {o o2 : Cmp} {a b c : ME} : ((evE T call new B (.cmp2 o o2 a b c) σ).bnd K) h = ((evE T call new B a σ).bnd fun r => fz r fun x => (evE T call new B b σ).bnd fun r2 => fz r2 fun y => cm o x y fun k => if k = true then
    (evE T call new B c σ).bnd fun r3 => fz r3 fun z => cm o2 y z fun k => K (.v (.d (.bl k))) else K (.v (.d (.bl false)))) h := by
  rw [evE, Mo.assoc, v_eq]
  simp only [Mo.assoc, v_eq, cm_eq, fz_bnd, cm_bnd]
  congr 1
  funext r
  congr 1
  funext x
  congr 1
  funext r2
  congr 1
  funext y
  congr 1
  funext k
  cases k with
  | false => rfl
  | true =>
    rw [if_pos rfl, if_pos rfl]
    simp only [Mo.assoc, v_eq, cm_eq, fz_bnd, cm_bnd]
    rfl
theorem k_ife {c a b : ME} : ((evE T call new B (.ife c a b) σ).bnd K) h = ((evE T call new B c σ).bnd fun r => fz r fun x => tr x fun k => if k = true then (evE T call new B a σ).bnd K else (evE T call new B b σ).bnd K) h := by
  rw [evE, Mo.assoc, t_eq]
  congr 1
  funext r
  congr 1
  funext x
  congr 1
  funext k
  cases k <;> rfl
theorem k_call {f : String} {as : MEs} : ((evE T call new B (.call f as) σ).bnd K) h = ((evEs T call new B as σ).bnd fun vs => (call f vs).bnd K) h := by
  rw [evE, Mo.assoc]
theorem k_new {f : String} {as : MEs} : ((evE T call new B (.new f as) σ).bnd K) h = ((evEs T call new B as σ).bnd fun vs => (new f vs).bnd K) h := by
  rw [evE, Mo.assoc]
theorem k_bif {f : String} {as : MEs} : ((evE T call new B (.bif f as) σ).bnd K) h = ((evEs T call new B as σ).bnd fun vs h => match flats h vs with
    | some ds => (match bifD T f ds with
      | some d => K (.v (.d d)) h
      | none => .bad)
    | none => .bad) h := by
  rw [evE, Mo.assoc]
  congr 1
  funext vs
  funext h
  unfold Mo.bnd
  dsimp only
  cases flats h vs with
  | none => rfl
  | some ds => dsimp only; cases bifD T f ds <;> rfl
theorem k_met {o : ME} {m : String} {as : MEs} : ((evE T call new B (.met o m as) σ).bnd K) h = ((evE T call new B o σ).bnd fun r => fz r fun x h0 => if hasTy h0 x (metTy m) = true then ((evEs T call new B as σ).bnd fun vs => (metM B x m vs).bnd K) h0 else .bad) h := by
  rw [evE, Mo.assoc, v_eq]
  congr 1
  funext r
  congr 1
  funext x
  funext h0
  by_cases c : hasTy h0 x (metTy m) = true
  · unfold Mo.bnd
    simp only [if_pos c]
    cases evEs T call new B as σ h0 <;> rfl
  · unfold Mo.bnd
    simp only [if_neg c]
theorem k_sub {o i : ME} : ((evE T call new B (.sub o i) σ).bnd K) h = ((evE T call new B o σ).bnd fun r => fz r fun x => (evE T call new B i σ).bnd fun r2 => fz r2 fun y h => match y with
    | .d y => (match subV h x y with
      | some v => K (.v v) h
      | none => .bad)
    | _ => .bad) h := by
  rw [evE, Mo.assoc, v_eq]
  simp only [Mo.assoc, v_eq, fz_bnd]
  congr 1
  funext r
  congr 1
  funext x
  congr 1
  funext r2
  congr 1
  funext y
  funext h
  unfold Mo.bnd
  cases y with
  | d y => dsimp only; cases subV h x y <;> rfl
  | ref i => rfl
  | tup vs => rfl
theorem k_sl {o : ME} {lo hi : MO} : ((evE T call new B (.sl o lo hi) σ).bnd K) h = ((evE T call new B o σ).bnd fun r => fz r fun x => (evP T call new B lo σ).bnd fun l => (evP T call new B hi σ).bnd fun u h => match slV h x l u with
    | some r => K r h
    | none => .bad) h := by
  rw [evE, Mo.assoc, v_eq]
  simp only [Mo.assoc, fz_bnd]
  congr 1
  funext r
  congr 1
  funext x
  congr 1
  funext l
  congr 1
  funext u
  funext h
  unfold Mo.bnd
  dsimp only
  cases slV h x l u <;> rfl
theorem k_tup {es : MEs} : ((evE T call new B (.tup es) σ).bnd K) h = ((evEs T call new B es σ).bnd fun vs => if vs.length ≤ lineN then K (.v (mkTup vs)) else .fail) h := by
  rw [evE, Mo.assoc]
  congr 1
  funext vs
  split <;> rfl
theorem k_lst {es : MEs} : ((evE T call new B (.lst es) σ).bnd K) h = ((evEs T call new B es σ).bnd fun vs => if vs.length ≤ lineN then K (.own (.lst vs)) else .fail) h := by
  rw [evE, Mo.assoc]
  congr 1
  funext vs
  split <;> rfl
theorem k_dic {es : MEs} : ((evE T call new B (.dic es) σ).bnd K) h = ((evEs T call new B es σ).bnd fun vs => match pairsK vs with
    | some kvs => if kvs.length ≤ 15 ∧ kvs ≠ [] then K (.own (.dicK (kvs.foldl (fun acc kv => putM acc kv.1 kv.2) []))) else .fail
    | none => .fail) h := by
  rw [evE, Mo.assoc]
  congr 1
  funext vs
  cases pairsK vs with
  | none => rfl
  | some kvs => dsimp only; split <;> rfl
theorem k_dnew {t : Bool} : ((evE T call new B (.dnew t) σ).bnd K) h = (if t = true then K (.own (.dicT [])) h else K (.own (.dicK [])) h) := by
  rw [evE]
  cases t <;> rfl
/-- a comprehension's one turn -/
def lcK (T : Tb) (call new : String → List Val → Mo RV) (B : Nat) (elt : ME) (tg : MT) (ifs : MO) (σ0 : Sl) : Val → Mo (Option Val) := fun v => (evG T call new B tg v σ0).bnd fun σ1 => (evO T call new B ifs σ1).bnd fun b => if b then (vOf (evE T call new B elt σ1)).bnd fun x => .ret (some x) else .ret none
def lcR (T : Tb) (call new : String → List Val → Mo RV) (B : Nat) (elt : ME) (tg : MT) (ifs : MO) (σ0 : Sl) : Wk → Mo (List Val)
  | .fix vs => lcF (lcK T call new B elt tg ifs σ0) vs []
  | .cell i => lcC i (lcK T call new B elt tg ifs σ0) lineN 0 []
theorem k_lc {elt : ME} {tg : MT} {it : MI} {ifs : MO} {own : List (String × Nat)} : ((evE T call new B (.lc elt tg it ifs own) σ).bnd K) h = ((evI T call new B it σ).bnd fun w => (lcR T call new B elt tg ifs (wipeS σ (own.map (·.2))) w).bnd fun acc => K (.own (.lst acc))) h := by
  rw [evE, Mo.assoc]
  congr 1
  funext w
  rw [Mo.assoc]
  cases w <;> rfl
theorem k_nil {K : List Val → Mo β} : ((evEs T call new B .nil σ).bnd K) h = K [] h := by rw [evEs]; rfl
theorem k_cons {a : ME} {r : MEs} {K : List Val → Mo β} : ((evEs T call new B (.cons a r) σ).bnd K) h = ((evE T call new B a σ).bnd fun r1 => fz r1 fun x => (evEs T call new B r σ).bnd fun xs => K (x :: xs)) h := by
  rw [evEs, Mo.assoc, v_eq]
  simp only [Mo.assoc, fz_bnd]
  rfl
theorem k_onone {K : Bool → Mo β} : ((evO T call new B .none σ).bnd K) h = K true h := by rw [evO]; rfl
theorem k_osome {a : ME} {K : Bool → Mo β} : ((evO T call new B (.some a) σ).bnd K) h = ((evE T call new B a σ).bnd fun r => fz r fun x => tr x K) h := by
  rw [evO, t_eq]
theorem k_pnone {K : Option Int → Mo β} : ((evP T call new B .none σ).bnd K) h = K none h := by rw [evP]; rfl
theorem k_psome {a : ME} {K : Option Int → Mo β} : ((evP T call new B (.some a) σ).bnd K) h = ((evE T call new B a σ).bnd fun r => fz r fun x => match x with
    | .d (.int i) => K (some i)
    | _ => .fail) h := by
  rw [evP, Mo.assoc, v_eq]
  congr 1
  funext r
  congr 1
  funext x
  cases x with
  | d d => cases d <;> rfl
  | ref i => rfl
  | tup i => rfl
theorem k_ival {a : ME} {K : Wk → Mo β} : ((evI T call new B (.val a) σ).bnd K) h = ((evE T call new B a σ).bnd fun r => fz r fun x h => match walkW h x with
    | some k => K k h
    | none => .bad) h := by
  rw [evI, Mo.assoc, v_eq]
  congr 1
  funext r
  congr 1
  funext x
  funext h
  unfold Mo.bnd
  dsimp only
  cases walkW h x <;> rfl
theorem k_irange {as : MEs} {K : Wk → Mo β} : ((evI T call new B (.range as) σ).bnd K) h = ((evEs T call new B as σ).bnd fun vs => match rangeW vs with
    | some k => K k
    | none => .fail) h := by
  rw [evI, Mo.assoc]
  congr 1
  funext vs
  unfold Mo.opt Mo.bnd
  funext h
  dsimp only
  cases rangeW vs <;> rfl
theorem k_gname {i : Nat} {v : Val} {K : Sl → Mo β} : ((evG T call new B (.name i) v σ).bnd K) h = (if i < σ.length then K (σ.set i (some v)) h else .bad) := by
  rw [evG]
  split <;> rfl
theorem k_gtup {ts : MTs} {v : Val} {K : Sl → Mo β} : ((evG T call new B (.tup ts) v σ).bnd K) h = (match unTup ts.len v with
    | some vs => ((evGs T call new B ts vs σ).bnd K) h
    | none => .bad) := by
  rw [evG]
  cases unTup ts.len v <;> rfl
theorem k_gsub {o i : ME} {v : Val} {K : Sl → Mo β} : ((evG T call new B (.sub o i) v σ).bnd K) h = ((evE T call new B o σ).bnd fun r => fz r fun x => (evE T call new B i σ).bnd fun r2 => fz r2 fun y => match y with
    | .d y => (setItem B x y v).bnd fun _ => K σ
    | _ => .fail) h := by
  rw [evG, Mo.assoc, v_eq]
  simp only [Mo.assoc, v_eq, fz_bnd]
  congr 1
  funext r
  congr 1
  funext x
  congr 1
  funext r2
  congr 1
  funext y
  cases y with
  | d y =>
    show ((setItem B x y v).bnd fun _ => .ret σ).bnd K = _
    rw [Mo.assoc]
    rfl
  | ref i => rfl
  | tup i => rfl
theorem k_gnil {K : Sl → Mo β} : ((evGs T call new B .nil [] σ).bnd K) h = K σ h := by rw [evGs]; rfl
theorem k_gcons {t : MT} {r : MTs} {v : Val} {vs : List Val} {K : Sl → Mo β} : ((evGs T call new B (.cons t r) (v :: vs) σ).bnd K) h = ((evG T call new B t v σ).bnd fun σ1 => (evGs T call new B r vs σ1).bnd K) h := by
  rw [evGs, Mo.assoc]
variable {J : Fl × Sl → Mo β}
theorem k_asgF {t : MT} {e : ME} : ((exS T call new B (.asg t false e) σ).bnd J) h = ((evE T call new B e σ).bnd fun r => fz r fun v => (evG T call new B t v σ).bnd fun σ1 => J (.nx, σ1)) h := by
  rw [exS]
  unfold evV
  rw [Mo.assoc, v_eq]
  simp only [Mo.assoc]
  rfl
def plc (r : RV) (K : Val → Mo β) : Mo β := fun h => match r with
  | .own c => K (.ref h.length) (h ++ [c])
  | .v _ => .bad
theorem plc_own {c : Cell} {K : Val → Mo β} : plc (.own c) K h = K (.ref h.length) (h ++ [c]) := rfl
theorem k_asgT {t : MT} {e : ME} : ((exS T call new B (.asg t true e) σ).bnd J) h = ((evE T call new B e σ).bnd fun r => plc r fun v => (evG T call new B t v σ).bnd fun σ1 => J (.nx, σ1)) h := by
  rw [exS, Mo.assoc]
  congr 1
  funext r
  funext h
  cases r with
  | v x => rfl
  | own c =>
    show ((evG T call new B t (.ref h.length) σ).bnd fun σ1 => .ret (.nx, σ1)).bnd J (h ++ [c]) = _
    rw [Mo.assoc]
    rfl
theorem k_expr {e : ME} : ((exS T call new B (.expr e) σ).bnd J) h = ((evE T call new B e σ).bnd fun r => fz r fun _ => J (.nx, σ)) h := by
  rw [exS]
  unfold evV
  rw [Mo.assoc, v_eq]
  rfl
theorem k_sret {e : ME} : ((exS T call new B (.ret e) σ).bnd J) h = ((evE T call new B e σ).bnd fun r => J (.ret r, σ)) h := by
  rw [exS, Mo.assoc]
  rfl
theorem k_retN : ((exS T call new B .retN σ).bnd J) h = J (.ret (.v (.d .non)), σ) h := by rw [exS]; rfl
theorem k_pass : ((exS T call new B .pass σ).bnd J) h = J (.nx, σ) h := by rw [exS]; rfl
theorem k_brk : ((exS T call new B .brk σ).bnd J) h = J (.brk, σ) h := by rw [exS]; rfl
theorem k_cnt : ((exS T call new B .cnt σ).bnd J) h = J (.cnt, σ) h := by rw [exS]; rfl
theorem k_ite {c : ME} {a b : MSs} : ((exS T call new B (.ite c a b) σ).bnd J) h = ((evE T call new B c σ).bnd fun r => fz r fun x => tr x fun k => if k = true then (exSs T call new B a σ).bnd J else (exSs T call new B b σ).bnd J) h := by
  rw [exS]
  unfold evT
  rw [Mo.assoc, t_eq]
  congr 1
  funext r
  congr 1
  funext x
  congr 1
  funext k
  cases k <;> rfl
def forK (T : Tb) (call new : String → List Val → Mo RV) (B : Nat) (t : MT) (b : MSs) : Val → Sl → Mo (Fl × Sl) := fun v σ => (evG T call new B t v σ).bnd fun σ1 => exSs T call new B b σ1
def forR (T : Tb) (call new : String → List Val → Mo RV) (B : Nat) (t : MT) (b : MSs) (σ : Sl) : Wk → Mo (Fl × Sl)
  | .fix vs => forF (forK T call new B t b) vs σ
  | .cell i => forC i (forK T call new B t b) lineN 0 σ
theorem k_for {t : MT} {it : MI} {b : MSs} : ((exS T call new B (.for t it b) σ).bnd J) h = ((evI T call new B it σ).bnd fun w => (forR T call new B t b σ w).bnd J) h := by
  rw [exS, Mo.assoc]
  rfl
theorem k_while {c : ME} {b : MSs} : ((exS T call new B (.while c b) σ).bnd J) h = ((whileF (fun σ => evT T call new B c σ) (fun σ => exSs T call new B b σ) lineN σ).bnd J) h := by
  rw [exS]
theorem k_fornil {t : MT} {b : MSs} : ((forR T call new B t b σ (.fix [])).bnd J) h = J (.nx, σ) h := rfl
theorem k_forcons {t : MT} {b : MSs} {v : Val} {vs : List Val} : ((forR T call new B t b σ (.fix (v :: vs))).bnd J) h = ((evG T call new B t v σ).bnd fun σ1 => (exSs T call new B b σ1).bnd fun p => match p.1 with
    | .nx => (forR T call new B t b p.2 (.fix vs)).bnd J
    | .cnt => (forR T call new B t b p.2 (.fix vs)).bnd J
    | .brk => J (.nx, p.2)
    | .ret x => J (.ret x, p.2)) h := by
  show ((forF (forK T call new B t b) (v :: vs) σ).bnd J) h = _
  rw [forF, Mo.assoc]
  unfold forK
  rw [Mo.assoc]
  congr 1
  funext σ1
  congr 1
  funext p
  cases p.1 <;> rfl
theorem k_snil : ((exSs T call new B .nil σ).bnd J) h = J (.nx, σ) h := by rw [exSs]; rfl
theorem k_scons {a : MS} {r : MSs} : ((exSs T call new B (.cons a r) σ).bnd J) h = ((exS T call new B a σ).bnd fun p => match p.1 with
    | .nx => (exSs T call new B r p.2).bnd J
    | f => J (f, p.2)) h := by
  rw [exSs, Mo.assoc]
  congr 1
  funext p
  cases p.1 <;> rfl
theorem k_set {l : Nat} {k : Int} {v : Val} {K : Unit → Mo β} : ((Mi.setItem B (.ref l) (.int k) v).bnd K) h = (match h[l]? with
    | some (.lst vs) => (match L2.ixN vs.length k with
      | some j => if (decide (B ≤ l) || okV l v) = true then K () (h.set l (.lst (vs.set j v))) else .bad
      | none => .bad)
    | _ => .bad) := by
  unfold Mo.bnd Mi.setItem
  dsimp only
  cases h[l]? with
  | none => rfl
  | some c =>
    cases c with
    | lst vs =>
      dsimp only
      cases L2.ixN vs.length k with
      | none => rfl
      | some j =>
        dsimp only
        by_cases c : (decide (B ≤ l) || okV l v) = true
        · rw [if_pos c, if_pos c]
        · rw [if_neg c, if_neg c]
    | dicK _ => rfl
    | dicT _ => rfl
    | ins _ _ => rfl
theorem k_append {l : Nat} {v : Val} : ((metM B (.ref l) "append" [v]).bnd K) h = (match h[l]? with
    | some (.lst vs) => if ((decide (B ≤ l) || okV l v) && decide (vs.length < lineN)) = true then K (.v (.d .non)) (h.set l (.lst (vs ++ [v]))) else .bad
    | _ => .bad) := by
  show ((appendM B (.ref l) v).bnd K) h = _
  unfold Mo.bnd appendM
  dsimp only
  cases h[l]? with
  | none => rfl
  | some c =>
    cases c with
    | lst vs =>
      dsimp only
      by_cases c : ((decide (B ≤ l) || okV l v) && decide (vs.length < lineN)) = true
      · rw [if_pos c, if_pos c]
      · rw [if_neg c, if_neg c]
    | dicK _ => rfl
    | dicT _ => rfl
    | ins _ _ => rfl
theorem k_join {x : Val} {vs : List Val} : ((metM B x "join" vs).bnd K) h = (match flat h x with
    | some d => (match flats h vs with
      | some ds => (match metD d "join" ds with
        | some r => K (.v (.d r)) h
        | none => .bad)
      | none => .bad)
    | none => .bad) := by
  unfold metM
  rw [if_neg (by decide)]
  unfold Mo.bnd
  dsimp only
  cases flat h x with
  | none => rfl
  | some d =>
    dsimp only
    cases flats h vs with
    | none => rfl
    | some ds => dsimp only; cases metD d "join" ds <;> rfl
theorem k_newX {T : Tb} {n : Nat} {c : String} {v : Val} (hc : T.exc c = true) (hn : 3 ≤ n) : ((newT T n c [v]).bnd K) h = K (.v (.d (.exc c))) h := by
  unfold newT
  rw [if_pos (by rw [hc, Bool.true_and]; exact decide_eq_true hn)]
  rfl
end

/-! ### loops by an invariant -/
theorem lcF_inv {step : Val → Mo (Option Val)} {P : Val → Prop} {I : Nat → Hm → Prop} {N : Nat} (hN : N ≤ lineN) : ∀ (vs acc : List Val) (h : Hm) (j : Nat), (∀ v ∈ vs, ∀ h j, j < N → I j h → ∃ x h', step v h = .ok (some x) h' ∧ P x ∧ I (j + 1) h') → acc.length ≤ j → j + vs.length ≤ N → I j h →
    ∃ ys h', lcF step vs acc h = .ok (acc ++ ys) h' ∧ (∀ y ∈ ys, P y) ∧ ys.length = vs.length ∧ I (j + vs.length) h'
  | [], acc, h, j, _, _, _, i => by
    refine ⟨[], h, ?_, ?_, rfl, i⟩
    · rw [List.append_nil]; rfl
    · intro y hy
      exact absurd hy List.not_mem_nil
  | v :: vs, acc, h, j, st, ha, hj, i => by
    rw [List.length_cons] at hj
    obtain ⟨x, h1, e1, p1, i1⟩ := st v (List.mem_cons_self ..) h j (by omega) i
    obtain ⟨ys, h2, e2, p2, l2, i2⟩ := lcF_inv hN vs (acc ++ [x]) h1 (j + 1) (fun u hu => st u (List.mem_cons_of_mem _ hu)) (by simp; omega) (by omega) i1
    refine ⟨x :: ys, h2, ?_, fun y hy => ?_, by simp [l2], by rw [List.length_cons, show j + (vs.length + 1) = j + 1 + vs.length by omega]; exact i2⟩
    · rw [lcF, bnd_of e1]
      dsimp only
      rw [if_pos (by have := hN; omega), e2, List.append_assoc]
      rfl
    · rcases List.mem_cons.mp hy with rfl | hy
      · exact p1
      · exact p2 y hy
theorem forF_inv {step : Val → Sl → Mo (Fl × Sl)} (I : Sl → Hm → Prop) : ∀ (vs : List Val) (σ : Sl) (h : Hm), (∀ v ∈ vs, ∀ σ h, I σ h → ∃ σ' h', step v σ h = .ok (.nx, σ') h' ∧ I σ' h') → I σ h → ∃ σ' h', forF step vs σ h = .ok (.nx, σ') h' ∧ I σ' h'
  | [], σ, h, _, i => ⟨σ, h, rfl, i⟩
  | v :: vs, σ, h, st, i => by
    obtain ⟨σ1, h1, e1, i1⟩ := st v (List.mem_cons_self ..) σ h i
    obtain ⟨σ2, h2, e2, i2⟩ := forF_inv I vs σ1 h1 (fun u hu => st u (List.mem_cons_of_mem _ hu)) i1
    exact ⟨σ2, h2, by rw [forF, bnd_of e1]; exact e2, i2⟩
theorem forK_eq {T : Tb} {call new : String → List Val → Mo RV} {B : Nat} {t : MT} {b : MSs} {v : Val} {σ : Sl} {h : Hm} : forK T call new B t b v σ h = ((evG T call new B t v σ).bnd fun σ1 => (exSs T call new B b σ1).bnd Mo.ret) h := by
  unfold forK
  simp only [bnd_ret]
theorem lcK_eq {T : Tb} {call new : String → List Val → Mo RV} {B : Nat} {elt : ME} {tg : MT} {ifs : MO} {σ0 : Sl} {v : Val} {h : Hm} : lcK T call new B elt tg ifs σ0 v h = ((evG T call new B tg v σ0).bnd fun σ1 => (evO T call new B ifs σ1).bnd fun b => if b = true then (evE T call new B elt σ1).bnd fun r => fz r fun x => .ret (some x) else .ret none) h := by
  unfold lcK
  simp only [v_eq]
end Mi

set_option Elab.async false
set_option linter.all false
set_option maxRecDepth 100000
set_option maxHeartbeats 4000000
/-! k01: the text as Mini terms. -/
namespace K01
open PySem L2 Mi
def top (i : Nat) : Stmt := PySem.Challenge.pw_bookplaces_k01_wholes_and_names.main.body.getD i (.Pass ⟨0, 0, 0, 0⟩)
def N_is_whole : List Str := ["thing", "low", "high"]
def b_is_whole : MSs := (.cons (.ret (.and (.bif "isinstance" (.cons (.var 0) (.cons (.glob "int") .nil))) (.and (.not (.bif "isinstance" (.cons (.var 0) (.cons (.glob "bool") .nil)))) (.cmp2 .le .le (.var 1) (.var 0) (.var 2))))) .nil)
def d_is_whole : MDef := ⟨3, 3, b_is_whole⟩
def N_made_of : List Str := ["text", "signs", "sign"]
def b_made_of : MSs := (.cons (.ret (.bif "all" (.cons (.lc (.cmp .inx (.var 2) (.var 1)) (.name 2) (.val (.var 0)) .none [("sign", 2)]) .nil))) .nil)
def d_made_of : MDef := ⟨2, 3, b_made_of⟩
def N_is_name : List Str := ["thing"]
def b_is_name : MSs := (.cons (.ret (.and (.bif "isinstance" (.cons (.var 0) (.cons (.glob "str") .nil))) (.and (.cmp2 .le .le (.int 1) (.bif "len" (.cons (.var 0) .nil)) (.glob "MOST_LETTERS")) (.call "made_of" (.cons (.var 0) (.cons (.glob "LETTERS") .nil)))))) .nil)
def d_is_name : MDef := ⟨1, 1, b_is_name⟩
def N__law_cell : List Str := ["script", "k"]
def b__law_cell : MSs := (.cons (.ite (.cmp .lt (.var 1) (.bif "len" (.cons (.var 0) .nil))) (.cons (.ret (.sub (.var 0) (.var 1))) .nil) .nil) (.cons (.ret (.ari .add (.ari .mul (.int 6007) (.var 1)) (.int 41))) .nil))
def d__law_cell : MDef := ⟨2, 2, b__law_cell⟩
def N__law_box : List Str := ["cell"]
def b__law_box : MSs := (.cons (.ret (.lst (.cons (.bif "max" (.cons (.int 0) (.cons (.ari .sub (.var 0) (.ari .pow (.int 10) (.int 18))) .nil))) (.cons (.ari .mod (.var 0) (.int 2147483587)) (.cons (.int 0) .nil))))) .nil)
def d__law_box : MDef := ⟨1, 1, b__law_box⟩
def N__law_take : List Str := ["box", "many", "number", "digit"]
def b__law_take : MSs := (.cons (.ite (.cmp .gt (.sub (.var 0) (.int 0)) (.int 0)) (.cons (.asg (.name 3) false (.ari .mod (.sub (.var 0) (.int 0)) (.var 1))) (.cons (.asg (.sub (.var 0) (.int 0)) false (.ari .fdiv (.sub (.var 0) (.int 0)) (.var 1))) (.cons (.ret (.var 3)) .nil))) .nil) (.cons (.asg (.sub (.var 0) (.int 2)) false (.ari .add (.sub (.var 0) (.int 2)) (.int 1))) (.cons (.asg (.name 2) false (.ari .mod (.ari .pow (.ari .add (.ari .add (.sub (.var 0) (.int 1)) (.ari .mul (.int 40503) (.sub (.var 0) (.int 2)))) (.int 3)) (.int 5)) (.int 2147483647))) (.cons (.asg (.name 2) false (.ari .mod (.ari .pow (.ari .add (.var 2) (.ari .mul (.int 75011) (.sub (.var 0) (.int 2)))) (.int 5)) (.int 2147483629))) (.cons (.ret (.ari .mod (.ari .fdiv (.var 2) (.int 32)) (.var 1))) .nil)))))
def d__law_take : MDef := ⟨2, 4, b__law_take⟩
def N__law_thing : List Str := ["box", "some"]
def b__law_thing : MSs := (.cons (.asg (.name 1) false (.lst (.cons .non (.cons (.bl true) (.cons (.bl false) (.cons (.str (S "")) (.cons (.str (S "gen")) (.cons (.int 0) (.cons (.neg (.int 1)) (.cons (.int 1) (.cons (.ari .pow (.int 10) (.int 29)) (.cons (.lst .nil) (.cons (.lst (.cons (.int 1) .nil)) (.cons (.tup .nil) (.cons (.tup (.cons (.int 1) .nil)) (.cons (.dnew false) (.cons (.dic (.cons (.str (S "a")) (.cons (.int 1) .nil))) (.cons (.lst (.cons (.str (S "a")) (.cons (.lst (.cons (.int 1) .nil)) .nil))) (.cons (.tup (.cons (.str (S "a")) .nil)) .nil))))))))))))))))))) (.cons (.ret (.sub (.var 1) (.call "_law_take" (.cons (.var 0) (.cons (.int 17) .nil))))) .nil))
def d__law_thing : MDef := ⟨1, 2, b__law_thing⟩
def N__law_number : List Str := ["box", "way"]
def b__law_number : MSs := (.cons (.asg (.name 1) false (.call "_law_take" (.cons (.var 0) (.cons (.int 4) .nil)))) (.cons (.ite (.cmp .eq (.var 1) (.int 0)) (.cons (.ret (.sub (.lst (.cons (.ari .sub (.ari .pow (.int 10) (.int 30)) (.int 1)) (.cons (.ari .sub (.int 1) (.ari .pow (.int 10) (.int 30))) (.cons (.int 0) (.cons (.int 1) (.cons (.neg (.int 1)) .nil)))))) (.call "_law_take" (.cons (.var 0) (.cons (.int 5) .nil))))) .nil) .nil) (.cons (.ite (.cmp .eq (.var 1) (.int 1)) (.cons (.ret (.ari .add (.ari .mul (.call "_law_take" (.cons (.var 0) (.cons (.ari .pow (.int 10) (.int 8)) .nil))) (.ari .pow (.int 10) (.int 22))) (.call "_law_take" (.cons (.var 0) (.cons (.ari .pow (.int 10) (.int 8)) .nil))))) .nil) .nil) (.cons (.ret (.ari .sub (.call "_law_take" (.cons (.var 0) (.cons (.int 61) .nil))) (.int 30))) .nil))))
def d__law_number : MDef := ⟨1, 2, b__law_number⟩
def N__law_bounds : List Str := ["box", "number", "low", "high", "most"]
def b__law_bounds : MSs := (.cons (.asg (.name 2) false (.ari .add (.var 1) (.sub (.lst (.cons (.int 0) (.cons (.int 1) (.cons (.neg (.int 1)) (.cons (.neg (.int 30)) (.cons (.int 30) (.cons (.neg (.ari .pow (.int 10) (.int 29))) .nil))))))) (.call "_law_take" (.cons (.var 0) (.cons (.int 6) .nil)))))) (.cons (.asg (.name 3) false (.ari .add (.var 2) (.sub (.lst (.cons (.int 0) (.cons (.int 1) (.cons (.int 2) (.cons (.int 60) (.cons (.neg (.int 1)) (.cons (.ari .pow (.int 10) (.int 29)) .nil))))))) (.call "_law_take" (.cons (.var 0) (.cons (.int 6) .nil)))))) (.cons (.asg (.name 4) false (.ari .sub (.ari .pow (.int 10) (.int 30)) (.int 1))) (.cons (.ret (.tup (.cons (.bif "max" (.cons (.neg (.var 4)) (.cons (.bif "min" (.cons (.var 4) (.cons (.var 2) .nil))) .nil))) (.cons (.bif "max" (.cons (.neg (.var 4)) (.cons (.bif "min" (.cons (.var 4) (.cons (.var 3) .nil))) .nil))) .nil)))) .nil))))
def d__law_bounds : MDef := ⟨2, 5, b__law_bounds⟩
def N__law_text : List Str := ["box", "letters", "signs", "spoilt", "gone", "sign", "size", "text", "at", "k"]
def b__law_text : MSs := (.cons (.asg (.name 1) false (.str (S "abcdefghijklmnopqrstuvwxyz"))) (.cons (.asg (.name 2) false (.str (S " !\"#$&'()*+,-./0123456789:;<=>?@ABCDEFGHIJKLMNOPQRSTUVWXYZ[\\]^_`abcdefghijklmnopqrstuvwxyz{|}~\n"))) (.cons (.asg (.name 3) false (.cmp .eq (.call "_law_take" (.cons (.var 0) (.cons (.int 2) .nil))) (.int 0))) (.cons (.asg (.name 4) false (.call "_law_take" (.cons (.var 0) (.cons (.int 2) .nil)))) (.cons (.asg (.name 5) false (.sub (.var 2) (.call "_law_take" (.cons (.var 0) (.cons (.bif "len" (.cons (.var 2) .nil)) .nil))))) (.cons (.asg (.name 6) false (.sub (.lst (.cons (.int 6) (.cons (.int 7) (.cons (.int 1) (.cons (.call "_law_take" (.cons (.var 0) (.cons (.int 9) .nil))) .nil))))) (.call "_law_take" (.cons (.var 0) (.cons (.int 4) .nil))))) (.cons (.asg (.name 7) false (.met (.str (S "")) "join" (.cons (.lc (.sub (.var 1) (.call "_law_take" (.cons (.var 0) (.cons (.int 26) .nil)))) (.name 9) (.range (.cons (.var 6) .nil)) .none [("k", 9)]) .nil))) (.cons (.asg (.name 8) false (.call "_law_take" (.cons (.var 0) (.cons (.ari .add (.bif "len" (.cons (.var 7) .nil)) (.int 1)) .nil)))) (.cons (.ret (.ife (.var 3) (.ari .add (.ari .add (.sl (.var 7) .none (.some (.var 8))) (.var 5)) (.sl (.var 7) (.some (.ari .add (.var 8) (.var 4))) .none)) (.var 7))) .nil)))))))))
def d__law_text : MDef := ⟨1, 10, b__law_text⟩
def N__law_whole_due : List Str := ["thing", "low", "high"]
def b__law_whole_due : MSs := (.cons (.ite (.or (.bif "isinstance" (.cons (.var 0) (.cons (.glob "bool") .nil))) (.not (.bif "isinstance" (.cons (.var 0) (.cons (.glob "int") .nil))))) (.cons (.ret (.bl false)) .nil) .nil) (.cons (.ret (.and (.cmp .le (.var 1) (.var 0)) (.cmp .le (.var 0) (.var 2)))) .nil))
def d__law_whole_due : MDef := ⟨3, 3, b__law_whole_due⟩
def N__law_name_due : List Str := ["thing", "sign"]
def b__law_name_due : MSs := (.cons (.ite (.or (.not (.bif "isinstance" (.cons (.var 0) (.cons (.glob "str") .nil)))) (.or (.cmp .eq (.var 0) (.str (S ""))) (.cmp .gt (.bif "len" (.cons (.var 0) .nil)) (.int 6)))) (.cons (.ret (.bl false)) .nil) .nil) (.cons (.ret (.cmp .eq (.lc (.var 1) (.name 1) (.val (.var 0)) (.some (.cmp .notin (.var 1) (.str (S "abcdefghijklmnopqrstuvwxyz")))) [("sign", 1)]) (.lst .nil))) .nil))
def d__law_name_due : MDef := ⟨1, 2, b__law_name_due⟩
def N_law : List Str := ["script", "k", "box", "number", "bounds", "thing", "low", "high"]
def b_law : MSs := (.cons (.for (.name 1) (.range (.cons (.bif "max" (.cons (.int 2) (.cons (.bif "min" (.cons (.bif "len" (.cons (.var 0) .nil)) (.cons (.int 20) .nil))) .nil))) .nil)) (.cons (.asg (.name 2) true (.call "_law_box" (.cons (.call "_law_cell" (.cons (.var 0) (.cons (.var 1) .nil))) .nil))) (.cons (.asg (.name 3) false (.call "_law_number" (.cons (.var 2) .nil))) (.cons (.asg (.name 4) false (.lst (.cons (.call "_law_bounds" (.cons (.var 2) (.cons (.var 3) .nil))) (.cons (.tup (.cons (.int 0) (.cons (.int 1) .nil))) (.cons (.tup (.cons (.neg (.int 1)) (.cons (.int 4) .nil))) .nil))))) (.cons (.for (.name 5) (.val (.ari .mul (.lst (.cons (.var 3) (.cons (.call "_law_text" (.cons (.var 2) .nil)) (.cons (.call "_law_thing" (.cons (.var 2) .nil)) (.cons (.new "NoNumber" (.cons (.var 3) .nil)) .nil))))) (.int 2))) (.cons (.for (.tup (.cons (.name 6) (.cons (.name 7) .nil))) (.val (.var 4)) (.cons (.ite (.cmp .ne (.bif "repr" (.cons (.call "is_whole" (.cons (.var 5) (.cons (.var 6) (.cons (.var 7) .nil)))) .nil)) (.bif "repr" (.cons (.call "_law_whole_due" (.cons (.var 5) (.cons (.var 6) (.cons (.var 7) .nil)))) .nil))) (.cons (.ret (.bl false)) .nil) .nil) .nil)) (.cons (.ite (.cmp .ne (.bif "repr" (.cons (.call "is_name" (.cons (.var 5) .nil)) .nil)) (.bif "repr" (.cons (.call "_law_name_due" (.cons (.var 5) .nil)) .nil))) (.cons (.ret (.bl false)) .nil) .nil) .nil))) .nil))))) (.cons (.ret (.bl true)) .nil))
def d_law : MDef := ⟨1, 8, b_law⟩
theorem m_is_whole : mSs N_is_whole ⟨defScope (top 6), defScope (top 6)⟩ d_is_whole.body (defBody (top 6)) = true := by decide +kernel
theorem sc_is_whole : FnScope N_is_whole ["thing", "low", "high"] (defScope (top 6)) := ⟨rfl, rfl, rfl, by decide +kernel, rfl, by decide +kernel, by decide +kernel⟩
theorem m_made_of : mSs N_made_of ⟨defScope (top 7), defScope (top 7)⟩ d_made_of.body (defBody (top 7)) = true := by decide +kernel
theorem sc_made_of : FnScope N_made_of ["text", "signs"] (defScope (top 7)) := ⟨rfl, rfl, rfl, by decide +kernel, rfl, by decide +kernel, by decide +kernel⟩
theorem m_is_name : mSs N_is_name ⟨defScope (top 8), defScope (top 8)⟩ d_is_name.body (defBody (top 8)) = true := by decide +kernel
theorem sc_is_name : FnScope N_is_name ["thing"] (defScope (top 8)) := ⟨rfl, rfl, rfl, by decide +kernel, rfl, by decide +kernel, by decide +kernel⟩
theorem m__law_cell : mSs N__law_cell ⟨defScope (top 10), defScope (top 10)⟩ d__law_cell.body (defBody (top 10)) = true := by decide +kernel
theorem sc__law_cell : FnScope N__law_cell ["script", "k"] (defScope (top 10)) := ⟨rfl, rfl, rfl, by decide +kernel, rfl, by decide +kernel, by decide +kernel⟩
theorem m__law_box : mSs N__law_box ⟨defScope (top 11), defScope (top 11)⟩ d__law_box.body (defBody (top 11)) = true := by decide +kernel
theorem sc__law_box : FnScope N__law_box ["cell"] (defScope (top 11)) := ⟨rfl, rfl, rfl, by decide +kernel, rfl, by decide +kernel, by decide +kernel⟩
theorem m__law_take : mSs N__law_take ⟨defScope (top 12), defScope (top 12)⟩ d__law_take.body (defBody (top 12)) = true := by decide +kernel
theorem sc__law_take : FnScope N__law_take ["box", "many"] (defScope (top 12)) := ⟨rfl, rfl, rfl, by decide +kernel, rfl, by decide +kernel, by decide +kernel⟩
theorem m__law_thing : mSs N__law_thing ⟨defScope (top 13), defScope (top 13)⟩ d__law_thing.body (defBody (top 13)) = true := by decide +kernel
theorem sc__law_thing : FnScope N__law_thing ["box"] (defScope (top 13)) := ⟨rfl, rfl, rfl, by decide +kernel, rfl, by decide +kernel, by decide +kernel⟩
theorem m__law_number : mSs N__law_number ⟨defScope (top 14), defScope (top 14)⟩ d__law_number.body (defBody (top 14)) = true := by decide +kernel
theorem sc__law_number : FnScope N__law_number ["box"] (defScope (top 14)) := ⟨rfl, rfl, rfl, by decide +kernel, rfl, by decide +kernel, by decide +kernel⟩
theorem m__law_bounds : mSs N__law_bounds ⟨defScope (top 15), defScope (top 15)⟩ d__law_bounds.body (defBody (top 15)) = true := by decide +kernel
theorem sc__law_bounds : FnScope N__law_bounds ["box", "number"] (defScope (top 15)) := ⟨rfl, rfl, rfl, by decide +kernel, rfl, by decide +kernel, by decide +kernel⟩
theorem m__law_text : mSs N__law_text ⟨defScope (top 16), defScope (top 16)⟩ d__law_text.body (defBody (top 16)) = true := by decide +kernel
theorem sc__law_text : FnScope N__law_text ["box"] (defScope (top 16)) := ⟨rfl, rfl, rfl, by decide +kernel, rfl, by decide +kernel, by decide +kernel⟩
theorem m__law_whole_due : mSs N__law_whole_due ⟨defScope (top 17), defScope (top 17)⟩ d__law_whole_due.body (defBody (top 17)) = true := by decide +kernel
theorem sc__law_whole_due : FnScope N__law_whole_due ["thing", "low", "high"] (defScope (top 17)) := ⟨rfl, rfl, rfl, by decide +kernel, rfl, by decide +kernel, by decide +kernel⟩
theorem m__law_name_due : mSs N__law_name_due ⟨defScope (top 18), defScope (top 18)⟩ d__law_name_due.body (defBody (top 18)) = true := by decide +kernel
theorem sc__law_name_due : FnScope N__law_name_due ["thing"] (defScope (top 18)) := ⟨rfl, rfl, rfl, by decide +kernel, rfl, by decide +kernel, by decide +kernel⟩
theorem m_law : mSs N_law ⟨defScope (top 19), defScope (top 19)⟩ d_law.body (defBody (top 19)) = true := by decide +kernel
theorem sc_law : FnScope N_law ["script"] (defScope (top 19)) := ⟨rfl, rfl, rfl, by decide +kernel, rfl, by decide +kernel, by decide +kernel⟩
def Tk : Tb where
  cst := fun g => if g = "int" then some (.ty "int") else if g = "str" then some (.ty "str") else if g = "bool" then some (.ty "bool") else if g = "LETTERS" then some (.str (S "abcdefghijklmnopqrstuvwxyz")) else if g = "MOST_LETTERS" then some (.int 6) else none
  sub := fun c t => if c = "NoNumber" then (if t = "int" then some false else if t = "bool" then some false else if t = "str" then some false else none) else none
  subC := fun _ _ => none
  exc := fun c => decide (c = "NoNumber")
  defs := fun f => if f = "is_whole" then some d_is_whole else if f = "made_of" then some d_made_of else if f = "is_name" then some d_is_name else if f = "_law_cell" then some d__law_cell else if f = "_law_box" then some d__law_box else if f = "_law_take" then some d__law_take else if f = "_law_thing" then some d__law_thing else if f = "_law_number" then some d__law_number else if f = "_law_bounds" then some d__law_bounds else if f = "_law_text" then some d__law_text else if f = "_law_whole_due" then some d__law_whole_due else if f = "_law_name_due" then some d__law_name_due else if f = "law" then some d_law else none

end K01

set_option Elab.async false
set_option linter.all false
set_option maxRecDepth 100000
set_option maxHeartbeats 4000000
/-! k01: the link. -/
namespace K01
open PySem L2 Mi
theorem scB : FnScope ["self", "text"] ["self", "text"] (defScope (inClass (top 1) 0)) := ⟨rfl, rfl, rfl, by decide +kernel, rfl, by decide +kernel, by decide +kernel⟩
theorem scD : FnScope ["self", "found"] ["self", "found"] (defScope (inClass (top 2) 0)) := ⟨rfl, rfl, rfl, by decide +kernel, rfl, by decide +kernel, by decide +kernel⟩
theorem all_mk {l : PySem.W.OpenLaw} {w : World} {K : PySem.W.Frag} {h : Heap} {mg : Str → Option Value} {fa : Addr} (X : K.In h) (G : h.Ns mainGlobals mg) (hfa : mg "law" = some (.ref fa))
    {ad_is_whole : Addr} {od_is_whole an_is_whole : Option Addr} {sl_is_whole : Array (Option Value)} {oc_is_whole kV_is_whole dc_is_whole pm_is_whole cd_is_whole ct_is_whole : Value}
    {ad_made_of : Addr} {od_made_of an_made_of : Option Addr} {sl_made_of : Array (Option Value)} {oc_made_of kV_made_of dc_made_of pm_made_of cd_made_of ct_made_of : Value}
    {ad_is_name : Addr} {od_is_name an_is_name : Option Addr} {sl_is_name : Array (Option Value)} {oc_is_name kV_is_name dc_is_name pm_is_name cd_is_name ct_is_name : Value}
    {ad__law_cell : Addr} {od__law_cell an__law_cell : Option Addr} {sl__law_cell : Array (Option Value)} {oc__law_cell kV__law_cell dc__law_cell pm__law_cell cd__law_cell ct__law_cell : Value}
    {ad__law_box : Addr} {od__law_box an__law_box : Option Addr} {sl__law_box : Array (Option Value)} {oc__law_box kV__law_box dc__law_box pm__law_box cd__law_box ct__law_box : Value}
    {ad__law_take : Addr} {od__law_take an__law_take : Option Addr} {sl__law_take : Array (Option Value)} {oc__law_take kV__law_take dc__law_take pm__law_take cd__law_take ct__law_take : Value}
    {ad__law_thing : Addr} {od__law_thing an__law_thing : Option Addr} {sl__law_thing : Array (Option Value)} {oc__law_thing kV__law_thing dc__law_thing pm__law_thing cd__law_thing ct__law_thing : Value}
    {ad__law_number : Addr} {od__law_number an__law_number : Option Addr} {sl__law_number : Array (Option Value)} {oc__law_number kV__law_number dc__law_number pm__law_number cd__law_number ct__law_number : Value}
    {ad__law_bounds : Addr} {od__law_bounds an__law_bounds : Option Addr} {sl__law_bounds : Array (Option Value)} {oc__law_bounds kV__law_bounds dc__law_bounds pm__law_bounds cd__law_bounds ct__law_bounds : Value}
    {ad__law_text : Addr} {od__law_text an__law_text : Option Addr} {sl__law_text : Array (Option Value)} {oc__law_text kV__law_text dc__law_text pm__law_text cd__law_text ct__law_text : Value}
    {ad__law_whole_due : Addr} {od__law_whole_due an__law_whole_due : Option Addr} {sl__law_whole_due : Array (Option Value)} {oc__law_whole_due kV__law_whole_due dc__law_whole_due pm__law_whole_due cd__law_whole_due ct__law_whole_due : Value}
    {ad__law_name_due : Addr} {od__law_name_due an__law_name_due : Option Addr} {sl__law_name_due : Array (Option Value)} {oc__law_name_due kV__law_name_due dc__law_name_due pm__law_name_due cd__law_name_due ct__law_name_due : Value}
    {ad_law : Addr} {od_law an_law : Option Addr} {sl_law : Array (Option Value)} {oc_law kV_law dc_law pm_law cd_law ct_law : Value}
    {tL tM : Tok}
    {C B fI gI : Addr} {odI anI odG anG : Option Addr} {slI slG : Array (Option Value)} {ocI kVI dcI pmI cdI ctI ocG kVG dcG pmG cdG ctG : Value} {nm qn : Str} {NC : Addr} {bs bm : List Value} {sn : List Str} {sub : List Value} {ab : Bool} {col : Option Bool} {dd : Option Addr} {k0 k1 k2 k3 k5 : Option Value}
    (a_is_whole : PySem.W.nsIn K mainGlobals "is_whole" = some (some (.ref ad_is_whole)))
    (l_is_whole : K.lookup ad_is_whole = some ⟨oc_is_whole, od_is_whole, .func (PySem.W.fnOf "is_whole" "is_whole" (defArgs (top 6)) (defBody (top 6)) (defScope (top 6)) .none kV_is_whole dc_is_whole pm_is_whole an_is_whole cd_is_whole ct_is_whole), sl_is_whole⟩)
    (c_is_whole : PySem.W.codeIn K cd_is_whole "is_whole" = true)
    (k_is_whole : PySem.W.keepIn K (.ref ad_is_whole) = true)
    (a_made_of : PySem.W.nsIn K mainGlobals "made_of" = some (some (.ref ad_made_of)))
    (l_made_of : K.lookup ad_made_of = some ⟨oc_made_of, od_made_of, .func (PySem.W.fnOf "made_of" "made_of" (defArgs (top 7)) (defBody (top 7)) (defScope (top 7)) .none kV_made_of dc_made_of pm_made_of an_made_of cd_made_of ct_made_of), sl_made_of⟩)
    (c_made_of : PySem.W.codeIn K cd_made_of "made_of" = true)
    (k_made_of : PySem.W.keepIn K (.ref ad_made_of) = true)
    (a_is_name : PySem.W.nsIn K mainGlobals "is_name" = some (some (.ref ad_is_name)))
    (l_is_name : K.lookup ad_is_name = some ⟨oc_is_name, od_is_name, .func (PySem.W.fnOf "is_name" "is_name" (defArgs (top 8)) (defBody (top 8)) (defScope (top 8)) .none kV_is_name dc_is_name pm_is_name an_is_name cd_is_name ct_is_name), sl_is_name⟩)
    (c_is_name : PySem.W.codeIn K cd_is_name "is_name" = true)
    (k_is_name : PySem.W.keepIn K (.ref ad_is_name) = true)
    (a__law_cell : PySem.W.nsIn K mainGlobals "_law_cell" = some (some (.ref ad__law_cell)))
    (l__law_cell : K.lookup ad__law_cell = some ⟨oc__law_cell, od__law_cell, .func (PySem.W.fnOf "_law_cell" "_law_cell" (defArgs (top 10)) (defBody (top 10)) (defScope (top 10)) .none kV__law_cell dc__law_cell pm__law_cell an__law_cell cd__law_cell ct__law_cell), sl__law_cell⟩)
    (c__law_cell : PySem.W.codeIn K cd__law_cell "_law_cell" = true)
    (k__law_cell : PySem.W.keepIn K (.ref ad__law_cell) = true)
    (a__law_box : PySem.W.nsIn K mainGlobals "_law_box" = some (some (.ref ad__law_box)))
    (l__law_box : K.lookup ad__law_box = some ⟨oc__law_box, od__law_box, .func (PySem.W.fnOf "_law_box" "_law_box" (defArgs (top 11)) (defBody (top 11)) (defScope (top 11)) .none kV__law_box dc__law_box pm__law_box an__law_box cd__law_box ct__law_box), sl__law_box⟩)
    (c__law_box : PySem.W.codeIn K cd__law_box "_law_box" = true)
    (k__law_box : PySem.W.keepIn K (.ref ad__law_box) = true)
    (a__law_take : PySem.W.nsIn K mainGlobals "_law_take" = some (some (.ref ad__law_take)))
    (l__law_take : K.lookup ad__law_take = some ⟨oc__law_take, od__law_take, .func (PySem.W.fnOf "_law_take" "_law_take" (defArgs (top 12)) (defBody (top 12)) (defScope (top 12)) .none kV__law_take dc__law_take pm__law_take an__law_take cd__law_take ct__law_take), sl__law_take⟩)
    (c__law_take : PySem.W.codeIn K cd__law_take "_law_take" = true)
    (k__law_take : PySem.W.keepIn K (.ref ad__law_take) = true)
    (a__law_thing : PySem.W.nsIn K mainGlobals "_law_thing" = some (some (.ref ad__law_thing)))
    (l__law_thing : K.lookup ad__law_thing = some ⟨oc__law_thing, od__law_thing, .func (PySem.W.fnOf "_law_thing" "_law_thing" (defArgs (top 13)) (defBody (top 13)) (defScope (top 13)) .none kV__law_thing dc__law_thing pm__law_thing an__law_thing cd__law_thing ct__law_thing), sl__law_thing⟩)
    (c__law_thing : PySem.W.codeIn K cd__law_thing "_law_thing" = true)
    (k__law_thing : PySem.W.keepIn K (.ref ad__law_thing) = true)
    (a__law_number : PySem.W.nsIn K mainGlobals "_law_number" = some (some (.ref ad__law_number)))
    (l__law_number : K.lookup ad__law_number = some ⟨oc__law_number, od__law_number, .func (PySem.W.fnOf "_law_number" "_law_number" (defArgs (top 14)) (defBody (top 14)) (defScope (top 14)) .none kV__law_number dc__law_number pm__law_number an__law_number cd__law_number ct__law_number), sl__law_number⟩)
    (c__law_number : PySem.W.codeIn K cd__law_number "_law_number" = true)
    (k__law_number : PySem.W.keepIn K (.ref ad__law_number) = true)
    (a__law_bounds : PySem.W.nsIn K mainGlobals "_law_bounds" = some (some (.ref ad__law_bounds)))
    (l__law_bounds : K.lookup ad__law_bounds = some ⟨oc__law_bounds, od__law_bounds, .func (PySem.W.fnOf "_law_bounds" "_law_bounds" (defArgs (top 15)) (defBody (top 15)) (defScope (top 15)) .none kV__law_bounds dc__law_bounds pm__law_bounds an__law_bounds cd__law_bounds ct__law_bounds), sl__law_bounds⟩)
    (c__law_bounds : PySem.W.codeIn K cd__law_bounds "_law_bounds" = true)
    (k__law_bounds : PySem.W.keepIn K (.ref ad__law_bounds) = true)
    (a__law_text : PySem.W.nsIn K mainGlobals "_law_text" = some (some (.ref ad__law_text)))
    (l__law_text : K.lookup ad__law_text = some ⟨oc__law_text, od__law_text, .func (PySem.W.fnOf "_law_text" "_law_text" (defArgs (top 16)) (defBody (top 16)) (defScope (top 16)) .none kV__law_text dc__law_text pm__law_text an__law_text cd__law_text ct__law_text), sl__law_text⟩)
    (c__law_text : PySem.W.codeIn K cd__law_text "_law_text" = true)
    (k__law_text : PySem.W.keepIn K (.ref ad__law_text) = true)
    (a__law_whole_due : PySem.W.nsIn K mainGlobals "_law_whole_due" = some (some (.ref ad__law_whole_due)))
    (l__law_whole_due : K.lookup ad__law_whole_due = some ⟨oc__law_whole_due, od__law_whole_due, .func (PySem.W.fnOf "_law_whole_due" "_law_whole_due" (defArgs (top 17)) (defBody (top 17)) (defScope (top 17)) .none kV__law_whole_due dc__law_whole_due pm__law_whole_due an__law_whole_due cd__law_whole_due ct__law_whole_due), sl__law_whole_due⟩)
    (c__law_whole_due : PySem.W.codeIn K cd__law_whole_due "_law_whole_due" = true)
    (k__law_whole_due : PySem.W.keepIn K (.ref ad__law_whole_due) = true)
    (a__law_name_due : PySem.W.nsIn K mainGlobals "_law_name_due" = some (some (.ref ad__law_name_due)))
    (l__law_name_due : K.lookup ad__law_name_due = some ⟨oc__law_name_due, od__law_name_due, .func (PySem.W.fnOf "_law_name_due" "_law_name_due" (defArgs (top 18)) (defBody (top 18)) (defScope (top 18)) .none kV__law_name_due dc__law_name_due pm__law_name_due an__law_name_due cd__law_name_due ct__law_name_due), sl__law_name_due⟩)
    (c__law_name_due : PySem.W.codeIn K cd__law_name_due "_law_name_due" = true)
    (k__law_name_due : PySem.W.keepIn K (.ref ad__law_name_due) = true)
    (a_law : PySem.W.nsIn K mainGlobals "law" = some (some (.ref ad_law)))
    (l_law : K.lookup ad_law = some ⟨oc_law, od_law, .func (PySem.W.fnOf "law" "law" (defArgs (top 19)) (defBody (top 19)) (defScope (top 19)) .none kV_law dc_law pm_law an_law cd_law ct_law), sl_law⟩)
    (c_law : PySem.W.codeIn K cd_law "law" = true)
    (k_law : PySem.W.keepIn K (.ref ad_law) = true)
    (z_len : PySem.W.nsIn K mainGlobals "len" = some none)
    (z_max : PySem.W.nsIn K mainGlobals "max" = some none)
    (z_min : PySem.W.nsIn K mainGlobals "min" = some none)
    (z_all : PySem.W.nsIn K mainGlobals "all" = some none)
    (z_any : PySem.W.nsIn K mainGlobals "any" = some none)
    (z_isinstance : PySem.W.nsIn K mainGlobals "isinstance" = some none)
    (z_repr : PySem.W.nsIn K mainGlobals "repr" = some none)
    (z_range : PySem.W.nsIn K mainGlobals "range" = some none)
    (z_int : PySem.W.nsIn K mainGlobals "int" = some none)
    (z_str : PySem.W.nsIn K mainGlobals "str" = some none)
    (z_bool : PySem.W.nsIn K mainGlobals "bool" = some none)
    (z_ValueError : PySem.W.nsIn K mainGlobals "ValueError" = some none)
    (g_L : PySem.W.nsIn K mainGlobals "LETTERS" = some (some (.str (S "abcdefghijklmnopqrstuvwxyz") tL)))
    (g_M : PySem.W.nsIn K mainGlobals "MOST_LETTERS" = some (some (.int 6 tM)))
    (aC : PySem.W.nsIn K mainGlobals "NoNumber" = some (some (.ref C)))
    (aB : PySem.W.nsIn K mainGlobals "PlaceError" = some (some (.ref B)))
    (lC : K.lookup C = some (excClassObj nm qn C NC bs bm true sn sub ab col dd k0 k1 k2 k3 k5 "ValueError.__new__"))
    (rC : PySem.HandSPX.refsVE bm = true)
    (sa : PySem.W.findIn K (.ref C) "__setattr__" = some (some (.builtin "object.__setattr__")))
    (exC : PySem.W.subIn K (.ref C) (.type "BaseException") = some true)
    (tyC : PySem.W.typeIn K (.ref C) = some (.type "type"))
    (kC : PySem.W.keepIn K (.ref C) = true)
    (iC : PySem.W.findIn K (.ref C) "__init__" = some (some (.ref fI)))
    (tI : PySem.W.typeIn K (.ref fI) = some (.type "function"))
    (lI : K.lookup fI = some ⟨ocI, odI, .func (PySem.W.fnOf "__init__" "NoNumber.__init__" (defArgs (inClass (top 2) 0)) (defBody (inClass (top 2) 0)) (defScope (inClass (top 2) 0)) .none kVI dcI pmI anI cdI ctI), slI⟩)
    (cI : PySem.W.codeIn K cdI "NoNumber.__init__" = true)
    (kI : PySem.W.keepIn K (.ref fI) = true)
    (rdB : PySem.W.readsIn K B (.type "type") = true)
    (gaB : PySem.W.specialIn K (.ref B) "__getattribute__" = some (some (.builtin "type.__getattribute__")))
    (fB : PySem.W.findCls K (.ref B) (.type "type") "__init__" = some (.val (.ref gI)))
    (lG : K.lookup gI = some ⟨ocG, odG, .func (PySem.W.fnOf "__init__" "PlaceError.__init__" (defArgs (inClass (top 1) 0)) (defBody (inClass (top 1) 0)) (defScope (inClass (top 1) 0)) .none kVG dcG pmG anG cdG ctG), slG⟩)
    (cG : PySem.W.codeIn K cdG "PlaceError.__init__" = true)
    (kG : PySem.W.keepIn K (.ref gI) = true)
    (no : PySem.W.findIn K (.ref C) "found" = some none)
    (vV : PySem.W.findCls K (.type "ValueError") (.type "type") "__init__" = some (.val (.builtin "ValueError.__init__")))
    (e1 : PySem.W.findIn K (.ref C) "__getattribute__" = some (some (.builtin "BaseException.__getattribute__")))
    (e2 : PySem.W.findIn K (.ref C) "__getattr__" = some none)
    (e3 : PySem.W.hasDictIn K C = true)
    (e4 : PySem.W.findIn K (.ref C) "__class__" = some (some (.builtin "object.__class__")))
    (e5 : PySem.W.specialIn K (.builtin "object.__class__") "__get__" = some (some (.builtin "getset_descriptor.__get__")))
    (e6 : PySem.W.takesIn K (.builtin "object.__class__") = some true)
    (e7 : PySem.W.mroIn K C (.type "object") = some true)
    (i_int : PySem.W.subIn K (.ref C) (.type "int") = some false)
    (i_bool : PySem.W.subIn K (.ref C) (.type "bool") = some false)
    (i_str : PySem.W.subIn K (.ref C) (.type "str") = some false)
    (main : ∀ ns : List Int, ns.length ≤ 63 → ∃ h', callN Tk 30 "law" [.d (.scr ns)] [] = .ok (.v (.d (.bl true))) h') :
    ∃ fd : FuncData, (∀ (s : Shared) (v : Value), BindsTo s fd ⟨[v], []⟩ [("script", v)]) ∧ ∀ base : Heap, K.In base → base.Ns mainGlobals mg → FnOk l.prog w K mg base CX0 30 fa fd ["script"] (spLaw 63 K) := by
  have e := hfa.symm.trans (PySem.W.mg_of X G a_law)
  cases e
  let L : Lk := ⟨K, mg, fun c => if c = "NoNumber" then some C else none⟩
  have D_is_whole : DefIs L "is_whole" d_is_whole "is_whole" (top 6) ad_is_whole _ N_is_whole ["thing", "low", "high"] := ⟨fun_mk (st := top 6) l_is_whole c_is_whole k_is_whole, sc_is_whole, rfl, rfl, m_is_whole, PySem.W.mg_of X G a_is_whole, (fun_mk (st := top 6) l_is_whole c_is_whole k_is_whole).binds fun _ _ _ _ _ _ us hl => match us, hl with | [_, _, _], _ => rfl⟩
  have D_made_of : DefIs L "made_of" d_made_of "made_of" (top 7) ad_made_of _ N_made_of ["text", "signs"] := ⟨fun_mk (st := top 7) l_made_of c_made_of k_made_of, sc_made_of, rfl, rfl, m_made_of, PySem.W.mg_of X G a_made_of, (fun_mk (st := top 7) l_made_of c_made_of k_made_of).binds fun _ _ _ _ _ _ us hl => match us, hl with | [_, _], _ => rfl⟩
  have D_is_name : DefIs L "is_name" d_is_name "is_name" (top 8) ad_is_name _ N_is_name ["thing"] := ⟨fun_mk (st := top 8) l_is_name c_is_name k_is_name, sc_is_name, rfl, rfl, m_is_name, PySem.W.mg_of X G a_is_name, (fun_mk (st := top 8) l_is_name c_is_name k_is_name).binds fun _ _ _ _ _ _ us hl => match us, hl with | [_], _ => rfl⟩
  have D__law_cell : DefIs L "_law_cell" d__law_cell "_law_cell" (top 10) ad__law_cell _ N__law_cell ["script", "k"] := ⟨fun_mk (st := top 10) l__law_cell c__law_cell k__law_cell, sc__law_cell, rfl, rfl, m__law_cell, PySem.W.mg_of X G a__law_cell, (fun_mk (st := top 10) l__law_cell c__law_cell k__law_cell).binds fun _ _ _ _ _ _ us hl => match us, hl with | [_, _], _ => rfl⟩
  have D__law_box : DefIs L "_law_box" d__law_box "_law_box" (top 11) ad__law_box _ N__law_box ["cell"] := ⟨fun_mk (st := top 11) l__law_box c__law_box k__law_box, sc__law_box, rfl, rfl, m__law_box, PySem.W.mg_of X G a__law_box, (fun_mk (st := top 11) l__law_box c__law_box k__law_box).binds fun _ _ _ _ _ _ us hl => match us, hl with | [_], _ => rfl⟩
  have D__law_take : DefIs L "_law_take" d__law_take "_law_take" (top 12) ad__law_take _ N__law_take ["box", "many"] := ⟨fun_mk (st := top 12) l__law_take c__law_take k__law_take, sc__law_take, rfl, rfl, m__law_take, PySem.W.mg_of X G a__law_take, (fun_mk (st := top 12) l__law_take c__law_take k__law_take).binds fun _ _ _ _ _ _ us hl => match us, hl with | [_, _], _ => rfl⟩
  have D__law_thing : DefIs L "_law_thing" d__law_thing "_law_thing" (top 13) ad__law_thing _ N__law_thing ["box"] := ⟨fun_mk (st := top 13) l__law_thing c__law_thing k__law_thing, sc__law_thing, rfl, rfl, m__law_thing, PySem.W.mg_of X G a__law_thing, (fun_mk (st := top 13) l__law_thing c__law_thing k__law_thing).binds fun _ _ _ _ _ _ us hl => match us, hl with | [_], _ => rfl⟩
  have D__law_number : DefIs L "_law_number" d__law_number "_law_number" (top 14) ad__law_number _ N__law_number ["box"] := ⟨fun_mk (st := top 14) l__law_number c__law_number k__law_number, sc__law_number, rfl, rfl, m__law_number, PySem.W.mg_of X G a__law_number, (fun_mk (st := top 14) l__law_number c__law_number k__law_number).binds fun _ _ _ _ _ _ us hl => match us, hl with | [_], _ => rfl⟩
  have D__law_bounds : DefIs L "_law_bounds" d__law_bounds "_law_bounds" (top 15) ad__law_bounds _ N__law_bounds ["box", "number"] := ⟨fun_mk (st := top 15) l__law_bounds c__law_bounds k__law_bounds, sc__law_bounds, rfl, rfl, m__law_bounds, PySem.W.mg_of X G a__law_bounds, (fun_mk (st := top 15) l__law_bounds c__law_bounds k__law_bounds).binds fun _ _ _ _ _ _ us hl => match us, hl with | [_, _], _ => rfl⟩
  have D__law_text : DefIs L "_law_text" d__law_text "_law_text" (top 16) ad__law_text _ N__law_text ["box"] := ⟨fun_mk (st := top 16) l__law_text c__law_text k__law_text, sc__law_text, rfl, rfl, m__law_text, PySem.W.mg_of X G a__law_text, (fun_mk (st := top 16) l__law_text c__law_text k__law_text).binds fun _ _ _ _ _ _ us hl => match us, hl with | [_], _ => rfl⟩
  have D__law_whole_due : DefIs L "_law_whole_due" d__law_whole_due "_law_whole_due" (top 17) ad__law_whole_due _ N__law_whole_due ["thing", "low", "high"] := ⟨fun_mk (st := top 17) l__law_whole_due c__law_whole_due k__law_whole_due, sc__law_whole_due, rfl, rfl, m__law_whole_due, PySem.W.mg_of X G a__law_whole_due, (fun_mk (st := top 17) l__law_whole_due c__law_whole_due k__law_whole_due).binds fun _ _ _ _ _ _ us hl => match us, hl with | [_, _, _], _ => rfl⟩
  have D__law_name_due : DefIs L "_law_name_due" d__law_name_due "_law_name_due" (top 18) ad__law_name_due _ N__law_name_due ["thing"] := ⟨fun_mk (st := top 18) l__law_name_due c__law_name_due k__law_name_due, sc__law_name_due, rfl, rfl, m__law_name_due, PySem.W.mg_of X G a__law_name_due, (fun_mk (st := top 18) l__law_name_due c__law_name_due k__law_name_due).binds fun _ _ _ _ _ _ us hl => match us, hl with | [_], _ => rfl⟩
  have D_law : DefIs L "law" d_law "law" (top 19) fa _ N_law ["script"] := ⟨fun_mk (st := top 19) l_law c_law k_law, sc_law, rfl, rfl, m_law, PySem.W.mg_of X G a_law, (fun_mk (st := top 19) l_law c_law k_law).binds fun _ _ _ _ _ _ us hl => match us, hl with | [_], _ => rfl⟩
  have hA : AllOk L Tk := fun f d hd => by
    have hd' : (if f = "is_whole" then some d_is_whole else if f = "made_of" then some d_made_of else if f = "is_name" then some d_is_name else if f = "_law_cell" then some d__law_cell else if f = "_law_box" then some d__law_box else if f = "_law_take" then some d__law_take else if f = "_law_thing" then some d__law_thing else if f = "_law_number" then some d__law_number else if f = "_law_bounds" then some d__law_bounds else if f = "_law_text" then some d__law_text else if f = "_law_whole_due" then some d__law_whole_due else if f = "_law_name_due" then some d__law_name_due else if f = "law" then some d_law else none) = some d := hd
    by_cases q : f = "is_whole"
    · subst q
      rw [if_pos rfl] at hd'
      cases hd'
      exact ⟨_, _, _, _, _, _, D_is_whole⟩
    rw [if_neg q] at hd'
    clear q
    by_cases q : f = "made_of"
    · subst q
      rw [if_pos rfl] at hd'
      cases hd'
      exact ⟨_, _, _, _, _, _, D_made_of⟩
    rw [if_neg q] at hd'
    clear q
    by_cases q : f = "is_name"
    · subst q
      rw [if_pos rfl] at hd'
      cases hd'
      exact ⟨_, _, _, _, _, _, D_is_name⟩
    rw [if_neg q] at hd'
    clear q
    by_cases q : f = "_law_cell"
    · subst q
      rw [if_pos rfl] at hd'
      cases hd'
      exact ⟨_, _, _, _, _, _, D__law_cell⟩
    rw [if_neg q] at hd'
    clear q
    by_cases q : f = "_law_box"
    · subst q
      rw [if_pos rfl] at hd'
      cases hd'
      exact ⟨_, _, _, _, _, _, D__law_box⟩
    rw [if_neg q] at hd'
    clear q
    by_cases q : f = "_law_take"
    · subst q
      rw [if_pos rfl] at hd'
      cases hd'
      exact ⟨_, _, _, _, _, _, D__law_take⟩
    rw [if_neg q] at hd'
    clear q
    by_cases q : f = "_law_thing"
    · subst q
      rw [if_pos rfl] at hd'
      cases hd'
      exact ⟨_, _, _, _, _, _, D__law_thing⟩
    rw [if_neg q] at hd'
    clear q
    by_cases q : f = "_law_number"
    · subst q
      rw [if_pos rfl] at hd'
      cases hd'
      exact ⟨_, _, _, _, _, _, D__law_number⟩
    rw [if_neg q] at hd'
    clear q
    by_cases q : f = "_law_bounds"
    · subst q
      rw [if_pos rfl] at hd'
      cases hd'
      exact ⟨_, _, _, _, _, _, D__law_bounds⟩
    rw [if_neg q] at hd'
    clear q
    by_cases q : f = "_law_text"
    · subst q
      rw [if_pos rfl] at hd'
      cases hd'
      exact ⟨_, _, _, _, _, _, D__law_text⟩
    rw [if_neg q] at hd'
    clear q
    by_cases q : f = "_law_whole_due"
    · subst q
      rw [if_pos rfl] at hd'
      cases hd'
      exact ⟨_, _, _, _, _, _, D__law_whole_due⟩
    rw [if_neg q] at hd'
    clear q
    by_cases q : f = "_law_name_due"
    · subst q
      rw [if_pos rfl] at hd'
      cases hd'
      exact ⟨_, _, _, _, _, _, D__law_name_due⟩
    rw [if_neg q] at hd'
    clear q
    by_cases q : f = "law"
    · subst q
      rw [if_pos rfl] at hd'
      cases hd'
      exact ⟨_, _, _, _, _, _, D_law⟩
    rw [if_neg q] at hd'
    clear q
    cases hd'
  have EC : ExcC K C := ⟨e1, e2, exC, e3, e4, e5, e6, e7⟩
  have hcl : ∀ {c : String} {D : Addr}, L.cl c = some D → c = "NoNumber" ∧ D = C := fun {c D} q => by
    have q' : (if c = "NoNumber" then some C else none) = some D := q
    by_cases z : c = "NoNumber"
    · rw [if_pos z] at q'; cases q'; exact ⟨z, rfl⟩
    · rw [if_neg z] at q'; cases q'
  have hS : SubOk Tk L := by
    refine ⟨fun c t b q D hD => ?_, fun c t b q => by cases q⟩
    obtain ⟨rfl, rfl⟩ := hcl hD
    refine ⟨EC, ?_⟩
    have q' : (if t = "int" then some false else if t = "bool" then some false else if t = "str" then some false else none) = some b := q
    by_cases z1 : t = "int"
    · subst z1; rw [if_pos rfl] at q'; cases q'; exact kit_sub (by decide +kernel) i_int
    rw [if_neg z1] at q'
    by_cases z2 : t = "bool"
    · subst z2; rw [if_pos rfl] at q'; cases q'; exact kit_sub (by decide +kernel) i_bool
    rw [if_neg z2] at q'
    by_cases z3 : t = "str"
    · subst z3; rw [if_pos rfl] at q'; cases q'; exact kit_sub (by decide +kernel) i_str
    rw [if_neg z3] at q'
    cases q'
  have none_ := fun {x : Str} (z : PySem.W.nsIn K mainGlobals x = some none) => PySem.W.mg_none_of X G z
  have hL : LkOk L Tk := by
    refine ⟨fun g d q => ?_, fun f hf => ?_, hS⟩
    · have q' : (if g = "int" then some (D.ty "int") else if g = "str" then some (.ty "str") else if g = "bool" then some (.ty "bool") else if g = "LETTERS" then some (.str (S "abcdefghijklmnopqrstuvwxyz")) else if g = "MOST_LETTERS" then some (.int 6) else none) = some d := q
      by_cases z1 : g = "int"
      · subst z1; rw [if_pos rfl] at q'; cases q'; exact ⟨.ty "int", .type "int", rfl, .inr ⟨none_ z_int, by decide +kernel⟩, fun _ => .ty _⟩
      rw [if_neg z1] at q'
      by_cases z2 : g = "str"
      · subst z2; rw [if_pos rfl] at q'; cases q'; exact ⟨.ty "str", .type "str", rfl, .inr ⟨none_ z_str, by decide +kernel⟩, fun _ => .ty _⟩
      rw [if_neg z2] at q'
      by_cases z3 : g = "bool"
      · subst z3; rw [if_pos rfl] at q'; cases q'; exact ⟨.ty "bool", .type "bool", rfl, .inr ⟨none_ z_bool, by decide +kernel⟩, fun _ => .ty _⟩
      rw [if_neg z3] at q'
      by_cases z4 : g = "LETTERS"
      · subst z4; rw [if_pos rfl] at q'; cases q'; exact ⟨.str _, _, ⟨_, rfl⟩, .inl (PySem.W.mg_of X G g_L), fun _ => .str _⟩
      rw [if_neg z4] at q'
      by_cases z5 : g = "MOST_LETTERS"
      · subst z5; rw [if_pos rfl] at q'; cases q'; exact ⟨.int _, _, ⟨_, rfl⟩, .inl (PySem.W.mg_of X G g_M), fun _ => .int _⟩
      rw [if_neg z5] at q'
      cases q'
    · simp only [bis, List.mem_cons, List.not_mem_nil, or_false] at hf
      rcases hf with (rfl | rfl | rfl | rfl | rfl | rfl | rfl) | rfl
      · exact none_ z_len
      · exact none_ z_max
      · exact none_ z_min
      · exact none_ z_all
      · exact none_ z_any
      · exact none_ z_isinstance
      · exact none_ z_repr
      · exact none_ z_range
  have T1 : OexC K C := ⟨⟨_, _, _, _, _, _, _, _, _, _, _, _, _, _, _, lC, rC⟩, sa, exC, tyC, kC⟩
  have FI := fun_mk (st := inClass (top 2) 0) lI cI kI
  have FG := fun_mk (st := inClass (top 1) 0) lG cG kG
  have bI : Binds K _ ["self", "found"] [] := FI.binds fun _ _ _ _ _ _ us hl => match us, hl with | [_, _], _ => rfl
  have bG : Binds K _ ["self", "text"] [] := FG.binds fun _ _ _ _ _ _ us hl => match us, hl with | [_, _], _ => rfl
  refine ⟨PySem.W.fnOf "law" "law" (defArgs (top 19)) (defBody (top 19)) (defScope (top 19)) .none kV_law dc_law pm_law an_law cd_law ct_law, fun s v => .of_eq rfl, fun base _ _ => ?_⟩
  have hX : ∀ c, Tk.exc c = true → NewX L l.prog w base 2 c := fun c hc => by
    have hc' : c = "NoNumber" := of_decide_eq_true hc
    subst hc'
    have G1 : FnOk l.prog w K mg base CX0 1 gI _ ["self", "text"] (spXB K) := xb_ok FG scB rfl (fun _ => rfl) (.inl rfl) (.inl rfl) (by decide) (by decide) (by decide) (by decide) rfl (none_ z_ValueError) vV
    have I1 : FnOk l.prog w K mg base CX0 2 fI _ ["self", "found"] (spXD K "found") := xd_ok FI scD rfl (fun _ => rfl) (.inl rfl) (.inl rfl) (by decide) (by decide) (by decide) (by decide) rfl (by decide) (PySem.W.mg_of X G aB) ⟨rdB, gaB⟩ fB kG G1 bG
    exact ⟨C, fI, _, _, "found", rfl, PySem.W.mg_of X G aC, T1, iC, tI, I1, bI, no⟩
  exact law_fn (L := L) hL hA hX rfl D_law main
end K01

set_option Elab.async false
set_option linter.all false
set_option maxRecDepth 100000
set_option maxHeartbeats 8000000
/-! k01: what the defs answer. -/
namespace K01
open PySem L2 Mi
theorem run_is {n : Nat} {f : String} {d : MDef} (hd : Tk.defs f = some d) (as : List Val) (h : Hm) : callN Tk (n + 1) f as h = runD Tk (callN Tk n) (newT Tk n) d as h := by
  rw [callN, hd]
theorem set_len {h : Hm} {i : Nat} {c : Cell} : (h.set i c).take h.length = h.set i c := List.take_of_length_le (by simp)
theorem box_eval (c : Int) (n : Nat) (h : Hm) : callN Tk (n+1) "_law_box" [.d (.int c)] h = .ok (.own (.lst [.d (.int (if c - 1000000000000000000 > 0 then c - 1000000000000000000 else 0)), .d (.int (c % 2147483587)), .d (.int 0)])) h := by
  rw [run_is rfl]
  simp [d__law_box, b__law_box, ↓k_non, ↓k_bl, ↓k_int, ↓k_str, ↓k_var', ↓k_glob, ↓k_ari, ↓k_neg, ↓k_not, ↓k_and, ↓k_or, ↓k_cmp, ↓k_cmp2, ↓k_ife, ↓k_call, ↓k_new, ↓k_bif, ↓k_met, ↓k_sub, ↓k_sl, ↓k_tup, ↓k_lst, ↓k_dic, ↓k_dnew, ↓k_lc, ↓k_nil, ↓k_cons, ↓k_onone, ↓k_osome, ↓k_pnone, ↓k_psome, ↓k_ival, ↓k_irange, ↓k_gname, ↓k_gtup, ↓k_gsub, ↓k_gnil, ↓k_gcons, ↓k_asgF, ↓k_asgT, ↓k_expr, ↓k_sret, ↓k_retN, ↓k_pass, ↓k_brk, ↓k_cnt, ↓k_ite, ↓k_for, ↓k_fornil, ↓k_forcons, ↓k_snil, ↓k_scons, ↓k_ret, ↓k_set, ↓k_append, ↓k_join, ↓fz_v, ↓fz_lst, ↓fz_dicK, ↓plc_own, ↓ret_ap, set_len, runD, startS, flats, flat, bifD, ariD, leave, allD, Mi.small64, lineN, itemsV, truV, eqD, inD, cmpD, tyD, subTy, isiD, metD, metM, metTy, hasTy, subV, Mi.setItem, appendM, unTup, MTs.len, wipeS, okV, okVs, mkTup, ixN, walkW, rangeW, slV, pairsK, keyD, newT, putM, tr, cm]
/-- a digit is drawn from a box -/
theorem take_eval {n i : Nat} {h : Hm} {a b c many : Int} (hi : h[i]? = some (.lst [.d (.int a), .d (.int b), .d (.int c)])) (m0 : 0 < many) (m1 : many < 1073741824) (b0 : 0 ≤ b) (b1 : b < 2147483647) (c0 : 0 ≤ c) (c1 : c ≤ 1000000) :
    ∃ d a' c', callN Tk (n+1) "_law_take" [.ref i, .d (.int many)] h = .ok (.v (.d (.int d))) (h.set i (.lst [.d (.int a'), .d (.int b), .d (.int c')])) ∧ 0 ≤ d ∧ d < many ∧ 0 ≤ c' ∧ c' ≤ c + 1 := by
  have hil : i < h.length := (List.getElem?_eq_some_iff.mp hi).1
  have e1 : ∀ c, (h.set i c)[i]? = some c := fun c => List.getElem?_set_self hil
  clear hil
  rw [run_is rfl]
  by_cases ha : 0 < a
  · refine ⟨a % many, a / many, c, ?_, Int.emod_nonneg _ (by omega), Int.emod_lt_of_pos _ m0, c0, by omega⟩
    simp [d__law_take, b__law_take, hi, ha, m0, m1, e1, ↓k_non, ↓k_bl, ↓k_int, ↓k_str, ↓k_var', ↓k_glob, ↓k_ari, ↓k_neg, ↓k_not, ↓k_and, ↓k_or, ↓k_cmp, ↓k_cmp2, ↓k_ife, ↓k_call, ↓k_new, ↓k_bif, ↓k_met, ↓k_sub, ↓k_sl, ↓k_tup, ↓k_lst, ↓k_dic, ↓k_dnew, ↓k_lc, ↓k_nil, ↓k_cons, ↓k_onone, ↓k_osome, ↓k_pnone, ↓k_psome, ↓k_ival, ↓k_irange, ↓k_gname, ↓k_gtup, ↓k_gsub, ↓k_gnil, ↓k_gcons, ↓k_asgF, ↓k_asgT, ↓k_expr, ↓k_sret, ↓k_retN, ↓k_pass, ↓k_brk, ↓k_cnt, ↓k_ite, ↓k_for, ↓k_fornil, ↓k_forcons, ↓k_snil, ↓k_scons, ↓k_ret, ↓k_set, ↓k_append, ↓k_join, ↓fz_v, ↓fz_lst, ↓fz_dicK, ↓plc_own, ↓ret_ap, set_len, runD, startS, flats, flat, bifD, ariD, leave, allD, Mi.small64, lineN, itemsV, truV, eqD, inD, cmpD, tyD, subTy, isiD, metD, metM, metTy, hasTy, subV, Mi.setItem, appendM, unTup, MTs.len, wipeS, okV, okVs, mkTup, ixN, walkW, rangeW, slV, pairsK, keyD, newT, putM, tr, cm]
  · have p1 : (b + 40503 * (c + 1) + 3).natAbs < 18446744073709551616 := by omega
    have q0 := Int.emod_nonneg ((b + 40503 * (c + 1) + 3) ^ 5) (show (2147483647 : Int) ≠ 0 by decide)
    have q1 := Int.emod_lt_of_pos ((b + 40503 * (c + 1) + 3) ^ 5) (show (0 : Int) < 2147483647 by decide)
    have p2 : ((b + 40503 * (c + 1) + 3) ^ 5 % 2147483647 + 75011 * (c + 1)).natAbs < 18446744073709551616 := by omega
    refine ⟨(((b + 40503 * (c + 1) + 3) ^ 5 % 2147483647 + 75011 * (c + 1)) ^ 5 % 2147483629) / 32 % many, a, c + 1, ?_, Int.emod_nonneg _ (by omega), Int.emod_lt_of_pos _ m0, by omega, by omega⟩
    simp [d__law_take, b__law_take, hi, ha, m0, m1, e1, p1, p2, ↓k_non, ↓k_bl, ↓k_int, ↓k_str, ↓k_var', ↓k_glob, ↓k_ari, ↓k_neg, ↓k_not, ↓k_and, ↓k_or, ↓k_cmp, ↓k_cmp2, ↓k_ife, ↓k_call, ↓k_new, ↓k_bif, ↓k_met, ↓k_sub, ↓k_sl, ↓k_tup, ↓k_lst, ↓k_dic, ↓k_dnew, ↓k_lc, ↓k_nil, ↓k_cons, ↓k_onone, ↓k_osome, ↓k_pnone, ↓k_psome, ↓k_ival, ↓k_irange, ↓k_gname, ↓k_gtup, ↓k_gsub, ↓k_gnil, ↓k_gcons, ↓k_asgF, ↓k_asgT, ↓k_expr, ↓k_sret, ↓k_retN, ↓k_pass, ↓k_brk, ↓k_cnt, ↓k_ite, ↓k_for, ↓k_fornil, ↓k_forcons, ↓k_snil, ↓k_scons, ↓k_ret, ↓k_set, ↓k_append, ↓k_join, ↓fz_v, ↓fz_lst, ↓fz_dicK, ↓plc_own, ↓ret_ap, set_len, runD, startS, flats, flat, bifD, ariD, leave, allD, Mi.small64, lineN, itemsV, truV, eqD, inD, cmpD, tyD, subTy, isiD, metD, metM, metTy, hasTy, subV, Mi.setItem, appendM, unTup, MTs.len, wipeS, okV, okVs, mkTup, ixN, walkW, rangeW, slV, pairsK, keyD, newT, putM, tr, cm]

/-- a box at i, its count at most m -/
def Bx (h : Hm) (i : Nat) (m : Int) : Prop := ∃ a b c, h[i]? = some (.lst [.d (.int a), .d (.int b), .d (.int c)]) ∧ 0 ≤ b ∧ b < 2147483647 ∧ 0 ≤ c ∧ c ≤ m
theorem tk {n i : Nat} {h : Hm} {m : Int} (many : Int) (x : Bx h i m) (hm : m ≤ 1000000) (m0 : 0 < many) (m1 : many < 1073741824) :
    ∃ d h', callN Tk (n+1) "_law_take" [.ref i, .d (.int many)] h = .ok (.v (.d (.int d))) h' ∧ 0 ≤ d ∧ d < many ∧ Bx h' i (m + 1) ∧ h'.length = h.length := by
  obtain ⟨a, b, c, e, b0, b1, c0, c1⟩ := x
  obtain ⟨d, a', c', e1, d0, d1, c0', c1'⟩ := take_eval (n := n) e m0 m1 b0 b1 c0 (by omega)
  have hil : i < h.length := (List.getElem?_eq_some_iff.mp e).1
  exact ⟨d, _, e1, d0, d1, ⟨a', b, c', List.getElem?_set_self hil, b0, b1, c0', by omega⟩, by simp⟩
theorem tl {h h' : Hm} (e : h'.length = h.length) : h'.take h.length = h' := List.take_of_length_le (by omega)
def things : List D := [.non, .bl true, .bl false, .str (S ""), .str (S "gen"), .int 0, .int (-1), .int 1, .int 100000000000000000000000000000, .lst [], .lst [.int 1], .tup [], .tup [.int 1], .dicK [], .dicK [(.inr (S "a"), .int 1)], .lst [.str (S "a"), .lst [.int 1]], .tup [.str (S "a")]]
theorem thing_eval {n i : Nat} {h : Hm} {m : Int} (x : Bx h i m) (hm : m ≤ 999999) : ∃ d h', callN Tk (n+2) "_law_thing" [.ref i] h = .ok (.v (.d d)) h' ∧ d ∈ things ∧ Bx h' i (m + 1) ∧ h'.length = h.length := by
  obtain ⟨d, h', e, d0, d1, x', hl⟩ := tk (n := n) 17 x (by omega) (by decide) (by decide)
  obtain ⟨t, ht⟩ : ∃ t, things[d.toNat]? = some t := ⟨_, List.getElem?_eq_getElem (show d.toNat < 17 by omega)⟩
  refine ⟨t, h', ?_, List.mem_of_getElem? ht, x', hl⟩
  rw [run_is rfl]
  have ix : L2.ixN 17 d = some d.toNat := by simp [L2.ixN, d0, d1]
  have ht' : (things.map Val.d)[d.toNat]? = some (.d t) := by rw [List.getElem?_map, ht]; rfl
  unfold things at ht'
  simp only [List.map_cons, List.map_nil] at ht'
  simp [d__law_thing, b__law_thing, ↓bnd_of e, tl hl, ix, ht', ↓k_non, ↓k_bl, ↓k_int, ↓k_str, ↓k_var', ↓k_glob, ↓k_ari, ↓k_neg, ↓k_not, ↓k_and, ↓k_or, ↓k_cmp, ↓k_cmp2, ↓k_ife, ↓k_call, ↓k_new, ↓k_bif, ↓k_met, ↓k_sub, ↓k_sl, ↓k_tup, ↓k_lst, ↓k_dic, ↓k_dnew, ↓k_lc, ↓k_nil, ↓k_cons, ↓k_onone, ↓k_osome, ↓k_pnone, ↓k_psome, ↓k_ival, ↓k_irange, ↓k_gname, ↓k_gtup, ↓k_gsub, ↓k_gnil, ↓k_gcons, ↓k_asgF, ↓k_asgT, ↓k_expr, ↓k_sret, ↓k_retN, ↓k_pass, ↓k_brk, ↓k_cnt, ↓k_ite, ↓k_for, ↓k_fornil, ↓k_forcons, ↓k_snil, ↓k_scons, ↓k_ret, ↓k_set, ↓k_append, ↓k_join, ↓fz_v, ↓fz_lst, ↓fz_dicK, ↓plc_own, ↓ret_ap, runD, startS, flats, flat, bifD, ariD, leave, allD, Mi.small64, lineN, itemsV, truV, eqD, inD, cmpD, tyD, subTy, isiD, metD, metM, metTy, hasTy, subV, Mi.setItem, appendM, unTup, MTs.len, wipeS, okV, okVs, mkTup, walkW, rangeW, slV, pairsK, keyD, newT, putM, tr, cm]

theorem cell_eval {n k : Nat} {ns : List Int} {h : Hm} : ∃ z, callN Tk (n+1) "_law_cell" [.d (.scr ns), .d (.int k)] h = .ok (.v (.d (.int z))) h := by
  rw [run_is rfl]
  by_cases hk : (k : Int) < ns.length
  · have hk' : k < ns.length := by omega
    refine ⟨ns[k], ?_⟩
    have e : ns[k]? = some ns[k] := List.getElem?_eq_getElem hk'
    simp [d__law_cell, b__law_cell, hk', ↓k_non, ↓k_bl, ↓k_int, ↓k_str, ↓k_var', ↓k_glob, ↓k_ari, ↓k_neg, ↓k_not, ↓k_and, ↓k_or, ↓k_cmp, ↓k_cmp2, ↓k_ife, ↓k_call, ↓k_new, ↓k_bif, ↓k_met, ↓k_sub, ↓k_sl, ↓k_tup, ↓k_lst, ↓k_dic, ↓k_dnew, ↓k_lc, ↓k_nil, ↓k_cons, ↓k_onone, ↓k_osome, ↓k_pnone, ↓k_psome, ↓k_ival, ↓k_irange, ↓k_gname, ↓k_gtup, ↓k_gsub, ↓k_gnil, ↓k_gcons, ↓k_asgF, ↓k_asgT, ↓k_expr, ↓k_sret, ↓k_retN, ↓k_pass, ↓k_brk, ↓k_cnt, ↓k_ite, ↓k_for, ↓k_fornil, ↓k_forcons, ↓k_snil, ↓k_scons, ↓k_ret, ↓k_set, ↓k_append, ↓k_join, ↓fz_v, ↓fz_lst, ↓fz_dicK, ↓plc_own, ↓ret_ap, runD, startS, flats, flat, bifD, ariD, leave, allD, Mi.small64, lineN, itemsV, truV, eqD, inD, cmpD, tyD, subTy, isiD, metD, metM, metTy, hasTy, subV, Mi.setItem, appendM, unTup, MTs.len, wipeS, okV, okVs, mkTup, ixN, walkW, rangeW, slV, pairsK, keyD, newT, putM, tr, cm]
  · have hk' : ¬ k < ns.length := by omega
    refine ⟨6007 * k + 41, ?_⟩
    simp [d__law_cell, b__law_cell, hk', ↓k_non, ↓k_bl, ↓k_int, ↓k_str, ↓k_var', ↓k_glob, ↓k_ari, ↓k_neg, ↓k_not, ↓k_and, ↓k_or, ↓k_cmp, ↓k_cmp2, ↓k_ife, ↓k_call, ↓k_new, ↓k_bif, ↓k_met, ↓k_sub, ↓k_sl, ↓k_tup, ↓k_lst, ↓k_dic, ↓k_dnew, ↓k_lc, ↓k_nil, ↓k_cons, ↓k_onone, ↓k_osome, ↓k_pnone, ↓k_psome, ↓k_ival, ↓k_irange, ↓k_gname, ↓k_gtup, ↓k_gsub, ↓k_gnil, ↓k_gcons, ↓k_asgF, ↓k_asgT, ↓k_expr, ↓k_sret, ↓k_retN, ↓k_pass, ↓k_brk, ↓k_cnt, ↓k_ite, ↓k_for, ↓k_fornil, ↓k_forcons, ↓k_snil, ↓k_scons, ↓k_ret, ↓k_set, ↓k_append, ↓k_join, ↓fz_v, ↓fz_lst, ↓fz_dicK, ↓plc_own, ↓ret_ap, runD, startS, flats, flat, bifD, ariD, leave, allD, Mi.small64, lineN, itemsV, truV, eqD, inD, cmpD, tyD, subTy, isiD, metD, metM, metTy, hasTy, subV, Mi.setItem, appendM, unTup, MTs.len, wipeS, okV, okVs, mkTup, ixN, walkW, rangeW, slV, pairsK, keyD, newT, putM, tr, cm]
theorem number_eval {n i : Nat} {h : Hm} {m : Int} (x : Bx h i m) (hm : m ≤ 999990) : ∃ z h', callN Tk (n+2) "_law_number" [.ref i] h = .ok (.v (.d (.int z))) h' ∧ Bx h' i (m + 3) ∧ h'.length = h.length := by
  obtain ⟨way, h1, e1, d0, d1, x1, l1⟩ := tk (n := n) 4 x (by omega) (by decide) (by decide)
  rw [run_is rfl]
  by_cases w0 : way = 0
  · obtain ⟨d, h2, e2, d0, d1, x2, l2⟩ := tk (n := n) 5 x1 (by omega) (by decide) (by decide)
    obtain ⟨z, hz⟩ : ∃ z, ([999999999999999999999999999999, -999999999999999999999999999999, 0, 1, -1] : List Int)[d.toNat]? = some z := ⟨_, List.getElem?_eq_getElem (show d.toNat < 5 by omega)⟩
    refine ⟨z, h2, ?_, let ⟨a, b, c, g⟩ := x2; ⟨a, b, c, g.1, g.2.1, g.2.2.1, g.2.2.2.1, by omega⟩, by omega⟩
    have ix : L2.ixN 5 d = some d.toNat := by simp [L2.ixN, d0, d1]
    have hz' : (([999999999999999999999999999999, -999999999999999999999999999999, 0, 1, -1] : List Int).map fun i => Val.d (.int i))[d.toNat]? = some (.d (.int z)) := by rw [List.getElem?_map, hz]; rfl
    simp only [List.map_cons, List.map_nil] at hz'
    simp [d__law_number, b__law_number, ↓bnd_of e1, ↓bnd_of e2, w0, tl (l2.trans l1), ix, hz', ↓k_non, ↓k_bl, ↓k_int, ↓k_str, ↓k_var', ↓k_glob, ↓k_ari, ↓k_neg, ↓k_not, ↓k_and, ↓k_or, ↓k_cmp, ↓k_cmp2, ↓k_ife, ↓k_call, ↓k_new, ↓k_bif, ↓k_met, ↓k_sub, ↓k_sl, ↓k_tup, ↓k_lst, ↓k_dic, ↓k_dnew, ↓k_lc, ↓k_nil, ↓k_cons, ↓k_onone, ↓k_osome, ↓k_pnone, ↓k_psome, ↓k_ival, ↓k_irange, ↓k_gname, ↓k_gtup, ↓k_gsub, ↓k_gnil, ↓k_gcons, ↓k_asgF, ↓k_asgT, ↓k_expr, ↓k_sret, ↓k_retN, ↓k_pass, ↓k_brk, ↓k_cnt, ↓k_ite, ↓k_for, ↓k_fornil, ↓k_forcons, ↓k_snil, ↓k_scons, ↓k_ret, ↓k_set, ↓k_append, ↓k_join, ↓fz_v, ↓fz_lst, ↓fz_dicK, ↓plc_own, ↓ret_ap, runD, startS, flats, flat, bifD, ariD, leave, allD, Mi.small64, lineN, itemsV, truV, eqD, inD, cmpD, tyD, subTy, isiD, metD, metM, metTy, hasTy, subV, Mi.setItem, appendM, unTup, MTs.len, wipeS, okV, okVs, mkTup, walkW, rangeW, slV, pairsK, keyD, newT, putM, tr, cm]
  by_cases w1 : way = 1
  · obtain ⟨d, h2, e2, d0, d1, x2, l2⟩ := tk (n := n) 100000000 x1 (by omega) (by decide) (by decide)
    obtain ⟨d', h3, e3, d0', d1', x3, l3⟩ := tk (n := n) 100000000 x2 (by omega) (by decide) (by decide)
    refine ⟨d * 10000000000000000000000 + d', h3, ?_, let ⟨a, b, c, g⟩ := x3; ⟨a, b, c, g.1, g.2.1, g.2.2.1, g.2.2.2.1, by omega⟩, by omega⟩
    have s1 : -18446744073709551616 < d := by omega
    have s2 : d < 18446744073709551616 := by omega
    simp [d__law_number, b__law_number, ↓bnd_of e1, ↓bnd_of e2, ↓bnd_of e3, w1, tl (l3.trans (l2.trans l1)), s1, s2, ↓k_non, ↓k_bl, ↓k_int, ↓k_str, ↓k_var', ↓k_glob, ↓k_ari, ↓k_neg, ↓k_not, ↓k_and, ↓k_or, ↓k_cmp, ↓k_cmp2, ↓k_ife, ↓k_call, ↓k_new, ↓k_bif, ↓k_met, ↓k_sub, ↓k_sl, ↓k_tup, ↓k_lst, ↓k_dic, ↓k_dnew, ↓k_lc, ↓k_nil, ↓k_cons, ↓k_onone, ↓k_osome, ↓k_pnone, ↓k_psome, ↓k_ival, ↓k_irange, ↓k_gname, ↓k_gtup, ↓k_gsub, ↓k_gnil, ↓k_gcons, ↓k_asgF, ↓k_asgT, ↓k_expr, ↓k_sret, ↓k_retN, ↓k_pass, ↓k_brk, ↓k_cnt, ↓k_ite, ↓k_for, ↓k_fornil, ↓k_forcons, ↓k_snil, ↓k_scons, ↓k_ret, ↓k_set, ↓k_append, ↓k_join, ↓fz_v, ↓fz_lst, ↓fz_dicK, ↓plc_own, ↓ret_ap, runD, startS, flats, flat, bifD, ariD, leave, allD, Mi.small64, lineN, itemsV, truV, eqD, inD, cmpD, tyD, subTy, isiD, metD, metM, metTy, hasTy, subV, Mi.setItem, appendM, unTup, MTs.len, wipeS, okV, okVs, mkTup, ixN, walkW, rangeW, slV, pairsK, keyD, newT, putM, tr, cm]
  · obtain ⟨d, h2, e2, d0, d1, x2, l2⟩ := tk (n := n) 61 x1 (by omega) (by decide) (by decide)
    refine ⟨d - 30, h2, ?_, let ⟨a, b, c, g⟩ := x2; ⟨a, b, c, g.1, g.2.1, g.2.2.1, g.2.2.2.1, by omega⟩, by omega⟩
    simp [d__law_number, b__law_number, ↓bnd_of e1, ↓bnd_of e2, w0, w1, tl (l2.trans l1), ↓k_non, ↓k_bl, ↓k_int, ↓k_str, ↓k_var', ↓k_glob, ↓k_ari, ↓k_neg, ↓k_not, ↓k_and, ↓k_or, ↓k_cmp, ↓k_cmp2, ↓k_ife, ↓k_call, ↓k_new, ↓k_bif, ↓k_met, ↓k_sub, ↓k_sl, ↓k_tup, ↓k_lst, ↓k_dic, ↓k_dnew, ↓k_lc, ↓k_nil, ↓k_cons, ↓k_onone, ↓k_osome, ↓k_pnone, ↓k_psome, ↓k_ival, ↓k_irange, ↓k_gname, ↓k_gtup, ↓k_gsub, ↓k_gnil, ↓k_gcons, ↓k_asgF, ↓k_asgT, ↓k_expr, ↓k_sret, ↓k_retN, ↓k_pass, ↓k_brk, ↓k_cnt, ↓k_ite, ↓k_for, ↓k_fornil, ↓k_forcons, ↓k_snil, ↓k_scons, ↓k_ret, ↓k_set, ↓k_append, ↓k_join, ↓fz_v, ↓fz_lst, ↓fz_dicK, ↓plc_own, ↓ret_ap, runD, startS, flats, flat, bifD, ariD, leave, allD, Mi.small64, lineN, itemsV, truV, eqD, inD, cmpD, tyD, subTy, isiD, metD, metM, metTy, hasTy, subV, Mi.setItem, appendM, unTup, MTs.len, wipeS, okV, okVs, mkTup, ixN, walkW, rangeW, slV, pairsK, keyD, newT, putM, tr, cm]
theorem bounds_eval {n i : Nat} {h : Hm} {m z : Int} (x : Bx h i m) (hm : m ≤ 999990) : ∃ lo hi h', callN Tk (n+2) "_law_bounds" [.ref i, .d (.int z)] h = .ok (.v (.d (.tup [.int lo, .int hi]))) h' ∧ Bx h' i (m + 2) ∧ h'.length = h.length := by
  obtain ⟨d, h1, e1, d0, d1, x1, l1⟩ := tk (n := n) 6 x (by omega) (by decide) (by decide)
  obtain ⟨d', h2, e2, d0', d1', x2, l2⟩ := tk (n := n) 6 x1 (by omega) (by decide) (by decide)
  rw [run_is rfl]
  obtain ⟨a, ha⟩ : ∃ z, ([0, 1, -1, -30, 30, -100000000000000000000000000000] : List Int)[d.toNat]? = some z := ⟨_, List.getElem?_eq_getElem (show d.toNat < 6 by omega)⟩
  obtain ⟨b, hb⟩ : ∃ z, ([0, 1, 2, 60, -1, 100000000000000000000000000000] : List Int)[d'.toNat]? = some z := ⟨_, List.getElem?_eq_getElem (show d'.toNat < 6 by omega)⟩
  have ha' : (([0, 1, -1, -30, 30, -100000000000000000000000000000] : List Int).map fun i => Val.d (.int i))[d.toNat]? = some (.d (.int a)) := by rw [List.getElem?_map, ha]; rfl
  have hb' : (([0, 1, 2, 60, -1, 100000000000000000000000000000] : List Int).map fun i => Val.d (.int i))[d'.toNat]? = some (.d (.int b)) := by rw [List.getElem?_map, hb]; rfl
  simp only [List.map_cons, List.map_nil] at ha' hb'
  have ix : L2.ixN 6 d = some d.toNat := by simp [L2.ixN, d0, d1]
  have ix' : L2.ixN 6 d' = some d'.toNat := by simp [L2.ixN, d0', d1']
  have pf : ∃ lo hi, runD Tk (callN Tk (n + 1)) (newT Tk (n + 1)) d__law_bounds [.ref i, .d (.int z)] h = .ok (.v (.d (.tup [.int lo, .int hi]))) h2 := by
    refine ⟨(if -999999999999999999999999999999 < (if z + a < 999999999999999999999999999999 then z + a else 999999999999999999999999999999) then (if z + a < 999999999999999999999999999999 then z + a else 999999999999999999999999999999) else -999999999999999999999999999999), (if -999999999999999999999999999999 < (if z + a + b < 999999999999999999999999999999 then z + a + b else 999999999999999999999999999999) then (if z + a + b < 999999999999999999999999999999 then z + a + b else 999999999999999999999999999999) else -999999999999999999999999999999), ?_⟩
    simp [d__law_bounds, b__law_bounds, ↓bnd_of e1, ↓bnd_of e2, tl (l2.trans l1), ix, ix', ha', hb', ↓k_non, ↓k_bl, ↓k_int, ↓k_str, ↓k_var', ↓k_glob, ↓k_ari, ↓k_neg, ↓k_not, ↓k_and, ↓k_or, ↓k_cmp, ↓k_cmp2, ↓k_ife, ↓k_call, ↓k_new, ↓k_bif, ↓k_met, ↓k_sub, ↓k_sl, ↓k_tup, ↓k_lst, ↓k_dic, ↓k_dnew, ↓k_lc, ↓k_nil, ↓k_cons, ↓k_onone, ↓k_osome, ↓k_pnone, ↓k_psome, ↓k_ival, ↓k_irange, ↓k_gname, ↓k_gtup, ↓k_gsub, ↓k_gnil, ↓k_gcons, ↓k_asgF, ↓k_asgT, ↓k_expr, ↓k_sret, ↓k_retN, ↓k_pass, ↓k_brk, ↓k_cnt, ↓k_ite, ↓k_for, ↓k_fornil, ↓k_forcons, ↓k_snil, ↓k_scons, ↓k_ret, ↓k_set, ↓k_append, ↓k_join, ↓fz_v, ↓fz_lst, ↓fz_dicK, ↓plc_own, ↓ret_ap, runD, startS, flats, flat, bifD, ariD, leave, allD, Mi.small64, lineN, itemsV, truV, eqD, inD, cmpD, tyD, subTy, isiD, metD, metM, metTy, hasTy, subV, Mi.setItem, appendM, unTup, MTs.len, wipeS, okV, okVs, mkTup, walkW, rangeW, slV, pairsK, keyD, newT, putM, tr, cm]
  obtain ⟨lo, hi, pf⟩ := pf
  exact ⟨lo, hi, h2, pf, let ⟨a, b, c, g⟩ := x2; ⟨a, b, c, g.1, g.2.1, g.2.2.1, g.2.2.2.1, by omega⟩, by omega⟩
end K01

set_option Elab.async false
set_option linter.all false
set_option maxRecDepth 100000
set_option maxHeartbeats 8000000
/-! k01: the texts. -/
namespace K01
open PySem L2 Mi
/-- a text that can be told: short, its signs are signs -/
def TOk (n : Nat) (s : Str) : Prop := s.length ≤ n ∧ ∀ c ∈ s.cps.toList, c < 1114112
theorem len_list (s : Str) : s.cps.toList.length = s.length := Array.length_toList
theorem join_cs : ∀ cs : List Nat, (Txt.join (S "") (cs.map fun c => (⟨#[c]⟩ : Str))).cps.toList = cs := by
  intro cs
  show (Builtin.Str.glued (S "") (cs.map fun c => (⟨#[c]⟩ : Str))).cps.toList = cs
  rw [StrLaws.glued_eq_join]
  induction cs with
  | nil => rfl
  | cons c r ih =>
    cases r with
    | nil => rfl
    | cons d r =>
      show ((⟨#[c]⟩ : Str) ++ S "" ++ Str.join (S "") ((d :: r).map fun c => (⟨#[c]⟩ : Str))).cps.toList = _
      rw [Str.cps_append, Str.cps_append, Array.toList_append, Array.toList_append, ih]
      rfl
theorem sub_sign {h : Hm} {s : Str} {d : Int} (hl : s.length ≤ 16777216) (d0 : 0 ≤ d) (d1 : d < s.length) : ∃ c, c ∈ s.cps.toList ∧ subV h (.d (.str s)) (.int d) = some (.d (.str ⟨#[c]⟩)) := by
  have hk : d.toNat < s.cps.toList.length := by rw [len_list]; omega
  refine ⟨s.cps.toList[d.toNat], List.getElem_mem hk, ?_⟩
  have ix : L2.ixN s.cps.toList.length d = some d.toNat := by rw [len_list]; simp [L2.ixN, d0, d1]
  show (if s.length ≤ lineN then ((L2.ixN s.cps.toList.length d).bind fun j => s.cps.toList[j]?).map fun c => Val.d (.str ⟨#[c]⟩) else none) = _
  rw [if_pos (show s.length ≤ lineN from hl), ix]
  show ((s.cps.toList[d.toNat]?).map fun c => Val.d (.str ⟨#[c]⟩)) = _
  rw [List.getElem?_eq_getElem hk]
  rfl
theorem one_len {c : Nat} : (⟨#[c]⟩ : Str).length = 1 := rfl
theorem tok_app {m n : Nat} {a b : Str} (ha : TOk m a) (hb : TOk n b) : TOk (m + n) (a ++ b) := by
  refine ⟨by rw [Str.length_append]; have := ha.1; have := hb.1; omega, fun c hc => ?_⟩
  rw [Str.cps_append, Array.toList_append] at hc
  rcases List.mem_append.mp hc with hc | hc
  · exact ha.2 c hc
  · exact hb.2 c hc
theorem tok_cut {m : Nat} {a : Str} (ha : TOk m a) (lo hi : Option Int) : TOk m (L2.cutS a lo hi) :=
  ⟨Nat.le_trans (L2.cutS_length a lo hi) ha.1, fun c hc => ha.2 c (List.mem_of_mem_drop (List.mem_of_mem_take hc))⟩
theorem ones (ys : List Val) (h : ∀ y ∈ ys, ∃ c, c < 1114112 ∧ y = .d (.str ⟨#[c]⟩)) : ∃ cs : List Nat, ys = cs.map (fun c => Val.d (.str ⟨#[c]⟩)) ∧ ∀ c ∈ cs, c < 1114112 := by
  induction ys with
  | nil => exact ⟨[], rfl, fun c hc => absurd hc List.not_mem_nil⟩
  | cons y ys ih =>
    obtain ⟨c, hc, e⟩ := h y (List.mem_cons_self ..)
    obtain ⟨cs, e2, h2⟩ := ih fun z hz => h z (List.mem_cons_of_mem _ hz)
    refine ⟨c :: cs, by rw [e, e2]; rfl, fun z hz => ?_⟩
    rcases List.mem_cons.mp hz with rfl | hz
    · exact hc
    · exact h2 z hz
theorem allD_ones (cs : List Nat) : allD (cs.map fun c => Val.d (.str ⟨#[c]⟩)) = some (cs.map fun c => D.str ⟨#[c]⟩) := by
  have := allD_map (cs.map fun c => D.str ⟨#[c]⟩)
  rw [List.map_map] at this
  exact this
theorem strs_ones (cs : List Nat) : strsD (cs.map fun c => D.str ⟨#[c]⟩) = some (cs.map fun c => (⟨#[c]⟩ : Str)) := by
  induction cs with
  | nil => rfl
  | cons c cs ih =>
    show (strsD (cs.map fun c => D.str ⟨#[c]⟩)).map (_ :: ·) = _
    rw [ih]
    rfl
theorem sum_ones (cs : List Nat) : ((cs.map fun c => (⟨#[c]⟩ : Str)).map (·.length)).sum = cs.length := by
  induction cs with
  | nil => rfl
  | cons c cs ih =>
    rw [List.map_cons, List.map_cons, List.sum_cons, ih, List.length_cons, one_len]
    omega
theorem join_ones' {h : Hm} (cs : List Nat) (hc : cs.length ≤ 100) (hb : ∀ c ∈ cs, c < 1114112) : ∃ t, TOk cs.length t ∧ t.length = cs.length ∧ metD (.str (S "")) "join" [.lst (cs.map fun c => D.str ⟨#[c]⟩)] = some (.str t) := by
  have e := join_cs cs
  have l : (Txt.join (S "") (cs.map fun c => (⟨#[c]⟩ : Str))).length = cs.length := by rw [← len_list, e]
  refine ⟨Txt.join (S "") (cs.map fun c => (⟨#[c]⟩ : Str)), ⟨Nat.le_of_eq l, fun c hc => hb c (by rw [e] at hc; exact hc)⟩, l, ?_⟩
  show (match strsD (cs.map fun c => D.str ⟨#[c]⟩) with
    | some ys => if (ys.map Str.length).sum + ys.length * (S "").length ≤ lineN then some (D.str (Txt.join (S "") ys)) else none
    | none => none) = _
  rw [strs_ones]
  dsimp only
  rw [if_pos]
  rw [sum_ones, List.length_map, show (S "").length = 0 from rfl, Nat.mul_zero]
  show cs.length + 0 ≤ 16777216
  omega
theorem ltr_turn {n i B : Nat} {nw : String → List Val → Mo RV} {h : Hm} {m k : Int} {L : Str} {x2 x3 x4 x5 x6 x7 x8 : Option Val} (hL : L.length = 26) (hc : ∀ c ∈ L.cps.toList, c < 1114112) (x : Bx h i m) (hm : m ≤ 999990) :
    ∃ y h', lcK Tk (callN Tk (n+1)) nw B (.sub (.var 1) (.call "_law_take" (.cons (.var 0) (.cons (.int 26) .nil)))) (.name 9) .none [some (.ref i), some (.d (.str L)), x2, x3, x4, x5, x6, x7, x8, none] (.d (.int k)) h = .ok (some y) h' ∧ (∃ c, c < 1114112 ∧ y = .d (.str ⟨#[c]⟩)) ∧ Bx h' i (m + 1) ∧ h'.length = h.length := by
  obtain ⟨d, h1, e1, d0, d1, x1, l1⟩ := tk (n := n) 26 x (by omega) (by decide) (by decide)
  obtain ⟨c, c1, e2⟩ := sub_sign (h := h1) (s := L) (d := d) (by omega) d0 (by omega)
  refine ⟨.d (.str ⟨#[c]⟩), h1, ?_, ⟨c, hc c c1, rfl⟩, x1, l1⟩
  rw [lcK_eq]
  have e2' := e2
  simp [↓bnd_of e1, e2, ↓k_non, ↓k_bl, ↓k_int, ↓k_str, ↓k_var', ↓k_glob, ↓k_ari, ↓k_neg, ↓k_not, ↓k_and, ↓k_or, ↓k_cmp, ↓k_cmp2, ↓k_ife, ↓k_call, ↓k_new, ↓k_bif, ↓k_met, ↓k_sub, ↓k_sl, ↓k_tup, ↓k_lst, ↓k_dic, ↓k_dnew, ↓k_lc, ↓k_nil, ↓k_cons, ↓k_onone, ↓k_osome, ↓k_pnone, ↓k_psome, ↓k_ival, ↓k_irange, ↓k_gname, ↓k_gtup, ↓k_gsub, ↓k_gnil, ↓k_gcons, ↓k_asgF, ↓k_asgT, ↓k_expr, ↓k_sret, ↓k_retN, ↓k_pass, ↓k_brk, ↓k_cnt, ↓k_ite, ↓k_for, ↓k_fornil, ↓k_forcons, ↓k_snil, ↓k_scons, ↓k_ret, ↓k_set, ↓k_append, ↓k_join, ↓fz_v, ↓fz_lst, ↓fz_dicK, ↓plc_own, ↓ret_ap, runD, startS, flats, flat, bifD, ariD, leave, allD, Mi.small64, lineN, itemsV, truV, eqD, inD, cmpD, tyD, subTy, isiD, metD, metTy, hasTy, Mi.setItem, appendM, unTup, MTs.len, wipeS, okV, okVs, mkTup, walkW, rangeW, slV, pairsK, keyD, newT, putM, tr, cm]

theorem bx_le {h : Hm} {i : Nat} {m m' : Int} (x : Bx h i m) (l : m ≤ m') : Bx h i m' := let ⟨a, b, c, g⟩ := x; ⟨a, b, c, g.1, g.2.1, g.2.2.1, g.2.2.2.1, Int.le_trans g.2.2.2.2 l⟩
theorem letters_eval {n i B : Nat} {nw : String → List Val → Mo RV} {h : Hm} {m : Int} {L : Str} {x2 x3 x4 x5 x6 x7 x8 : Option Val} (k : Nat) (hk : k ≤ 100) (hL : L.length = 26) (hc : ∀ c ∈ L.cps.toList, c < 1114112) (x : Bx h i m) (hm : m ≤ 999000) :
    ∃ (cs : List Nat) (h' : Hm), lcR Tk (callN Tk (n+1)) nw B (.sub (.var 1) (.call "_law_take" (.cons (.var 0) (.cons (.int 26) .nil)))) (.name 9) .none [some (.ref i), some (.d (.str L)), x2, x3, x4, x5, x6, x7, x8, none] (.fix (rangeV 0 k)) h = .ok (cs.map fun c => Val.d (.str ⟨#[c]⟩)) h' ∧ cs.length = k ∧ (∀ c ∈ cs, c < 1114112) ∧ Bx h' i (m + k) ∧ h'.length = h.length := by
  have r := lcF_inv (step := lcK Tk (callN Tk (n+1)) nw B (.sub (.var 1) (.call "_law_take" (.cons (.var 0) (.cons (.int 26) .nil)))) (.name 9) .none [some (.ref i), some (.d (.str L)), x2, x3, x4, x5, x6, x7, x8, none])
    (P := fun y => ∃ c, c < 1114112 ∧ y = .d (.str ⟨#[c]⟩)) (I := fun j h' => Bx h' i (m + j) ∧ h'.length = h.length) (N := 100) (by show 100 ≤ 16777216; decide) (rangeV 0 k) [] h 0 (fun v hv h1 j hj ⟨y1, y2⟩ => by
      obtain ⟨q, _, e⟩ := List.mem_map.mp hv
      rw [← e]
      obtain ⟨y, h2, g1, g2, g3, g4⟩ := ltr_turn (n := n) (B := B) (nw := nw) (k := 0 + (q : Int)) (x2 := x2) (x3 := x3) (x4 := x4) (x5 := x5) (x6 := x6) (x7 := x7) (x8 := x8) hL hc y1 (by omega)
      exact ⟨y, h2, g1, g2, bx_le g3 (by omega), by omega⟩) (Nat.le_refl _) (by simp [rangeV]; exact hk) ⟨bx_le x (by omega), rfl⟩
  obtain ⟨ys, h', e, p, l, b1, b2⟩ := r
  obtain ⟨cs, e2, hb⟩ := ones ys p
  have lk : (rangeV 0 k).length = k := by simp [rangeV]
  refine ⟨cs, h', ?_, ?_, hb, bx_le b1 (by rw [lk]; omega), b2⟩
  · rw [← e2]
    exact e
  · rw [lk, e2, List.length_map] at l
    exact l
theorem text_eval {n i : Nat} {h : Hm} {m : Int} (x : Bx h i m) (hm : m ≤ 990000) : ∃ s h', callN Tk (n+2) "_law_text" [.ref i] h = .ok (.v (.d (.str s))) h' ∧ TOk 40 s ∧ Bx h' i (m + 30) ∧ h'.length = h.length := by
  obtain ⟨sp, h1, e1, a0, a1, x1, l1⟩ := tk (n := n) 2 x (by omega) (by decide) (by decide)
  obtain ⟨go, h2, e2, b0, b1, x2, l2⟩ := tk (n := n) 2 x1 (by omega) (by decide) (by decide)
  have hsg : (S " !\"#$&'()*+,-./0123456789:;<=>?@ABCDEFGHIJKLMNOPQRSTUVWXYZ[\\]^_`abcdefghijklmnopqrstuvwxyz{|}~\n").length = 95 := by decide +kernel
  have hsc : ∀ c ∈ (S " !\"#$&'()*+,-./0123456789:;<=>?@ABCDEFGHIJKLMNOPQRSTUVWXYZ[\\]^_`abcdefghijklmnopqrstuvwxyz{|}~\n").cps.toList, c < 1114112 := by decide +kernel
  have hL : (S "abcdefghijklmnopqrstuvwxyz").length = 26 := by decide +kernel
  have hLc : ∀ c ∈ (S "abcdefghijklmnopqrstuvwxyz").cps.toList, c < 1114112 := by decide +kernel
  rw [run_is rfl]
  simp only [d__law_text, b__law_text]
  generalize S " !\"#$&'()*+,-./0123456789:;<=>?@ABCDEFGHIJKLMNOPQRSTUVWXYZ[\\]^_`abcdefghijklmnopqrstuvwxyz{|}~\n" = sg at *
  generalize S "abcdefghijklmnopqrstuvwxyz" = L at *
  obtain ⟨si, h3, e3, c0, c1, x3, l3⟩ := tk (n := n) 95 x2 (by omega) (by decide) (by decide)
  obtain ⟨ni, h4, e4, d0, d1, x4, l4⟩ := tk (n := n) 9 x3 (by omega) (by decide) (by decide)
  obtain ⟨fo, h5, e5, f0, f1, x5, l5⟩ := tk (n := n) 4 x4 (by omega) (by decide) (by decide)
  obtain ⟨sc, sc1, sc2⟩ := sub_sign (h := h3) (s := sg) (d := si) (by omega) c0 (by omega)
  obtain ⟨sz, hz, z0, z1⟩ : ∃ sz : Int, ([6, 7, 1, ni] : List Int)[fo.toNat]? = some sz ∧ 0 ≤ sz ∧ sz ≤ 8 := by
    rcases (by omega : fo = 0 ∨ fo = 1 ∨ fo = 2 ∨ fo = 3) with rfl | rfl | rfl | rfl
    · exact ⟨6, rfl, by decide, by decide⟩
    · exact ⟨7, rfl, by decide, by decide⟩
    · exact ⟨1, rfl, by decide, by decide⟩
    · exact ⟨ni, rfl, d0, by omega⟩
  have hz' : (([6, 7, 1, ni] : List Int).map fun i => Val.d (.int i))[fo.toNat]? = some (.d (.int sz)) := by rw [List.getElem?_map, hz]; rfl
  simp only [List.map_cons, List.map_nil] at hz'
  have ix : L2.ixN 4 fo = some fo.toNat := by simp [L2.ixN, f0, f1]
  obtain ⟨cs, h6, e6, k6, bc, x6, l6⟩ := letters_eval (n := n) (B := h.length) (nw := newT Tk (n+1)) (x2 := some (.d (.str sg))) (x3 := some (.d (.bl (decide (sp = 0))))) (x4 := some (.d (.int go))) (x5 := some (.d (.str ⟨#[sc]⟩))) (x6 := some (.d (.int sz))) (x7 := none) (x8 := none) sz.toNat (by omega) hL hLc x5 (by omega)
  obtain ⟨t, t1, t2, t3⟩ := join_ones' (h := h6) cs (by omega) bc
  obtain ⟨at_, h7, e7, g0, g1, x7, l7⟩ := tk (n := n) ((t.length : Int) + 1) x6 (by omega) (by omega) (by omega)
  have r1 : -4611686018427387904 ≤ sz := by omega
  have r2 : sz < 4611686018427387904 := by omega
  have r3 : t.length ≤ 16777216 := by omega
  have rg : rangeW [.d (.int sz)] = some (.fix (rangeV 0 sz.toNat)) := by simp [rangeW, r1, r2]
  have lt : h7.length = h.length := by omega
  have dn : allD (cs.map fun c => Val.d (.str ⟨#[c]⟩)) = some (cs.map fun c => D.str ⟨#[c]⟩) := allD_ones cs
  have T1 : TOk sz.toNat t := k6 ▸ t1
  have xx : Bx h7 i (m + 30) := bx_le x7 (by omega)
  by_cases hs : sp = 0
  · have u1 := tok_cut T1 none (some at_)
    have u2 := tok_cut T1 (some (at_ + go)) none
    have us : TOk 1 (⟨#[sc]⟩ : Str) := ⟨Nat.le_refl _, fun c hc => by
      have : c = sc := by simpa using hc
      rw [this]; exact hsc sc sc1⟩
    have v1 := tok_app u1 us
    have v2 := tok_app v1 u2
    have w1 : (L2.cutS t none (some at_)).length + (⟨#[sc]⟩ : Str).length ≤ 16777216 := by have := u1.1; have := us.1; omega
    have w2 : (L2.cutS t none (some at_) ++ ⟨#[sc]⟩).length + (L2.cutS t (some (at_ + go)) none).length ≤ 16777216 := by have := v1.1; have := u2.1; omega
    refine ⟨L2.cutS t none (some at_) ++ ⟨#[sc]⟩ ++ L2.cutS t (some (at_ + go)) none, h7, ?_, ⟨by have := v2.1; omega, v2.2⟩, xx, lt⟩
    rw [decide_eq_true hs] at e6
    simp [↓bnd_of e1, ↓bnd_of e2, ↓bnd_of e3, ↓bnd_of e4, ↓bnd_of e5, ↓bnd_of e6, ↓bnd_of e7, tl lt, hs, ix, hz', ↓sc2, ↓rg, ↓dn, ↓t3, r3, w1, w2, hsg, ↓k_non, ↓k_bl, ↓k_int, ↓k_str, ↓k_var', ↓k_glob, ↓k_ari, ↓k_neg, ↓k_not, ↓k_and, ↓k_or, ↓k_cmp, ↓k_cmp2, ↓k_ife, ↓k_call, ↓k_new, ↓k_bif, ↓k_met, ↓k_sub, ↓k_sl, ↓k_tup, ↓k_lst, ↓k_dic, ↓k_dnew, ↓k_lc, ↓k_nil, ↓k_cons, ↓k_onone, ↓k_osome, ↓k_pnone, ↓k_psome, ↓k_ival, ↓k_irange, ↓k_gname, ↓k_gtup, ↓k_gsub, ↓k_gnil, ↓k_gcons, ↓k_asgF, ↓k_asgT, ↓k_expr, ↓k_sret, ↓k_retN, ↓k_pass, ↓k_brk, ↓k_cnt, ↓k_ite, ↓k_for, ↓k_fornil, ↓k_forcons, ↓k_snil, ↓k_scons, ↓k_ret, ↓k_set, ↓k_append, ↓k_join, ↓fz_v, ↓fz_lst, ↓fz_dicK, ↓plc_own, ↓ret_ap, runD, startS, flats, flat, bifD, ariD, leave, allD, Mi.small64, lineN, itemsV, truV, eqD, inD, cmpD, tyD, subTy, isiD, metTy, hasTy, subV, Mi.setItem, appendM, unTup, MTs.len, wipeS, okV, okVs, mkTup, walkW, slV, pairsK, keyD, newT, putM, tr, cm]
  · refine ⟨t, h7, ?_, ⟨by have := T1.1; omega, T1.2⟩, xx, lt⟩
    rw [decide_eq_false hs] at e6
    simp [↓bnd_of e1, ↓bnd_of e2, ↓bnd_of e3, ↓bnd_of e4, ↓bnd_of e5, ↓bnd_of e6, ↓bnd_of e7, tl lt, hs, ix, hz', ↓sc2, ↓rg, ↓dn, ↓t3, r3, hsg, ↓k_non, ↓k_bl, ↓k_int, ↓k_str, ↓k_var', ↓k_glob, ↓k_ari, ↓k_neg, ↓k_not, ↓k_and, ↓k_or, ↓k_cmp, ↓k_cmp2, ↓k_ife, ↓k_call, ↓k_new, ↓k_bif, ↓k_met, ↓k_sub, ↓k_sl, ↓k_tup, ↓k_lst, ↓k_dic, ↓k_dnew, ↓k_lc, ↓k_nil, ↓k_cons, ↓k_onone, ↓k_osome, ↓k_pnone, ↓k_psome, ↓k_ival, ↓k_irange, ↓k_gname, ↓k_gtup, ↓k_gsub, ↓k_gnil, ↓k_gcons, ↓k_asgF, ↓k_asgT, ↓k_expr, ↓k_sret, ↓k_retN, ↓k_pass, ↓k_brk, ↓k_cnt, ↓k_ite, ↓k_for, ↓k_fornil, ↓k_forcons, ↓k_snil, ↓k_scons, ↓k_ret, ↓k_set, ↓k_append, ↓k_join, ↓fz_v, ↓fz_lst, ↓fz_dicK, ↓plc_own, ↓ret_ap, runD, startS, flats, flat, bifD, ariD, leave, allD, Mi.small64, lineN, itemsV, truV, eqD, inD, cmpD, tyD, subTy, isiD, metTy, hasTy, subV, Mi.setItem, appendM, unTup, MTs.len, wipeS, okV, okVs, mkTup, walkW, slV, pairsK, keyD, newT, putM, tr, cm]
end K01

set_option Elab.async false
set_option linter.all false
set_option maxRecDepth 100000
set_option maxHeartbeats 8000000
/-! k01: wholes and names. -/
namespace K01
open PySem L2 Mi
theorem lcF_pure {step : Val → Mo (Option Val)} {h : Hm} (f : Val → Option Val) : ∀ (vs acc : List Val), (∀ v ∈ vs, step v h = .ok (f v) h) → acc.length + vs.length ≤ lineN → lcF step vs acc h = .ok (acc ++ vs.filterMap f) h
  | [], acc, _, _ => by rw [List.filterMap_nil, List.append_nil]; rfl
  | v :: vs, acc, st, hl => by
    rw [List.length_cons] at hl
    rw [lcF, bnd_of (st v (List.mem_cons_self ..))]
    cases e : f v with
    | none =>
      dsimp only
      rw [lcF_pure f vs acc (fun u hu => st u (List.mem_cons_of_mem _ hu)) (by omega), List.filterMap_cons_none e]
    | some x =>
      dsimp only
      rw [if_pos (by omega), lcF_pure f vs (acc ++ [x]) (fun u hu => st u (List.mem_cons_of_mem _ hu)) (by simp; omega), List.filterMap_cons_some e, List.append_assoc]
      rfl
theorem allD_mapf {α : Type} (f : α → D) : ∀ xs : List α, allD (xs.map fun c => Val.d (f c)) = some (xs.map f)
  | [] => rfl
  | x :: xs => by
    show (allD (xs.map fun c => Val.d (f c))).map (f x :: ·) = _
    rw [allD_mapf f xs]; rfl
theorem blsD_mapf {α : Type} (f : α → Bool) : ∀ xs : List α, blsD (xs.map fun c => D.bl (f c)) = some (xs.map f)
  | [] => rfl
  | x :: xs => by
    show (blsD (xs.map fun c => D.bl (f c))).map (f x :: ·) = _
    rw [blsD_mapf f xs]; rfl
theorem made_eval {n : Nat} {h : Hm} {s L : Str} {cs : List Nat} {g : Nat → Bool} (hl : s.length ≤ 100) (hcs : s.cps.toList = cs) (hg : ∀ c, decide (c ∈ L.cps.toList) = g c) : callN Tk (n+1) "made_of" [.d (.str s), .d (.str L)] h = .ok (.v (.d (.bl (cs.all g)))) h := by
  rw [run_is rfl]
  have e : lcR Tk (callN Tk n) (newT Tk n) h.length (.cmp .inx (.var 2) (.var 1)) (.name 2) .none [some (.d (.str s)), some (.d (.str L)), none] (.fix (signs s)) h = .ok (cs.map fun c => Val.d (.bl (g c))) h := by
    have q := lcF_pure (h := h) (step := lcK Tk (callN Tk n) (newT Tk n) h.length (.cmp .inx (.var 2) (.var 1)) (.name 2) .none [some (.d (.str s)), some (.d (.str L)), none])
      (fun v => match v with
        | .d (.str x) => some (.d (.bl (g (x.cps.toList.headD 0))))
        | _ => none) (signs s) [] (fun v hv => by
        obtain ⟨c, hc, rfl⟩ := List.mem_map.mp hv
        rw [lcK_eq]
        have hg' := hg c
        simp only [Array.mem_toList_iff] at hg'
        simp [hg', ↓k_non, ↓k_bl, ↓k_int, ↓k_str, ↓k_var', ↓k_glob, ↓k_ari, ↓k_neg, ↓k_not, ↓k_and, ↓k_or, ↓k_cmp, ↓k_cmp2, ↓k_ife, ↓k_call, ↓k_new, ↓k_bif, ↓k_met, ↓k_sub, ↓k_sl, ↓k_tup, ↓k_lst, ↓k_dic, ↓k_dnew, ↓k_lc, ↓k_nil, ↓k_cons, ↓k_onone, ↓k_osome, ↓k_pnone, ↓k_psome, ↓k_ival, ↓k_irange, ↓k_gname, ↓k_gtup, ↓k_gsub, ↓k_gnil, ↓k_gcons, ↓k_asgF, ↓k_asgT, ↓k_expr, ↓k_sret, ↓k_retN, ↓k_pass, ↓k_brk, ↓k_cnt, ↓k_ite, ↓k_for, ↓k_fornil, ↓k_forcons, ↓k_snil, ↓k_scons, ↓k_ret, ↓k_set, ↓k_append, ↓k_join, ↓fz_v, ↓fz_lst, ↓fz_dicK, ↓plc_own, ↓ret_ap, runD, startS, flats, flat, bifD, ariD, leave, allD, Mi.small64, lineN, itemsV, truV, eqD, inD, cmpD, tyD, subTy, isiD, metD, metTy, hasTy, subV, Mi.setItem, appendM, unTup, MTs.len, wipeS, okV, okVs, mkTup, ixN, walkW, rangeW, slV, pairsK, keyD, newT, putM, tr, cm]) (by rw [signs, List.length_map, len_list]; show 0 + s.length ≤ 16777216; omega)
    show lcF _ _ _ _ = _
    rw [q, List.nil_append, signs, List.filterMap_map, hcs]
    congr 1
    exact congrFun (List.filterMap_eq_map' (f := fun c => Val.d (.bl (g c)))) _
  have dn := allD_mapf (fun c => D.bl (g c)) cs
  have bn := blsD_mapf g cs
  have ba : bifD Tk "all" [.lst (cs.map fun c => D.bl (g c))] = some (.bl (cs.all g)) := by
    show (blsD (cs.map fun c => D.bl (g c))).map (fun bs => D.bl (bs.all id)) = _
    rw [bn, Option.map_some, List.all_map]
    rfl
  simp [d_made_of, b_made_of, ↓bnd_of e, ↓dn, bn, List.all_map, Function.comp_def, ↓k_non, ↓k_bl, ↓k_int, ↓k_str, ↓k_var', ↓k_glob, ↓k_ari, ↓k_neg, ↓k_not, ↓k_and, ↓k_or, ↓k_cmp, ↓k_cmp2, ↓k_ife, ↓k_call, ↓k_new, ↓k_bif, ↓k_met, ↓k_sub, ↓k_sl, ↓k_tup, ↓k_lst, ↓k_dic, ↓k_dnew, ↓k_lc, ↓k_nil, ↓k_cons, ↓k_onone, ↓k_osome, ↓k_pnone, ↓k_psome, ↓k_ival, ↓k_irange, ↓k_gname, ↓k_gtup, ↓k_gsub, ↓k_gnil, ↓k_gcons, ↓k_asgF, ↓k_asgT, ↓k_expr, ↓k_sret, ↓k_retN, ↓k_pass, ↓k_brk, ↓k_cnt, ↓k_ite, ↓k_for, ↓k_fornil, ↓k_forcons, ↓k_snil, ↓k_scons, ↓k_ret, ↓k_set, ↓k_append, ↓k_join, ↓fz_v, ↓fz_lst, ↓fz_dicK, ↓plc_own, ↓ret_ap, runD, startS, flats, flat, bifD, ariD, leave, allD, Mi.small64, lineN, itemsV, truV, eqD, inD, cmpD, tyD, subTy, isiD, metD, metTy, hasTy, subV, Mi.setItem, appendM, unTup, MTs.len, wipeS, okV, okVs, mkTup, ixN, walkW, rangeW, slV, pairsK, keyD, newT, putM, tr, cm]
theorem g_int : Tk.cst "int" = some (.ty "int") := rfl
theorem g_str : Tk.cst "str" = some (.ty "str") := rfl
theorem g_bool : Tk.cst "bool" = some (.ty "bool") := rfl
theorem g_let : Tk.cst "LETTERS" = some (.str (S "abcdefghijklmnopqrstuvwxyz")) := rfl
theorem g_most : Tk.cst "MOST_LETTERS" = some (.int 6) := rfl
/-- what is_name and what is due say of a text -/
def nm (s : Str) : Bool := decide (1 ≤ s.length) && decide (s.length ≤ 6) && s.cps.toList.all fun c => decide (c ∈ (S "abcdefghijklmnopqrstuvwxyz").cps.toList)
theorem name_str {n : Nat} {h : Hm} {s : Str} (hl : s.length ≤ 100) : callN Tk (n+2) "is_name" [.d (.str s)] h = .ok (.v (.d (.bl (nm s)))) h := by
  rw [run_is rfl]
  have e := made_eval (n := n) (h := h) (s := s) (L := S "abcdefghijklmnopqrstuvwxyz") hl rfl (fun c => rfl)
  unfold nm
  generalize (s.cps.toList.all fun c => decide (c ∈ (S "abcdefghijklmnopqrstuvwxyz").cps.toList)) = q at *
  have hl2 : s.length ≤ 16777216 := by omega
  by_cases h1 : 1 ≤ s.length
  · have h1' : (1 : Int) ≤ (s.length : Int) := by omega
    by_cases h2 : s.length ≤ 6
    · have h2' : (s.length : Int) ≤ 6 := by omega
      simp [d_is_name, b_is_name, ↓bnd_of e, g_int, g_str, g_bool, g_let, g_most, hl2, h1, h2, h1', h2', ↓k_non, ↓k_bl, ↓k_int, ↓k_str, ↓k_var', ↓k_glob, ↓k_ari, ↓k_neg, ↓k_not, ↓k_and, ↓k_or, ↓k_cmp, ↓k_cmp2, ↓k_ife, ↓k_call, ↓k_new, ↓k_bif, ↓k_met, ↓k_sub, ↓k_sl, ↓k_tup, ↓k_lst, ↓k_dic, ↓k_dnew, ↓k_lc, ↓k_nil, ↓k_cons, ↓k_onone, ↓k_osome, ↓k_pnone, ↓k_psome, ↓k_ival, ↓k_irange, ↓k_gname, ↓k_gtup, ↓k_gsub, ↓k_gnil, ↓k_gcons, ↓k_asgF, ↓k_asgT, ↓k_expr, ↓k_sret, ↓k_retN, ↓k_pass, ↓k_brk, ↓k_cnt, ↓k_ite, ↓k_for, ↓k_fornil, ↓k_forcons, ↓k_snil, ↓k_scons, ↓k_ret, ↓k_set, ↓k_append, ↓k_join, ↓fz_v, ↓fz_lst, ↓fz_dicK, ↓plc_own, ↓ret_ap, runD, startS, flats, flat, bifD, ariD, leave, allD, Mi.small64, lineN, itemsV, truV, eqD, inD, cmpD, tyD, subTy, isiD, metD, metTy, hasTy, subV, Mi.setItem, appendM, unTup, MTs.len, wipeS, okV, okVs, mkTup, ixN, walkW, rangeW, slV, pairsK, keyD, newT, putM, tr, cm]
    · have h2' : ¬ (s.length : Int) ≤ 6 := by omega
      simp [d_is_name, b_is_name, ↓bnd_of e, g_int, g_str, g_bool, g_let, g_most, hl2, h1, h2, h1', h2', ↓k_non, ↓k_bl, ↓k_int, ↓k_str, ↓k_var', ↓k_glob, ↓k_ari, ↓k_neg, ↓k_not, ↓k_and, ↓k_or, ↓k_cmp, ↓k_cmp2, ↓k_ife, ↓k_call, ↓k_new, ↓k_bif, ↓k_met, ↓k_sub, ↓k_sl, ↓k_tup, ↓k_lst, ↓k_dic, ↓k_dnew, ↓k_lc, ↓k_nil, ↓k_cons, ↓k_onone, ↓k_osome, ↓k_pnone, ↓k_psome, ↓k_ival, ↓k_irange, ↓k_gname, ↓k_gtup, ↓k_gsub, ↓k_gnil, ↓k_gcons, ↓k_asgF, ↓k_asgT, ↓k_expr, ↓k_sret, ↓k_retN, ↓k_pass, ↓k_brk, ↓k_cnt, ↓k_ite, ↓k_for, ↓k_fornil, ↓k_forcons, ↓k_snil, ↓k_scons, ↓k_ret, ↓k_set, ↓k_append, ↓k_join, ↓fz_v, ↓fz_lst, ↓fz_dicK, ↓plc_own, ↓ret_ap, runD, startS, flats, flat, bifD, ariD, leave, allD, Mi.small64, lineN, itemsV, truV, eqD, inD, cmpD, tyD, subTy, isiD, metD, metTy, hasTy, subV, Mi.setItem, appendM, unTup, MTs.len, wipeS, okV, okVs, mkTup, ixN, walkW, rangeW, slV, pairsK, keyD, newT, putM, tr, cm]
  · have h1' : ¬ (1 : Int) ≤ (s.length : Int) := by omega
    simp [d_is_name, b_is_name, ↓bnd_of e, g_int, g_str, g_bool, g_let, g_most, hl2, h1, h1', ↓k_non, ↓k_bl, ↓k_int, ↓k_str, ↓k_var', ↓k_glob, ↓k_ari, ↓k_neg, ↓k_not, ↓k_and, ↓k_or, ↓k_cmp, ↓k_cmp2, ↓k_ife, ↓k_call, ↓k_new, ↓k_bif, ↓k_met, ↓k_sub, ↓k_sl, ↓k_tup, ↓k_lst, ↓k_dic, ↓k_dnew, ↓k_lc, ↓k_nil, ↓k_cons, ↓k_onone, ↓k_osome, ↓k_pnone, ↓k_psome, ↓k_ival, ↓k_irange, ↓k_gname, ↓k_gtup, ↓k_gsub, ↓k_gnil, ↓k_gcons, ↓k_asgF, ↓k_asgT, ↓k_expr, ↓k_sret, ↓k_retN, ↓k_pass, ↓k_brk, ↓k_cnt, ↓k_ite, ↓k_for, ↓k_fornil, ↓k_forcons, ↓k_snil, ↓k_scons, ↓k_ret, ↓k_set, ↓k_append, ↓k_join, ↓fz_v, ↓fz_lst, ↓fz_dicK, ↓plc_own, ↓ret_ap, runD, startS, flats, flat, bifD, ariD, leave, allD, Mi.small64, lineN, itemsV, truV, eqD, inD, cmpD, tyD, subTy, isiD, metD, metTy, hasTy, subV, Mi.setItem, appendM, unTup, MTs.len, wipeS, okV, okVs, mkTup, ixN, walkW, rangeW, slV, pairsK, keyD, newT, putM, tr, cm]
theorem pys_ones : ∀ cs : List Nat, D.pys (cs.map fun c => D.str ⟨#[c]⟩) = some (cs.map fun c => PyData.str ⟨#[c]⟩)
  | [] => by simp [D.pys]
  | c :: cs => by
    rw [List.map_cons, D.pys, pys_ones cs, D.py]
    rfl
theorem eq_nil (cs : List Nat) (h : ∀ c ∈ cs, c < 1114112) : eqD (.lst (cs.map fun c => D.str ⟨#[c]⟩)) (.lst []) = some cs.isEmpty := by
  have e1 : D.py (.lst (cs.map fun c => D.str ⟨#[c]⟩)) = some (.list (cs.map fun c => PyData.str ⟨#[c]⟩)) := by
    rw [D.py, pys_ones]; rfl
  have e2 : D.py (.lst []) = some (.list []) := by rw [D.py, D.pys]; rfl
  have s1 : SeqAt.shaped (.list (cs.map fun c => PyData.str ⟨#[c]⟩)) = true := by
    clear e1 e2
    have c0 : PyData.canLayAll0 (cs.map fun c => PyData.str ⟨#[c]⟩) = true := by
      induction cs with
      | nil => rw [List.map_nil, PyData.canLayAll0]
      | cons c cs ih =>
        rw [List.map_cons, PyData.canLayAll0, ih (fun z hz => h z (List.mem_cons_of_mem _ hz)), PyData.canLay0]
        have := h c (List.mem_cons_self ..)
        simp [PyData.strOk, this]
    have d0 : PyData.depthAll (cs.map fun c => PyData.str ⟨#[c]⟩) = 0 := by
      clear c0
      induction cs with
      | nil => rw [List.map_nil, PyData.depthAll]
      | cons c cs ih => rw [List.map_cons, PyData.depthAll, ih (fun z hz => h z (List.mem_cons_of_mem _ hz)), PyData.depth]; rfl
    unfold SeqAt.shaped
    rw [PyData.canLay0, c0, PyData.depth, d0]
    rfl
  have s2 : SeqAt.shaped (.list []) = true := by decide +kernel
  show (match D.py (.lst (cs.map fun c => D.str ⟨#[c]⟩)), D.py (.lst []) with
    | some x, some y => if SeqAt.shaped x && SeqAt.shaped y then some (PyData.eqv x y) else none
    | _, _ => none) = _
  rw [e1, e2]
  dsimp only
  rw [s1, s2]
  cases cs with
  | nil => rw [List.map_nil, PyData.eqv, PyData.eqvAll]; rfl
  | cons c cs => rw [List.map_cons, PyData.eqv, PyData.eqvAll]; rfl
/-- what is due of a name -/
theorem due_eval {n : Nat} {h : Hm} {s : Str} (hl : s.length ≤ 100) (hb : ∀ c ∈ s.cps.toList, c < 1114112) : callN Tk (n+1) "_law_name_due" [.d (.str s)] h = .ok (.v (.d (.bl (nm s)))) h := by
  rw [run_is rfl]
  have hl2 : s.length ≤ 16777216 := by omega
  unfold nm
  obtain ⟨g, hg⟩ : ∃ g : Nat → Bool, ∀ c, decide (c ∈ (S "abcdefghijklmnopqrstuvwxyz").cps.toList) = g c := ⟨_, fun _ => rfl⟩
  obtain ⟨cs, hcs⟩ : ∃ cs, s.cps.toList = cs := ⟨_, rfl⟩
  have e : lcR Tk (callN Tk n) (newT Tk n) h.length (.var 1) (.name 1) (.some (.cmp .notin (.var 1) (.str (S "abcdefghijklmnopqrstuvwxyz")))) [some (.d (.str s)), none] (.fix (signs s)) h = .ok ((cs.filter fun c => !g c).map fun c => Val.d (.str ⟨#[c]⟩)) h := by
    have q := lcF_pure (h := h) (step := lcK Tk (callN Tk n) (newT Tk n) h.length (.var 1) (.name 1) (.some (.cmp .notin (.var 1) (.str (S "abcdefghijklmnopqrstuvwxyz")))) [some (.d (.str s)), none])
      (fun v => match v with
        | .d (.str x) => if g (x.cps.toList.headD 0) then none else some v
        | _ => none) (signs s) [] (fun v hv => by
        obtain ⟨c, hc, rfl⟩ := List.mem_map.mp hv
        rw [lcK_eq]
        have hg' := hg c
        simp only [Array.mem_toList_iff] at hg'
        cases hq : g c with
        | true =>
          rw [hq] at hg'
          simp [hg', hq, ↓k_non, ↓k_bl, ↓k_int, ↓k_str, ↓k_var', ↓k_glob, ↓k_ari, ↓k_neg, ↓k_not, ↓k_and, ↓k_or, ↓k_cmp, ↓k_cmp2, ↓k_ife, ↓k_call, ↓k_new, ↓k_bif, ↓k_met, ↓k_sub, ↓k_sl, ↓k_tup, ↓k_lst, ↓k_dic, ↓k_dnew, ↓k_lc, ↓k_nil, ↓k_cons, ↓k_onone, ↓k_osome, ↓k_pnone, ↓k_psome, ↓k_ival, ↓k_irange, ↓k_gname, ↓k_gtup, ↓k_gsub, ↓k_gnil, ↓k_gcons, ↓k_asgF, ↓k_asgT, ↓k_expr, ↓k_sret, ↓k_retN, ↓k_pass, ↓k_brk, ↓k_cnt, ↓k_ite, ↓k_for, ↓k_fornil, ↓k_forcons, ↓k_snil, ↓k_scons, ↓k_ret, ↓k_set, ↓k_append, ↓k_join, ↓fz_v, ↓fz_lst, ↓fz_dicK, ↓plc_own, ↓ret_ap, runD, startS, flats, flat, bifD, ariD, leave, allD, Mi.small64, lineN, itemsV, truV, eqD, inD, cmpD, tyD, subTy, isiD, metD, metTy, hasTy, subV, Mi.setItem, appendM, unTup, MTs.len, wipeS, okV, okVs, mkTup, ixN, walkW, rangeW, slV, pairsK, keyD, newT, putM, tr, cm]
        | false =>
          rw [hq] at hg'
          simp [hg', hq, ↓k_non, ↓k_bl, ↓k_int, ↓k_str, ↓k_var', ↓k_glob, ↓k_ari, ↓k_neg, ↓k_not, ↓k_and, ↓k_or, ↓k_cmp, ↓k_cmp2, ↓k_ife, ↓k_call, ↓k_new, ↓k_bif, ↓k_met, ↓k_sub, ↓k_sl, ↓k_tup, ↓k_lst, ↓k_dic, ↓k_dnew, ↓k_lc, ↓k_nil, ↓k_cons, ↓k_onone, ↓k_osome, ↓k_pnone, ↓k_psome, ↓k_ival, ↓k_irange, ↓k_gname, ↓k_gtup, ↓k_gsub, ↓k_gnil, ↓k_gcons, ↓k_asgF, ↓k_asgT, ↓k_expr, ↓k_sret, ↓k_retN, ↓k_pass, ↓k_brk, ↓k_cnt, ↓k_ite, ↓k_for, ↓k_fornil, ↓k_forcons, ↓k_snil, ↓k_scons, ↓k_ret, ↓k_set, ↓k_append, ↓k_join, ↓fz_v, ↓fz_lst, ↓fz_dicK, ↓plc_own, ↓ret_ap, runD, startS, flats, flat, bifD, ariD, leave, allD, Mi.small64, lineN, itemsV, truV, eqD, inD, cmpD, tyD, subTy, isiD, metD, metTy, hasTy, subV, Mi.setItem, appendM, unTup, MTs.len, wipeS, okV, okVs, mkTup, ixN, walkW, rangeW, slV, pairsK, keyD, newT, putM, tr, cm]) (by rw [signs, List.length_map, len_list]; show 0 + s.length ≤ 16777216; omega)
    show lcF _ _ _ _ = _
    rw [q, List.nil_append, signs, List.filterMap_map, hcs]
    congr 1
    clear q hcs
    induction cs with
    | nil => rfl
    | cons c cs ih =>
      cases hq : g c with
      | true =>
        rw [List.filterMap_cons_none (by simp [hq]), ih, List.filter_cons_of_neg (by simp [hq])]
      | false =>
        rw [List.filterMap_cons_some (b := Val.d (.str ⟨#[c]⟩)) (by simp [hq]), ih, List.filter_cons_of_pos (by simp [hq])]
        rfl
  have hb' : ∀ c ∈ cs, c < 1114112 := by rw [← hcs]; exact hb
  have hcl : cs.length = s.length := by rw [← hcs, len_list]
  rw [hcs]
  simp only [hg]
  have dn := allD_mapf (fun c => D.str ⟨#[c]⟩) (cs.filter fun c => !g c)
  have nl : (cs.filter fun c => !g c).isEmpty = cs.all g := by
    clear hcs hcl hb' dn e
    induction cs with
    | nil => rfl
    | cons c cs ih =>
      cases hq : g c with
      | true => rw [List.filter_cons_of_neg (by simp [hq]), ih, List.all_cons, hq, Bool.true_and]
      | false => rw [List.filter_cons_of_pos (by simp [hq]), List.all_cons, hq]; rfl
  have eq : eqD (.lst ((cs.filter fun c => !g c).map fun c => D.str ⟨#[c]⟩)) (.lst []) = some (cs.all g) := by
    rw [← nl]
    rw [eq_nil _ fun c hc => hb' c (List.mem_filter.mp hc).1]
  have hl0 : s = S "" ∨ 1 ≤ s.length := by
    rcases Nat.eq_zero_or_pos s.length with z | z
    · left
      obtain ⟨a⟩ := s
      have : a = #[] := Array.eq_empty_of_size_eq_zero z
      rw [this]; rfl
    · exact .inr z
  rcases hl0 with hs | h1
  · have z : s.length = 0 := by rw [hs]; rfl
    have zz : (decide (1 ≤ s.length) && decide (s.length ≤ 6) && cs.all g) = false := by rw [z]; rfl
    rw [zz]
    simp [d__law_name_due, b__law_name_due, g_int, g_str, hl2, hs, ↓k_non, ↓k_bl, ↓k_int, ↓k_str, ↓k_var', ↓k_glob, ↓k_ari, ↓k_neg, ↓k_not, ↓k_and, ↓k_or, ↓k_cmp, ↓k_cmp2, ↓k_ife, ↓k_call, ↓k_new, ↓k_bif, ↓k_met, ↓k_sub, ↓k_sl, ↓k_tup, ↓k_lst, ↓k_dic, ↓k_dnew, ↓k_lc, ↓k_nil, ↓k_cons, ↓k_onone, ↓k_osome, ↓k_pnone, ↓k_psome, ↓k_ival, ↓k_irange, ↓k_gname, ↓k_gtup, ↓k_gsub, ↓k_gnil, ↓k_gcons, ↓k_asgF, ↓k_asgT, ↓k_expr, ↓k_sret, ↓k_retN, ↓k_pass, ↓k_brk, ↓k_cnt, ↓k_ite, ↓k_for, ↓k_fornil, ↓k_forcons, ↓k_snil, ↓k_scons, ↓k_ret, ↓k_set, ↓k_append, ↓k_join, ↓fz_v, ↓fz_lst, ↓fz_dicK, ↓plc_own, ↓ret_ap, runD, startS, flats, flat, bifD, ariD, leave, allD, Mi.small64, lineN, itemsV, truV, eqD, inD, cmpD, tyD, subTy, isiD, metD, metTy, hasTy, subV, Mi.setItem, appendM, unTup, MTs.len, wipeS, okV, okVs, mkTup, ixN, walkW, rangeW, slV, pairsK, keyD, newT, putM, tr, cm]
  · have hs : ¬ s = S "" := fun z => by rw [z] at h1; exact absurd h1 (by decide)
    have ht : truV h (.d (.bl (decide (s = S "")))) = some false := by rw [decide_eq_false hs]; rfl
    by_cases h2 : s.length ≤ 6
    · have h2' : ¬ (6 : Int) < (s.length : Int) := by omega
      have zz : (decide (1 ≤ s.length) && decide (s.length ≤ 6) && cs.all g) = cs.all g := by rw [decide_eq_true h1, decide_eq_true h2]; rfl
      rw [zz]
      simp [d__law_name_due, b__law_name_due, ↓bnd_of e, ↓dn, ↓eq, g_int, g_str, hl2, hs, h2', ↓k_non, ↓k_bl, ↓k_int, ↓k_str, ↓k_var', ↓k_glob, ↓k_ari, ↓k_neg, ↓k_not, ↓k_and, ↓k_or, ↓k_cmp, ↓k_cmp2, ↓k_ife, ↓k_call, ↓k_new, ↓k_bif, ↓k_met, ↓k_sub, ↓k_sl, ↓k_tup, ↓k_lst, ↓k_dic, ↓k_dnew, ↓k_lc, ↓k_nil, ↓k_cons, ↓k_onone, ↓k_osome, ↓k_pnone, ↓k_psome, ↓k_ival, ↓k_irange, ↓k_gname, ↓k_gtup, ↓k_gsub, ↓k_gnil, ↓k_gcons, ↓k_asgF, ↓k_asgT, ↓k_expr, ↓k_sret, ↓k_retN, ↓k_pass, ↓k_brk, ↓k_cnt, ↓k_ite, ↓k_for, ↓k_fornil, ↓k_forcons, ↓k_snil, ↓k_scons, ↓k_ret, ↓k_set, ↓k_append, ↓k_join, ↓fz_v, ↓fz_lst, ↓fz_dicK, ↓plc_own, ↓ret_ap, runD, startS, flats, flat, bifD, ariD, leave, allD, Mi.small64, lineN, itemsV, truV, eqD, inD, cmpD, tyD, subTy, isiD, metD, metTy, hasTy, subV, Mi.setItem, appendM, unTup, MTs.len, wipeS, okV, okVs, mkTup, ixN, walkW, rangeW, slV, pairsK, keyD, newT, putM, tr, cm]
    · have h2' : (6 : Int) < (s.length : Int) := by omega
      have zz : (decide (1 ≤ s.length) && decide (s.length ≤ 6) && cs.all g) = false := by rw [decide_eq_false h2, Bool.and_false]; rfl
      rw [zz]
      simp [d__law_name_due, b__law_name_due, g_int, g_str, hl2, hs, h2', ↓k_non, ↓k_bl, ↓k_int, ↓k_str, ↓k_var', ↓k_glob, ↓k_ari, ↓k_neg, ↓k_not, ↓k_and, ↓k_or, ↓k_cmp, ↓k_cmp2, ↓k_ife, ↓k_call, ↓k_new, ↓k_bif, ↓k_met, ↓k_sub, ↓k_sl, ↓k_tup, ↓k_lst, ↓k_dic, ↓k_dnew, ↓k_lc, ↓k_nil, ↓k_cons, ↓k_onone, ↓k_osome, ↓k_pnone, ↓k_psome, ↓k_ival, ↓k_irange, ↓k_gname, ↓k_gtup, ↓k_gsub, ↓k_gnil, ↓k_gcons, ↓k_asgF, ↓k_asgT, ↓k_expr, ↓k_sret, ↓k_retN, ↓k_pass, ↓k_brk, ↓k_cnt, ↓k_ite, ↓k_for, ↓k_fornil, ↓k_forcons, ↓k_snil, ↓k_scons, ↓k_ret, ↓k_set, ↓k_append, ↓k_join, ↓fz_v, ↓fz_lst, ↓fz_dicK, ↓plc_own, ↓ret_ap, runD, startS, flats, flat, bifD, ariD, leave, allD, Mi.small64, lineN, itemsV, truV, eqD, inD, cmpD, tyD, subTy, isiD, metD, metTy, hasTy, subV, Mi.setItem, appendM, unTup, MTs.len, wipeS, okV, okVs, mkTup, ixN, walkW, rangeW, slV, pairsK, keyD, newT, putM, tr, cm]
end K01

set_option Elab.async false
set_option linter.all false
set_option maxRecDepth 100000
set_option maxHeartbeats 8000000
/-! k01: the law. -/
namespace K01
open PySem L2 Mi
def Good (x : D) : Prop := (∃ n, x = .int n) ∨ (∃ s, TOk 40 s ∧ x = .str s) ∨ x ∈ things ∨ x = .exc "NoNumber"
theorem whole_no {n : Nat} {h : Hm} {x : D} {lo hi : Int} (e1 : isiD Tk x (.ty "int") = some false) (e2 : isiD Tk x (.ty "bool") = some false) : callN Tk (n+1) "is_whole" [.d x, .d (.int lo), .d (.int hi)] h = .ok (.v (.d (.bl false))) h ∧ callN Tk (n+1) "_law_whole_due" [.d x, .d (.int lo), .d (.int hi)] h = .ok (.v (.d (.bl false))) h := by
  constructor
  · rw [run_is rfl]
    simp [d_is_whole, b_is_whole, ↓e1, ↓e2, g_int, g_bool, ↓k_non, ↓k_bl, ↓k_int, ↓k_str, ↓k_var', ↓k_glob, ↓k_ari, ↓k_neg, ↓k_not, ↓k_and, ↓k_or, ↓k_cmp, ↓k_cmp2, ↓k_ife, ↓k_call, ↓k_new, ↓k_bif, ↓k_met, ↓k_sub, ↓k_sl, ↓k_tup, ↓k_lst, ↓k_dic, ↓k_dnew, ↓k_lc, ↓k_nil, ↓k_cons, ↓k_onone, ↓k_osome, ↓k_pnone, ↓k_psome, ↓k_ival, ↓k_irange, ↓k_gname, ↓k_gtup, ↓k_gsub, ↓k_gnil, ↓k_gcons, ↓k_asgF, ↓k_asgT, ↓k_expr, ↓k_sret, ↓k_retN, ↓k_pass, ↓k_brk, ↓k_cnt, ↓k_ite, ↓k_for, ↓k_fornil, ↓k_forcons, ↓k_snil, ↓k_scons, ↓k_ret, ↓k_set, ↓k_append, ↓k_join, ↓fz_v, ↓fz_lst, ↓fz_dicK, ↓plc_own, ↓ret_ap, runD, startS, flats, flat, bifD, ariD, leave, allD, Mi.small64, lineN, itemsV, truV, eqD, inD, cmpD, tyD, subTy, isiD, metD, metTy, hasTy, subV, Mi.setItem, appendM, unTup, MTs.len, wipeS, okV, okVs, mkTup, ixN, walkW, rangeW, slV, pairsK, keyD, newT, putM, tr, cm]
  · rw [run_is rfl]
    simp [d__law_whole_due, b__law_whole_due, ↓e1, ↓e2, g_int, g_bool, ↓k_non, ↓k_bl, ↓k_int, ↓k_str, ↓k_var', ↓k_glob, ↓k_ari, ↓k_neg, ↓k_not, ↓k_and, ↓k_or, ↓k_cmp, ↓k_cmp2, ↓k_ife, ↓k_call, ↓k_new, ↓k_bif, ↓k_met, ↓k_sub, ↓k_sl, ↓k_tup, ↓k_lst, ↓k_dic, ↓k_dnew, ↓k_lc, ↓k_nil, ↓k_cons, ↓k_onone, ↓k_osome, ↓k_pnone, ↓k_psome, ↓k_ival, ↓k_irange, ↓k_gname, ↓k_gtup, ↓k_gsub, ↓k_gnil, ↓k_gcons, ↓k_asgF, ↓k_asgT, ↓k_expr, ↓k_sret, ↓k_retN, ↓k_pass, ↓k_brk, ↓k_cnt, ↓k_ite, ↓k_for, ↓k_fornil, ↓k_forcons, ↓k_snil, ↓k_scons, ↓k_ret, ↓k_set, ↓k_append, ↓k_join, ↓fz_v, ↓fz_lst, ↓fz_dicK, ↓plc_own, ↓ret_ap, runD, startS, flats, flat, bifD, ariD, leave, allD, Mi.small64, lineN, itemsV, truV, eqD, inD, cmpD, tyD, subTy, isiD, metD, metTy, hasTy, subV, Mi.setItem, appendM, unTup, MTs.len, wipeS, okV, okVs, mkTup, ixN, walkW, rangeW, slV, pairsK, keyD, newT, putM, tr, cm]
theorem whole_bl {n : Nat} {h : Hm} {x : Bool} {lo hi : Int} : callN Tk (n+1) "is_whole" [.d (.bl x), .d (.int lo), .d (.int hi)] h = .ok (.v (.d (.bl false))) h ∧ callN Tk (n+1) "_law_whole_due" [.d (.bl x), .d (.int lo), .d (.int hi)] h = .ok (.v (.d (.bl false))) h := by
  constructor
  · rw [run_is rfl]
    simp [d_is_whole, b_is_whole, g_int, g_bool, ↓k_non, ↓k_bl, ↓k_int, ↓k_str, ↓k_var', ↓k_glob, ↓k_ari, ↓k_neg, ↓k_not, ↓k_and, ↓k_or, ↓k_cmp, ↓k_cmp2, ↓k_ife, ↓k_call, ↓k_new, ↓k_bif, ↓k_met, ↓k_sub, ↓k_sl, ↓k_tup, ↓k_lst, ↓k_dic, ↓k_dnew, ↓k_lc, ↓k_nil, ↓k_cons, ↓k_onone, ↓k_osome, ↓k_pnone, ↓k_psome, ↓k_ival, ↓k_irange, ↓k_gname, ↓k_gtup, ↓k_gsub, ↓k_gnil, ↓k_gcons, ↓k_asgF, ↓k_asgT, ↓k_expr, ↓k_sret, ↓k_retN, ↓k_pass, ↓k_brk, ↓k_cnt, ↓k_ite, ↓k_for, ↓k_fornil, ↓k_forcons, ↓k_snil, ↓k_scons, ↓k_ret, ↓k_set, ↓k_append, ↓k_join, ↓fz_v, ↓fz_lst, ↓fz_dicK, ↓plc_own, ↓ret_ap, runD, startS, flats, flat, bifD, ariD, leave, allD, Mi.small64, lineN, itemsV, truV, eqD, inD, cmpD, tyD, subTy, isiD, metD, metTy, hasTy, subV, Mi.setItem, appendM, unTup, MTs.len, wipeS, okV, okVs, mkTup, ixN, walkW, rangeW, slV, pairsK, keyD, newT, putM, tr, cm]
  · rw [run_is rfl]
    simp [d__law_whole_due, b__law_whole_due, g_int, g_bool, ↓k_non, ↓k_bl, ↓k_int, ↓k_str, ↓k_var', ↓k_glob, ↓k_ari, ↓k_neg, ↓k_not, ↓k_and, ↓k_or, ↓k_cmp, ↓k_cmp2, ↓k_ife, ↓k_call, ↓k_new, ↓k_bif, ↓k_met, ↓k_sub, ↓k_sl, ↓k_tup, ↓k_lst, ↓k_dic, ↓k_dnew, ↓k_lc, ↓k_nil, ↓k_cons, ↓k_onone, ↓k_osome, ↓k_pnone, ↓k_psome, ↓k_ival, ↓k_irange, ↓k_gname, ↓k_gtup, ↓k_gsub, ↓k_gnil, ↓k_gcons, ↓k_asgF, ↓k_asgT, ↓k_expr, ↓k_sret, ↓k_retN, ↓k_pass, ↓k_brk, ↓k_cnt, ↓k_ite, ↓k_for, ↓k_fornil, ↓k_forcons, ↓k_snil, ↓k_scons, ↓k_ret, ↓k_set, ↓k_append, ↓k_join, ↓fz_v, ↓fz_lst, ↓fz_dicK, ↓plc_own, ↓ret_ap, runD, startS, flats, flat, bifD, ariD, leave, allD, Mi.small64, lineN, itemsV, truV, eqD, inD, cmpD, tyD, subTy, isiD, metD, metTy, hasTy, subV, Mi.setItem, appendM, unTup, MTs.len, wipeS, okV, okVs, mkTup, ixN, walkW, rangeW, slV, pairsK, keyD, newT, putM, tr, cm]
theorem whole_int {n : Nat} {h : Hm} {x lo hi : Int} : ∃ b, callN Tk (n+1) "is_whole" [.d (.int x), .d (.int lo), .d (.int hi)] h = .ok (.v (.d (.bl b))) h ∧ callN Tk (n+1) "_law_whole_due" [.d (.int x), .d (.int lo), .d (.int hi)] h = .ok (.v (.d (.bl b))) h := by
  refine ⟨decide (lo ≤ x) && decide (x ≤ hi), ?_, ?_⟩
  · rw [run_is rfl]
    by_cases h1 : lo ≤ x
    · simp [d_is_whole, b_is_whole, g_int, g_bool, h1, ↓k_non, ↓k_bl, ↓k_int, ↓k_str, ↓k_var', ↓k_glob, ↓k_ari, ↓k_neg, ↓k_not, ↓k_and, ↓k_or, ↓k_cmp, ↓k_cmp2, ↓k_ife, ↓k_call, ↓k_new, ↓k_bif, ↓k_met, ↓k_sub, ↓k_sl, ↓k_tup, ↓k_lst, ↓k_dic, ↓k_dnew, ↓k_lc, ↓k_nil, ↓k_cons, ↓k_onone, ↓k_osome, ↓k_pnone, ↓k_psome, ↓k_ival, ↓k_irange, ↓k_gname, ↓k_gtup, ↓k_gsub, ↓k_gnil, ↓k_gcons, ↓k_asgF, ↓k_asgT, ↓k_expr, ↓k_sret, ↓k_retN, ↓k_pass, ↓k_brk, ↓k_cnt, ↓k_ite, ↓k_for, ↓k_fornil, ↓k_forcons, ↓k_snil, ↓k_scons, ↓k_ret, ↓k_set, ↓k_append, ↓k_join, ↓fz_v, ↓fz_lst, ↓fz_dicK, ↓plc_own, ↓ret_ap, runD, startS, flats, flat, bifD, ariD, leave, allD, Mi.small64, lineN, itemsV, truV, eqD, inD, cmpD, tyD, subTy, isiD, metD, metTy, hasTy, subV, Mi.setItem, appendM, unTup, MTs.len, wipeS, okV, okVs, mkTup, ixN, walkW, rangeW, slV, pairsK, keyD, newT, putM, tr, cm]
    · simp [d_is_whole, b_is_whole, g_int, g_bool, h1, ↓k_non, ↓k_bl, ↓k_int, ↓k_str, ↓k_var', ↓k_glob, ↓k_ari, ↓k_neg, ↓k_not, ↓k_and, ↓k_or, ↓k_cmp, ↓k_cmp2, ↓k_ife, ↓k_call, ↓k_new, ↓k_bif, ↓k_met, ↓k_sub, ↓k_sl, ↓k_tup, ↓k_lst, ↓k_dic, ↓k_dnew, ↓k_lc, ↓k_nil, ↓k_cons, ↓k_onone, ↓k_osome, ↓k_pnone, ↓k_psome, ↓k_ival, ↓k_irange, ↓k_gname, ↓k_gtup, ↓k_gsub, ↓k_gnil, ↓k_gcons, ↓k_asgF, ↓k_asgT, ↓k_expr, ↓k_sret, ↓k_retN, ↓k_pass, ↓k_brk, ↓k_cnt, ↓k_ite, ↓k_for, ↓k_fornil, ↓k_forcons, ↓k_snil, ↓k_scons, ↓k_ret, ↓k_set, ↓k_append, ↓k_join, ↓fz_v, ↓fz_lst, ↓fz_dicK, ↓plc_own, ↓ret_ap, runD, startS, flats, flat, bifD, ariD, leave, allD, Mi.small64, lineN, itemsV, truV, eqD, inD, cmpD, tyD, subTy, isiD, metD, metTy, hasTy, subV, Mi.setItem, appendM, unTup, MTs.len, wipeS, okV, okVs, mkTup, ixN, walkW, rangeW, slV, pairsK, keyD, newT, putM, tr, cm]
  · rw [run_is rfl]
    by_cases h1 : lo ≤ x
    · simp [d__law_whole_due, b__law_whole_due, g_int, g_bool, h1, ↓k_non, ↓k_bl, ↓k_int, ↓k_str, ↓k_var', ↓k_glob, ↓k_ari, ↓k_neg, ↓k_not, ↓k_and, ↓k_or, ↓k_cmp, ↓k_cmp2, ↓k_ife, ↓k_call, ↓k_new, ↓k_bif, ↓k_met, ↓k_sub, ↓k_sl, ↓k_tup, ↓k_lst, ↓k_dic, ↓k_dnew, ↓k_lc, ↓k_nil, ↓k_cons, ↓k_onone, ↓k_osome, ↓k_pnone, ↓k_psome, ↓k_ival, ↓k_irange, ↓k_gname, ↓k_gtup, ↓k_gsub, ↓k_gnil, ↓k_gcons, ↓k_asgF, ↓k_asgT, ↓k_expr, ↓k_sret, ↓k_retN, ↓k_pass, ↓k_brk, ↓k_cnt, ↓k_ite, ↓k_for, ↓k_fornil, ↓k_forcons, ↓k_snil, ↓k_scons, ↓k_ret, ↓k_set, ↓k_append, ↓k_join, ↓fz_v, ↓fz_lst, ↓fz_dicK, ↓plc_own, ↓ret_ap, runD, startS, flats, flat, bifD, ariD, leave, allD, Mi.small64, lineN, itemsV, truV, eqD, inD, cmpD, tyD, subTy, isiD, metD, metTy, hasTy, subV, Mi.setItem, appendM, unTup, MTs.len, wipeS, okV, okVs, mkTup, ixN, walkW, rangeW, slV, pairsK, keyD, newT, putM, tr, cm]
    · simp [d__law_whole_due, b__law_whole_due, g_int, g_bool, h1, ↓k_non, ↓k_bl, ↓k_int, ↓k_str, ↓k_var', ↓k_glob, ↓k_ari, ↓k_neg, ↓k_not, ↓k_and, ↓k_or, ↓k_cmp, ↓k_cmp2, ↓k_ife, ↓k_call, ↓k_new, ↓k_bif, ↓k_met, ↓k_sub, ↓k_sl, ↓k_tup, ↓k_lst, ↓k_dic, ↓k_dnew, ↓k_lc, ↓k_nil, ↓k_cons, ↓k_onone, ↓k_osome, ↓k_pnone, ↓k_psome, ↓k_ival, ↓k_irange, ↓k_gname, ↓k_gtup, ↓k_gsub, ↓k_gnil, ↓k_gcons, ↓k_asgF, ↓k_asgT, ↓k_expr, ↓k_sret, ↓k_retN, ↓k_pass, ↓k_brk, ↓k_cnt, ↓k_ite, ↓k_for, ↓k_fornil, ↓k_forcons, ↓k_snil, ↓k_scons, ↓k_ret, ↓k_set, ↓k_append, ↓k_join, ↓fz_v, ↓fz_lst, ↓fz_dicK, ↓plc_own, ↓ret_ap, runD, startS, flats, flat, bifD, ariD, leave, allD, Mi.small64, lineN, itemsV, truV, eqD, inD, cmpD, tyD, subTy, isiD, metD, metTy, hasTy, subV, Mi.setItem, appendM, unTup, MTs.len, wipeS, okV, okVs, mkTup, ixN, walkW, rangeW, slV, pairsK, keyD, newT, putM, tr, cm]
theorem name_no {n : Nat} {h : Hm} {x : D} (e1 : isiD Tk x (.ty "str") = some false) : callN Tk (n+1) "is_name" [.d x] h = .ok (.v (.d (.bl false))) h ∧ callN Tk (n+1) "_law_name_due" [.d x] h = .ok (.v (.d (.bl false))) h := by
  constructor
  · rw [run_is rfl]
    simp [d_is_name, b_is_name, ↓e1, g_str, ↓k_non, ↓k_bl, ↓k_int, ↓k_str, ↓k_var', ↓k_glob, ↓k_ari, ↓k_neg, ↓k_not, ↓k_and, ↓k_or, ↓k_cmp, ↓k_cmp2, ↓k_ife, ↓k_call, ↓k_new, ↓k_bif, ↓k_met, ↓k_sub, ↓k_sl, ↓k_tup, ↓k_lst, ↓k_dic, ↓k_dnew, ↓k_lc, ↓k_nil, ↓k_cons, ↓k_onone, ↓k_osome, ↓k_pnone, ↓k_psome, ↓k_ival, ↓k_irange, ↓k_gname, ↓k_gtup, ↓k_gsub, ↓k_gnil, ↓k_gcons, ↓k_asgF, ↓k_asgT, ↓k_expr, ↓k_sret, ↓k_retN, ↓k_pass, ↓k_brk, ↓k_cnt, ↓k_ite, ↓k_for, ↓k_fornil, ↓k_forcons, ↓k_snil, ↓k_scons, ↓k_ret, ↓k_set, ↓k_append, ↓k_join, ↓fz_v, ↓fz_lst, ↓fz_dicK, ↓plc_own, ↓ret_ap, runD, startS, flats, flat, bifD, ariD, leave, allD, Mi.small64, lineN, itemsV, truV, eqD, inD, cmpD, tyD, subTy, isiD, metD, metTy, hasTy, subV, Mi.setItem, appendM, unTup, MTs.len, wipeS, okV, okVs, mkTup, ixN, walkW, rangeW, slV, pairsK, keyD, newT, putM, tr, cm]
  · rw [run_is rfl]
    simp [d__law_name_due, b__law_name_due, ↓e1, g_str, ↓k_non, ↓k_bl, ↓k_int, ↓k_str, ↓k_var', ↓k_glob, ↓k_ari, ↓k_neg, ↓k_not, ↓k_and, ↓k_or, ↓k_cmp, ↓k_cmp2, ↓k_ife, ↓k_call, ↓k_new, ↓k_bif, ↓k_met, ↓k_sub, ↓k_sl, ↓k_tup, ↓k_lst, ↓k_dic, ↓k_dnew, ↓k_lc, ↓k_nil, ↓k_cons, ↓k_onone, ↓k_osome, ↓k_pnone, ↓k_psome, ↓k_ival, ↓k_irange, ↓k_gname, ↓k_gtup, ↓k_gsub, ↓k_gnil, ↓k_gcons, ↓k_asgF, ↓k_asgT, ↓k_expr, ↓k_sret, ↓k_retN, ↓k_pass, ↓k_brk, ↓k_cnt, ↓k_ite, ↓k_for, ↓k_fornil, ↓k_forcons, ↓k_snil, ↓k_scons, ↓k_ret, ↓k_set, ↓k_append, ↓k_join, ↓fz_v, ↓fz_lst, ↓fz_dicK, ↓plc_own, ↓ret_ap, runD, startS, flats, flat, bifD, ariD, leave, allD, Mi.small64, lineN, itemsV, truV, eqD, inD, cmpD, tyD, subTy, isiD, metD, metTy, hasTy, subV, Mi.setItem, appendM, unTup, MTs.len, wipeS, okV, okVs, mkTup, ixN, walkW, rangeW, slV, pairsK, keyD, newT, putM, tr, cm]
theorem things_ok : ∀ x ∈ things, (∃ b, x = .bl b) ∨ (∃ s, TOk 40 s ∧ x = .str s) ∨ (∃ n, x = .int n) ∨ (isiD Tk x (.ty "int") = some false ∧ isiD Tk x (.ty "bool") = some false ∧ isiD Tk x (.ty "str") = some false) := by
  intro x hx
  simp only [things, List.mem_cons, List.not_mem_nil, or_false] at hx
  rcases hx with rfl | rfl | rfl | rfl | rfl | rfl | rfl | rfl | rfl | rfl | rfl | rfl | rfl | rfl | rfl | rfl | rfl
  · exact .inr (.inr (.inr ⟨rfl, rfl, rfl⟩))
  · exact .inl ⟨_, rfl⟩
  · exact .inl ⟨_, rfl⟩
  · exact .inr (.inl ⟨_, ⟨by decide +kernel, by decide +kernel⟩, rfl⟩)
  · exact .inr (.inl ⟨_, ⟨by decide +kernel, by decide +kernel⟩, rfl⟩)
  · exact .inr (.inr (.inl ⟨_, rfl⟩))
  · exact .inr (.inr (.inl ⟨_, rfl⟩))
  · exact .inr (.inr (.inl ⟨_, rfl⟩))
  · exact .inr (.inr (.inl ⟨_, rfl⟩))
  · exact .inr (.inr (.inr ⟨rfl, rfl, rfl⟩))
  · exact .inr (.inr (.inr ⟨rfl, rfl, rfl⟩))
  · exact .inr (.inr (.inr ⟨rfl, rfl, rfl⟩))
  · exact .inr (.inr (.inr ⟨rfl, rfl, rfl⟩))
  · exact .inr (.inr (.inr ⟨rfl, rfl, rfl⟩))
  · exact .inr (.inr (.inr ⟨rfl, rfl, rfl⟩))
  · exact .inr (.inr (.inr ⟨rfl, rfl, rfl⟩))
  · exact .inr (.inr (.inr ⟨rfl, rfl, rfl⟩))
theorem good_ok {x : D} (g : Good x) : (∃ b, x = .bl b) ∨ (∃ s, TOk 40 s ∧ x = .str s) ∨ (∃ n, x = .int n) ∨ (isiD Tk x (.ty "int") = some false ∧ isiD Tk x (.ty "bool") = some false ∧ isiD Tk x (.ty "str") = some false) := by
  rcases g with g | g | g | g
  · exact .inr (.inr (.inl g))
  · exact .inr (.inl g)
  · exact things_ok x g
  · rw [g]; exact .inr (.inr (.inr ⟨rfl, rfl, rfl⟩))
theorem whole_eq {n : Nat} {h : Hm} {x : D} (lo hi : Int) (g : Good x) : ∃ b, callN Tk (n+1) "is_whole" [.d x, .d (.int lo), .d (.int hi)] h = .ok (.v (.d (.bl b))) h ∧ callN Tk (n+1) "_law_whole_due" [.d x, .d (.int lo), .d (.int hi)] h = .ok (.v (.d (.bl b))) h := by
  rcases good_ok g with ⟨b, rfl⟩ | ⟨s, _, rfl⟩ | ⟨z, rfl⟩ | ⟨e1, e2, _⟩
  · exact ⟨false, whole_bl⟩
  · exact ⟨false, whole_no rfl rfl⟩
  · exact whole_int
  · exact ⟨false, whole_no e1 e2⟩
theorem name_eq {n : Nat} {h : Hm} {x : D} (g : Good x) : ∃ b, callN Tk (n+2) "is_name" [.d x] h = .ok (.v (.d (.bl b))) h ∧ callN Tk (n+2) "_law_name_due" [.d x] h = .ok (.v (.d (.bl b))) h := by
  rcases good_ok g with ⟨b, rfl⟩ | ⟨s, t, rfl⟩ | ⟨z, rfl⟩ | ⟨_, _, e3⟩
  · exact ⟨false, name_no rfl⟩
  · exact ⟨nm s, name_str (by have := t.1; omega), due_eval (by have := t.1; omega) t.2⟩
  · exact ⟨false, name_no rfl⟩
  · exact ⟨false, name_no e3⟩
def inB : MSs := (.cons (.ite (.cmp .ne (.bif "repr" (.cons (.call "is_whole" (.cons (.var 5) (.cons (.var 6) (.cons (.var 7) .nil)))) .nil)) (.bif "repr" (.cons (.call "_law_whole_due" (.cons (.var 5) (.cons (.var 6) (.cons (.var 7) .nil)))) .nil))) (.cons (.ret (.bl false)) .nil) .nil) .nil)
def midB : MSs := (.cons (.for (.tup (.cons (.name 6) (.cons (.name 7) .nil))) (.val (.var 4)) (.cons (.ite (.cmp .ne (.bif "repr" (.cons (.call "is_whole" (.cons (.var 5) (.cons (.var 6) (.cons (.var 7) .nil)))) .nil)) (.bif "repr" (.cons (.call "_law_whole_due" (.cons (.var 5) (.cons (.var 6) (.cons (.var 7) .nil)))) .nil))) (.cons (.ret (.bl false)) .nil) .nil) .nil)) (.cons (.ite (.cmp .ne (.bif "repr" (.cons (.call "is_name" (.cons (.var 5) .nil)) .nil)) (.bif "repr" (.cons (.call "_law_name_due" (.cons (.var 5) .nil)) .nil))) (.cons (.ret (.bl false)) .nil) .nil) .nil))
theorem inner {n B : Nat} {h : Hm} {x : D} {s0 s1 s2 s3 s4 a b : Option Val} (g : Good x) {vs : List Val} (hv : ∀ v ∈ vs, ∃ lo hi, v = .d (.tup [.int lo, .int hi])) :
    ∃ a' b', forR Tk (callN Tk (n+1)) (newT Tk (n+1)) B (.tup (.cons (.name 6) (.cons (.name 7) .nil))) inB [s0, s1, s2, s3, s4, some (.d x), a, b] (.fix vs) h = .ok (.nx, [s0, s1, s2, s3, s4, some (.d x), a', b']) h := by
  obtain ⟨σ', h', e, ⟨a', b', rfl⟩, rfl⟩ := forF_inv (step := forK Tk (callN Tk (n+1)) (newT Tk (n+1)) B (.tup (.cons (.name 6) (.cons (.name 7) .nil))) inB) (fun σ h' => (∃ a b, σ = [s0, s1, s2, s3, s4, some (.d x), a, b]) ∧ h' = h) vs [s0, s1, s2, s3, s4, some (.d x), a, b] h (fun v hv' σ h1 ⟨⟨a, b, e1⟩, e2⟩ => by
    subst e1 e2
    obtain ⟨lo, hi, rfl⟩ := hv v hv'
    obtain ⟨k, w1, w2⟩ := whole_eq (n := n) (h := h1) lo hi g
    refine ⟨_, _, ?_, ⟨some (.d (.int lo)), some (.d (.int hi)), rfl⟩, rfl⟩
    rw [forK_eq]
    simp [inB, ↓bnd_of w1, ↓bnd_of w2, ↓k_non, ↓k_bl, ↓k_int, ↓k_str, ↓k_var', ↓k_glob, ↓k_ari, ↓k_neg, ↓k_not, ↓k_and, ↓k_or, ↓k_cmp, ↓k_cmp2, ↓k_ife, ↓k_call, ↓k_new, ↓k_bif, ↓k_met, ↓k_sub, ↓k_sl, ↓k_tup, ↓k_lst, ↓k_dic, ↓k_dnew, ↓k_lc, ↓k_nil, ↓k_cons, ↓k_onone, ↓k_osome, ↓k_pnone, ↓k_psome, ↓k_ival, ↓k_irange, ↓k_gname, ↓k_gtup, ↓k_gsub, ↓k_gnil, ↓k_gcons, ↓k_asgF, ↓k_asgT, ↓k_expr, ↓k_sret, ↓k_retN, ↓k_pass, ↓k_brk, ↓k_cnt, ↓k_ite, ↓k_for, ↓k_fornil, ↓k_forcons, ↓k_snil, ↓k_scons, ↓k_ret, ↓k_set, ↓k_append, ↓k_join, ↓fz_v, ↓fz_lst, ↓fz_dicK, ↓plc_own, ↓ret_ap, runD, startS, flats, flat, bifD, ariD, leave, allD, Mi.small64, lineN, itemsV, truV, eqD, inD, cmpD, tyD, subTy, isiD, metD, metTy, hasTy, subV, Mi.setItem, appendM, unTup, MTs.len, wipeS, okV, okVs, mkTup, ixN, walkW, rangeW, slV, pairsK, keyD, newT, putM, tr, cm]) ⟨⟨a, b, rfl⟩, rfl⟩
  exact ⟨a', b', e⟩

theorem mid {n B : Nat} {h : Hm} {s0 s1 s2 s3 x5 a b : Option Val} {bs : List D} (hb : ∀ d ∈ bs, ∃ lo hi, d = .tup [.int lo, .int hi]) {vs : List Val} (hv : ∀ v ∈ vs, ∃ x, Good x ∧ v = .d x) :
    ∃ x5' a' b', forR Tk (callN Tk (n+2)) (newT Tk (n+2)) B (.name 5) midB [s0, s1, s2, s3, some (.d (.lst bs)), x5, a, b] (.fix vs) h = .ok (.nx, [s0, s1, s2, s3, some (.d (.lst bs)), x5', a', b']) h := by
  obtain ⟨σ', h', e, ⟨x5', a', b', rfl⟩, rfl⟩ := forF_inv (step := forK Tk (callN Tk (n+2)) (newT Tk (n+2)) B (.name 5) midB) (fun σ h' => (∃ x5 a b, σ = [s0, s1, s2, s3, some (.d (.lst bs)), x5, a, b]) ∧ h' = h) vs [s0, s1, s2, s3, some (.d (.lst bs)), x5, a, b] h (fun v hv' σ h1 ⟨⟨x5, a, b, e1⟩, e2⟩ => by
    subst e1 e2
    obtain ⟨x, g, rfl⟩ := hv v hv'
    obtain ⟨a', b', e⟩ := inner (n := n + 1) (B := B) (h := h1) (x := x) (s0 := s0) (s1 := s1) (s2 := s2) (s3 := s3) (s4 := some (.d (.lst bs))) (a := a) (b := b) g (vs := bs.map .d) (fun v hv => by
      obtain ⟨d, hd, rfl⟩ := List.mem_map.mp hv
      obtain ⟨lo, hi, rfl⟩ := hb d hd
      exact ⟨lo, hi, rfl⟩)
    obtain ⟨k, w1, w2⟩ := name_eq (n := n) (h := h1) g
    refine ⟨_, _, ?_, ⟨some (.d x), a', b', rfl⟩, rfl⟩
    rw [forK_eq]
    simp only [inB] at e
    simp [midB, ↓bnd_of e, ↓bnd_of w1, ↓bnd_of w2, ↓k_non, ↓k_bl, ↓k_int, ↓k_str, ↓k_var', ↓k_glob, ↓k_ari, ↓k_neg, ↓k_not, ↓k_and, ↓k_or, ↓k_cmp, ↓k_cmp2, ↓k_ife, ↓k_call, ↓k_new, ↓k_bif, ↓k_met, ↓k_sub, ↓k_sl, ↓k_tup, ↓k_lst, ↓k_dic, ↓k_dnew, ↓k_lc, ↓k_nil, ↓k_cons, ↓k_onone, ↓k_osome, ↓k_pnone, ↓k_psome, ↓k_ival, ↓k_irange, ↓k_gname, ↓k_gtup, ↓k_gsub, ↓k_gnil, ↓k_gcons, ↓k_asgF, ↓k_asgT, ↓k_expr, ↓k_sret, ↓k_retN, ↓k_pass, ↓k_brk, ↓k_cnt, ↓k_ite, ↓k_for, ↓k_snil, ↓k_scons, ↓k_ret, ↓k_set, ↓k_append, ↓k_join, ↓fz_v, ↓fz_lst, ↓fz_dicK, ↓plc_own, ↓ret_ap, runD, startS, flats, flat, bifD, ariD, leave, allD, Mi.small64, lineN, itemsV, truV, eqD, inD, cmpD, tyD, subTy, isiD, metD, metTy, hasTy, subV, Mi.setItem, appendM, unTup, MTs.len, wipeS, okV, okVs, mkTup, ixN, walkW, rangeW, slV, pairsK, keyD, newT, putM, tr, cm]) ⟨⟨x5, a, b, rfl⟩, rfl⟩
  exact ⟨x5', a', b', e⟩
def outB : MSs := (.cons (.asg (.name 2) true (.call "_law_box" (.cons (.call "_law_cell" (.cons (.var 0) (.cons (.var 1) .nil))) .nil))) (.cons (.asg (.name 3) false (.call "_law_number" (.cons (.var 2) .nil))) (.cons (.asg (.name 4) false (.lst (.cons (.call "_law_bounds" (.cons (.var 2) (.cons (.var 3) .nil))) (.cons (.tup (.cons (.int 0) (.cons (.int 1) .nil))) (.cons (.tup (.cons (.neg (.int 1)) (.cons (.int 4) .nil))) .nil))))) (.cons (.for (.name 5) (.val (.ari .mul (.lst (.cons (.var 3) (.cons (.call "_law_text" (.cons (.var 2) .nil)) (.cons (.call "_law_thing" (.cons (.var 2) .nil)) (.cons (.new "NoNumber" (.cons (.var 3) .nil)) .nil))))) (.int 2))) (.cons (.for (.tup (.cons (.name 6) (.cons (.name 7) .nil))) (.val (.var 4)) (.cons (.ite (.cmp .ne (.bif "repr" (.cons (.call "is_whole" (.cons (.var 5) (.cons (.var 6) (.cons (.var 7) .nil)))) .nil)) (.bif "repr" (.cons (.call "_law_whole_due" (.cons (.var 5) (.cons (.var 6) (.cons (.var 7) .nil)))) .nil))) (.cons (.ret (.bl false)) .nil) .nil) .nil)) (.cons (.ite (.cmp .ne (.bif "repr" (.cons (.call "is_name" (.cons (.var 5) .nil)) .nil)) (.bif "repr" (.cons (.call "_law_name_due" (.cons (.var 5) .nil)) .nil))) (.cons (.ret (.bl false)) .nil) .nil) .nil))) .nil))))
theorem outer {n B : Nat} {h : Hm} {ns : List Int} {x1 x2 x3 x4 x5 x6 x7 : Option Val} (k : Nat) (hn : 1 ≤ n) :
    ∃ x1' x2' x3' x4' x5' x6' x7' h', forK Tk (callN Tk (n+2)) (newT Tk (n+2)) B (.name 1) outB (.d (.int k)) [some (.d (.scr ns)), x1, x2, x3, x4, x5, x6, x7] h = .ok (.nx, [some (.d (.scr ns)), x1', x2', x3', x4', x5', x6', x7']) h' := by
  obtain ⟨c, ec⟩ := cell_eval (n := n + 1) (k := k) (ns := ns) (h := h)
  have eb := box_eval c (n + 1) h
  generalize hA : (if c - 1000000000000000000 > 0 then c - 1000000000000000000 else 0) = A at eb
  have b0 := Int.emod_nonneg c (show (2147483587 : Int) ≠ 0 by decide)
  have b1 := Int.emod_lt_of_pos c (show (0 : Int) < 2147483587 by decide)
  generalize c % 2147483587 = B' at eb b0 b1
  have x0 : Bx (h ++ [.lst [.d (.int A), .d (.int B'), .d (.int 0)]]) h.length 0 := ⟨A, B', 0, by simp, b0, by omega, by omega, by omega⟩
  obtain ⟨z, h1, e1, y1, l1⟩ := number_eval (n := n) x0 (by decide)
  obtain ⟨lo, hi, h2, e2, y2, l2⟩ := bounds_eval (n := n) (z := z) y1 (by decide)
  obtain ⟨s, h3, e3, t3, y3, l3⟩ := text_eval (n := n) y2 (by decide)
  obtain ⟨d, h4, e4, m4, y4, l4⟩ := thing_eval (n := n) y3 (by decide)
  obtain ⟨x5', a', b', e5⟩ := mid (n := n) (B := B) (h := h4) (s0 := some (.d (.scr ns))) (s1 := some (.d (.int k))) (s2 := some (.ref h.length)) (s3 := some (.d (.int z))) (x5 := x5) (a := x6) (b := x7) (bs := [.tup [.int lo, .int hi], .tup [.int 0, .int 1], .tup [.int (-1), .int 4]])
    (fun d hd => by
      simp only [List.mem_cons, List.not_mem_nil, or_false] at hd
      rcases hd with rfl | rfl | rfl <;> exact ⟨_, _, rfl⟩)
    (vs := [.d (.int z), .d (.str s), .d d, .d (.exc "NoNumber"), .d (.int z), .d (.str s), .d d, .d (.exc "NoNumber")]) (fun v hv => by
      simp only [List.mem_cons, List.not_mem_nil, or_false] at hv
      rcases hv with rfl | rfl | rfl | rfl | rfl | rfl | rfl | rfl
      · exact ⟨_, .inl ⟨_, rfl⟩, rfl⟩
      · exact ⟨_, .inr (.inl ⟨_, t3, rfl⟩), rfl⟩
      · exact ⟨_, .inr (.inr (.inl m4)), rfl⟩
      · exact ⟨_, .inr (.inr (.inr rfl)), rfl⟩
      · exact ⟨_, .inl ⟨_, rfl⟩, rfl⟩
      · exact ⟨_, .inr (.inl ⟨_, t3, rfl⟩), rfl⟩
      · exact ⟨_, .inr (.inr (.inl m4)), rfl⟩
      · exact ⟨_, .inr (.inr (.inr rfl)), rfl⟩)
  have hx : Tk.exc "NoNumber" = true := rfl
  have hn3 : 3 ≤ n + 2 := by omega
  have kn : ∀ {β : Type} (K : RV → Mo β) (v : Val) (h : Hm), ((newT Tk (n+2) "NoNumber" [v]).bnd K) h = K (.v (.d (.exc "NoNumber"))) h := fun K v h => k_newX hx hn3
  refine ⟨some (.d (.int k)), some (.ref h.length), some (.d (.int z)), some (.d (.lst [.tup [.int lo, .int hi], .tup [.int 0, .int 1], .tup [.int (-1), .int 4]])), x5', a', b', h4, ?_⟩
  rw [forK_eq]
  simp only [midB] at e5
  simp [outB, ↓bnd_of ec, ↓bnd_of eb, ↓bnd_of e1, ↓bnd_of e2, ↓bnd_of e3, ↓bnd_of e4, ↓bnd_of e5, ↓kn, ↓k_non, ↓k_bl, ↓k_int, ↓k_str, ↓k_var', ↓k_glob, ↓k_ari, ↓k_neg, ↓k_not, ↓k_and, ↓k_or, ↓k_cmp, ↓k_cmp2, ↓k_ife, ↓k_call, ↓k_new, ↓k_bif, ↓k_met, ↓k_sub, ↓k_sl, ↓k_tup, ↓k_lst, ↓k_dic, ↓k_dnew, ↓k_lc, ↓k_nil, ↓k_cons, ↓k_onone, ↓k_osome, ↓k_pnone, ↓k_psome, ↓k_ival, ↓k_irange, ↓k_gname, ↓k_gtup, ↓k_gsub, ↓k_gnil, ↓k_gcons, ↓k_asgF, ↓k_asgT, ↓k_expr, ↓k_sret, ↓k_retN, ↓k_pass, ↓k_brk, ↓k_cnt, ↓k_ite, ↓k_for, ↓k_snil, ↓k_scons, ↓k_ret, ↓k_set, ↓k_append, ↓k_join, ↓fz_v, ↓fz_lst, ↓fz_dicK, ↓plc_own, ↓ret_ap, runD, startS, flats, flat, bifD, ariD, leave, allD, Mi.small64, lineN, itemsV, truV, eqD, inD, cmpD, tyD, subTy, isiD, metD, metTy, hasTy, subV, Mi.setItem, appendM, unTup, MTs.len, wipeS, okV, okVs, mkTup, walkW, rangeW, slV, pairsK, keyD, newT, putM, tr, cm]
theorem main (ns : List Int) (h : ns.length ≤ 63) : ∃ h', callN Tk 30 "law" [.d (.scr ns)] [] = .ok (.v (.d (.bl true))) h' := by
  rw [run_is rfl]
  obtain ⟨σ', h', e, ⟨y1, y2, y3, y4, y5, y6, y7, rfl⟩⟩ := forF_inv (step := forK Tk (callN Tk 29) (newT Tk 29) 0 (.name 1) outB) (fun σ h' => ∃ x1 x2 x3 x4 x5 x6 x7, σ = [some (.d (.scr ns)), x1, x2, x3, x4, x5, x6, x7]) (rangeV 0 (if (if (20 : Int) < ns.length then 20 else (ns.length : Int)) > 2 then (if (20 : Int) < ns.length then 20 else (ns.length : Int)) else 2).toNat) [some (.d (.scr ns)), none, none, none, none, none, none, none] [] (fun v hv σ h1 ⟨x1, x2, x3, x4, x5, x6, x7, e1⟩ => by
    subst e1
    obtain ⟨k, _, rfl⟩ := List.mem_map.mp hv
    rw [Int.zero_add]
    obtain ⟨x1', x2', x3', x4', x5', x6', x7', h', e⟩ := outer (n := 27) (B := 0) (h := h1) (ns := ns) (x1 := x1) (x2 := x2) (x3 := x3) (x4 := x4) (x5 := x5) (x6 := x6) (x7 := x7) k (by decide)
    exact ⟨_, _, e, _, _, _, _, _, _, _, rfl⟩) ⟨_, _, _, _, _, _, _, rfl⟩
  have e' : forR Tk (callN Tk 29) (newT Tk 29) 0 (.name 1) outB [some (.d (.scr ns)), none, none, none, none, none, none, none] (.fix (rangeV 0 (if (if (20 : Int) < ns.length then 20 else (ns.length : Int)) > 2 then (if (20 : Int) < ns.length then 20 else (ns.length : Int)) else 2).toNat)) [] = .ok (.nx, [some (.d (.scr ns)), y1, y2, y3, y4, y5, y6, y7]) h' := e
  refine ⟨[], ?_⟩
  simp only [outB] at e'
  have rg : rangeW [.d (.int (if (if (20 : Int) < ns.length then 20 else (ns.length : Int)) > 2 then (if (20 : Int) < ns.length then 20 else (ns.length : Int)) else 2))] = some (.fix (rangeV 0 (if (if (20 : Int) < ns.length then 20 else (ns.length : Int)) > 2 then (if (20 : Int) < ns.length then 20 else (ns.length : Int)) else 2).toNat)) := by
    show (if _ then _ else _) = _
    rw [if_pos]
    split <;> (split <;> omega)
  simp only [gt_iff_lt] at rg e'
  simp [d_law, b_law, ↓bnd_of e', ↓rg, ↓k_non, ↓k_bl, ↓k_int, ↓k_str, ↓k_var', ↓k_glob, ↓k_ari, ↓k_neg, ↓k_not, ↓k_and, ↓k_or, ↓k_cmp, ↓k_cmp2, ↓k_ife, ↓k_call, ↓k_new, ↓k_bif, ↓k_met, ↓k_sub, ↓k_sl, ↓k_tup, ↓k_lst, ↓k_dic, ↓k_dnew, ↓k_lc, ↓k_nil, ↓k_cons, ↓k_onone, ↓k_osome, ↓k_pnone, ↓k_psome, ↓k_ival, ↓k_irange, ↓k_gname, ↓k_gtup, ↓k_gsub, ↓k_gnil, ↓k_gcons, ↓k_asgF, ↓k_asgT, ↓k_expr, ↓k_sret, ↓k_retN, ↓k_pass, ↓k_brk, ↓k_cnt, ↓k_ite, ↓k_for, ↓k_snil, ↓k_scons, ↓k_ret, ↓k_set, ↓k_append, ↓k_join, ↓fz_v, ↓fz_lst, ↓fz_dicK, ↓plc_own, ↓ret_ap, runD, startS, flats, flat, bifD, ariD, leave, allD, Mi.small64, lineN, itemsV, truV, eqD, inD, cmpD, tyD, subTy, isiD, metTy, hasTy, subV, Mi.setItem, appendM, unTup, MTs.len, wipeS, okV, okVs, mkTup, walkW, slV, pairsK, keyD, newT, putM, tr, cm]
end K01

set_option Elab.async false
set_option linter.all false
set_option maxRecDepth 100000
/-! k01: the head. -/
open PySem PySem.W PyProof.Rows
set_option maxRecDepth 100000 in
set_option maxHeartbeats 0 in
theorem PySem.Challenge.cw_bookplaces_k01_wholes_and_names_holds : PySem.Challenge.rw_bookplaces_k01_wholes_and_names.Holds := by
  w_on; o_law; k_head; (case hw => w_witness2)
  k_fill
  refine Mi.law_walk (l := PySem.Challenge.rw_bookplaces_k01_wholes_and_names) (n := 63) (k := 30) (x := "script") rfl (by decide) rfl ⟨rfl, by decide, by decide⟩ (fun w h Y => PySem.W.kIn_of Y) ?F
  case F =>
    intro w mg fa h KX G hmg
    refine' K01.all_mk KX G hmg ?a_is_whole ?l_is_whole ?c_is_whole ?k_is_whole ?a_made_of ?l_made_of ?c_made_of ?k_made_of ?a_is_name ?l_is_name ?c_is_name ?k_is_name ?a__law_cell ?l__law_cell ?c__law_cell ?k__law_cell ?a__law_box ?l__law_box ?c__law_box ?k__law_box ?a__law_take ?l__law_take ?c__law_take ?k__law_take ?a__law_thing ?l__law_thing ?c__law_thing ?k__law_thing ?a__law_number ?l__law_number ?c__law_number ?k__law_number ?a__law_bounds ?l__law_bounds ?c__law_bounds ?k__law_bounds ?a__law_text ?l__law_text ?c__law_text ?k__law_text ?a__law_whole_due ?l__law_whole_due ?c__law_whole_due ?k__law_whole_due ?a__law_name_due ?l__law_name_due ?c__law_name_due ?k__law_name_due ?a_law ?l_law ?c_law ?k_law ?z_len ?z_max ?z_min ?z_all ?z_any ?z_isinstance ?z_repr ?z_range ?z_int ?z_str ?z_bool ?z_ValueError ?g_L ?g_M ?aC ?aB ?lC ?rC ?sa ?exC ?tyC ?kC ?iC ?tI ?lI ?cI ?kI ?rdB ?gaB ?fB ?lG ?cG ?kG ?no ?vV ?e1 ?e2 ?e3 ?e4 ?e5 ?e6 ?e7 ?i_int ?i_bool ?i_str K01.main
    (case a_is_whole => k_is); (case l_is_whole => k_is); (case c_is_whole => k_is); (case k_is_whole => k_is)
    (case a_made_of => k_is); (case l_made_of => k_is); (case c_made_of => k_is); (case k_made_of => k_is)
    (case a_is_name => k_is); (case l_is_name => k_is); (case c_is_name => k_is); (case k_is_name => k_is)
    (case a__law_cell => k_is); (case l__law_cell => k_is); (case c__law_cell => k_is); (case k__law_cell => k_is)
    (case a__law_box => k_is); (case l__law_box => k_is); (case c__law_box => k_is); (case k__law_box => k_is)
    (case a__law_take => k_is); (case l__law_take => k_is); (case c__law_take => k_is); (case k__law_take => k_is)
    (case a__law_thing => k_is); (case l__law_thing => k_is); (case c__law_thing => k_is); (case k__law_thing => k_is)
    (case a__law_number => k_is); (case l__law_number => k_is); (case c__law_number => k_is); (case k__law_number => k_is)
    (case a__law_bounds => k_is); (case l__law_bounds => k_is); (case c__law_bounds => k_is); (case k__law_bounds => k_is)
    (case a__law_text => k_is); (case l__law_text => k_is); (case c__law_text => k_is); (case k__law_text => k_is)
    (case a__law_whole_due => k_is); (case l__law_whole_due => k_is); (case c__law_whole_due => k_is); (case k__law_whole_due => k_is)
    (case a__law_name_due => k_is); (case l__law_name_due => k_is); (case c__law_name_due => k_is); (case k__law_name_due => k_is)
    (case a_law => k_is); (case l_law => k_is); (case c_law => k_is); (case k_law => k_is)
    (case z_len => k_is); (case z_max => k_is); (case z_min => k_is); (case z_all => k_is)
    (case z_any => k_is); (case z_isinstance => k_is); (case z_repr => k_is); (case z_range => k_is)
    (case z_int => k_is); (case z_str => k_is); (case z_bool => k_is); (case z_ValueError => k_is)
    (case g_L => k_is); (case g_M => k_is); (case aC => k_is); (case aB => k_is)
    (case lC => k_is); (case rC => rfl); (case sa => k_is); (case exC => k_is)
    (case tyC => k_is); (case kC => k_is); (case iC => k_is); (case tI => k_is)
    (case lI => k_is); (case cI => k_is); (case kI => k_is); (case rdB => k_is)
    (case gaB => k_is); (case fB => k_is); (case lG => k_is); (case cG => k_is)
    (case kG => k_is); (case no => k_is); (case vV => k_is); (case e1 => k_is)
    (case e2 => k_is); (case e3 => k_is); (case e4 => k_is); (case e5 => k_is)
    (case e6 => k_is); (case e7 => k_is); (case i_int => k_is); (case i_bool => k_is)
    (case i_str => k_is)
#print axioms PySem.Challenge.cw_bookplaces_k01_wholes_and_names_holds

