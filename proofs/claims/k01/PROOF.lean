import PyProof.Rows.All
import Wide.All
import OpenK.AllK
import Wide.FinOn
import HandS.ForMost
import HandS.ForExc
import HandS.Wide
import HandS.Flow
import HandS.Walk
import HandS.IsInst
import HandS.ExcInit
import HandS.ExcField
import HandS.ExcIs
import HandS.Defaults
import HandS.Codes
import HandS.CallSlots
import HandS.TryOnly
import HandS.Evl
import HandS.Head0
import HandS.Head1
import HandS.Head2
import HandS.HeadEnd
import HandS.HeadHook1
import HandS.HeadHook2
import HandS.HeadHook3
import HandS.HeadHook4
import HandS.HeadWalk
import PySem.Challenge.RW_keyreel_k01_signs_and_checks
set_option Elab.async false
set_option linter.all false
set_option maxRecDepth 100000
set_option maxHeartbeats 2000000
namespace L2
open PySem PySem.Spec PyProof.Rows
/-! ### enumerate(text) -/
def Ites (x : Str) : It := ⟨fun i _ => i < x.cps.size, fun i H v H' => ∃ T c, v = .ref T ∧ H T = none ∧ H' = upd H T (.tup [.int (i : Nat), .str ⟨#[c]⟩]) ∧ x.cps[i]? = some c, fun i _ => i = x.cps.size⟩
theorem turn_enumS {P : Program} {w : World} {K : PySem.W.Frag} {elts : List Expr} {kk : Nat} {tpos : Pos} (x : Str) (t : Tok) (ty : String) (hty : ty = "str_ascii_iterator" ∨ ty = "str_iterator") (e it : Addr) :
    Turn P w K (.Tuple elts kk tpos) (Ites x) [e, it] e (fun i h => (∃ old, IsEnum h e it ((i : Nat) : Int) old) ∧ h.IsStrIter it ty x t i ∧ e ≠ it) where
  mem := by simp
  obj := fun i h st b hb => by
    obtain ⟨⟨old, he⟩, ⟨o, ho, hc, hd⟩, _⟩ := st
    have e' : b = e ∨ b = it := by simpa using hb
    rcases e' with z | z
    · rw [z]; exact ⟨_, he, fun v q => nomatch q⟩
    · rw [z]; exact ⟨o, ho, fun v q => by rw [hd] at q; cases q⟩
  keep := fun i h h' st k => by
    obtain ⟨⟨old, he⟩, ⟨o, ho, r⟩, hne⟩ := st
    exact ⟨⟨old, k e (by simp) _ he⟩, ⟨o, k it (by simp) o ho, r⟩, hne⟩
  item := by
    intro X hP hw hK hc i pins s σ H E I hf st hg
    subst hP hw hK
    obtain ⟨⟨old, he⟩, hit, hne⟩ := st
    have D : Draws X.prog X.w X.A.in1 it [it] x.cps.size (fun i v => ∃ c u, x.cps[i]? = some c ∧ v = .str ⟨#[c]⟩ u) (fun i h => h.IsStrIter it ty x t i) := by
      rcases hty with e | e
      · rw [e]; exact Draws.strAscii (show X.A.in1.handled = none from I.ok.hd hc) it x t
      · rw [e]; exact Draws.strWide (show X.A.in1.handled = none from I.ok.hd hc) it x t
    have hel : e < s.heap.objs.size := Heap.lt_size he
    have hil : it < s.heap.objs.size := by obtain ⟨_, q, _⟩ := hit; exact Heap.lt_size q
    refine wpAny_pyNext_enum_itemD D he hit hg hne (by simpa using hne) fun v h' tk hv ho hit' hT hsz hk => ?_
    obtain ⟨c, u, hcx, rfl⟩ := hv
    refine ⟨_, rfl, wpAny_letOwnedTupleGo_enum (s := { s with heap := h', toks := tk + 1 }) ho fun h'' he' sb => ?_⟩
    have hT2 : h''.get? s.heap.objs.size = some { cls := .type "tuple", data := .seq #[.int i tk, .str ⟨#[c]⟩ u] } := (sb.2 _ (Nat.ne_of_gt hel)).trans hT
    have new : ObjOk X.prog X.w (upd H s.heap.objs.size (.tup [.int (i : Nat), .str ⟨#[c]⟩])) h'' s.heap.objs.size (.tup [.int (i : Nat), .str ⟨#[c]⟩]) :=
      ⟨by show 2 ≤ sizeLine; decide, [.int i tk, .str ⟨#[c]⟩ u], .cons ⟨_, rfl⟩ (.cons ⟨_, rfl⟩ .nil), ⟨_, hT2, rfl, _, rfl⟩⟩
    have I1 : Inv X pins σ (upd H s.heap.objs.size (.tup [.int (i : Nat), .str ⟨#[c]⟩])) { s with heap := h'', toks := tk + 1 } :=
      I.turnedNew (ch := [e, it]) (fun b ob hb q => (sb.2 b (fun z => hb (by simp [z]))).trans (hk b ob (fun z => hb (by simp [z])) (fun z => hb (by simp [z])) q)) hf (Nat.le_refl _) new
    refine ⟨.ref s.heap.objs.size, _, I1, rfl, ⟨_, c, rfl, I.hok.fresh (Nat.le_refl _), rfl, hcx⟩, ⟨⟨.str ⟨#[c]⟩ u, ?_⟩, ?_, hne⟩, fun b hb => ?_⟩
    · have e1 : ((i + 1 : Nat) : Int) = (i : Int) + 1 := by omega
      rw [e1]; exact he'
    · obtain ⟨o, q, r⟩ := hit'
      exact ⟨o, (sb.2 it (Ne.symm hne)).trans q, r⟩
    · have hb' : b < s.heap.objs.size := by
        have e' : b = e ∨ b = it := by simpa using hb
        rcases e' with z | z
        · rw [z]; exact hel
        · rw [z]; exact hil
      rw [upd_ne (Nat.ne_of_lt hb')]
      exact (hf b hb).1
  done := by
    intro X hP hw hK hc i pins s σ H E I hf st hg
    subst hP hw hK
    obtain ⟨⟨old, he⟩, hit, hne⟩ := st
    have D : Draws X.prog X.w X.A.in1 it [it] x.cps.size (fun i v => ∃ c u, x.cps[i]? = some c ∧ v = .str ⟨#[c]⟩ u) (fun i h => h.IsStrIter it ty x t i) := by
      rcases hty with e | e
      · rw [e]; exact Draws.strAscii (show X.A.in1.handled = none from I.ok.hd hc) it x t
      · rw [e]; exact Draws.strWide (show X.A.in1.handled = none from I.ok.hd hc) it x t
    obtain ⟨f0, f1, f2, f3, f4, f5⟩ := hf it (by simp)
    have hg' : i = x.cps.size := hg
    subst hg'
    exact wpAny_pyNext_enum_endD D he hit fun h' eb => ⟨rfl, I.turned (t' := s.toks) (fun b o hb q => eb b o hb q) f0 f1 f3 f4 f5⟩
  self := fun A i s Q E st h => let ⟨⟨_, he⟩, _⟩ := st; wpAny_pyIter_enum he h
def iEnumS (ta : TA) : TI := fun σ H R => ta σ H fun vs H1 => ∃ x, vs = [.str x] ∧ R (Ites x) H1
theorem strIter_cases (x : Str) : strIterType x = "str_ascii_iterator" ∨ strIterType x = "str_iterator" := by
  unfold strIterType
  split
  · exact .inl rfl
  · exact .inr rfl
theorem pi_enumS {X : Cx} {e : Expr} {ta : TA} {p pos tpos : Pos} {elts : List Expr} {kk : Nat} (hg : Gl X "enumerate") (hm : X.mg "enumerate" = none) (ha : PA X [e] ta) (hs : starEach [e] X.env = [(false, eval e X.env)] := by rfl) :
    PI X (.Tuple elts kk tpos) (.Call (.Name "enumerate" p) [e] [] pos) (iEnumS ta) := by
  refine ⟨fun pins s σ H R I h => ?_⟩
  refine Call_ (ld_blt I hg hm boot_enumerate (PyProof.Rows.callWith_type1 (thn (ha.run pos pins s σ H _ I h) fun us s1 ⟨vs, H1, I1, r1, q1⟩ => ?_) hs rfl))
  obtain ⟨x, ex, q⟩ := q1
  subst ex
  cases r1 with
  | cons r rr =>
    cases rr
    obtain ⟨t, rfl⟩ := r
    refine call_enumerate_str fun h' he hit hsz hk => wpAny_pyIter_enum he ?_
    have I2 : Inv X pins σ H1 { s1 with heap := h' } := I1.kept (t' := s1.toks) hk
    refine ⟨s1.heap.objs.size + 1, [s1.heap.objs.size + 1, s1.heap.objs.size], _, _, H1, rfl, I2, turn_enumS x t (strIterType x) (strIter_cases x) (s1.heap.objs.size + 1) s1.heap.objs.size, ⟨⟨.none, he⟩, hit, Nat.succ_ne_self _⟩, fun b hb => ?_, q⟩
    have e' : b = s1.heap.objs.size + 1 ∨ b = s1.heap.objs.size := by simpa using hb
    have hle : s1.heap.objs.size ≤ b := by
      rcases e' with z | z
      · rw [z]; exact Nat.le_add_right _ _
      · rw [z]; exact Nat.le_refl _
    exact I1.fpOk hle (I1.hok.fresh hle)
theorem walk_enumS {z : Str} : Walk (Ites z) z.cps.size (fun _ => True) (YPair (fun i => some (.int (i : Nat))) (fun i => z.cps[i]?.map fun c => V.str ⟨#[c]⟩)) := by
  refine ⟨fun _ _ hi _ => hi, fun _ _ => rfl, fun i H v H' _ _ y => ?_⟩
  obtain ⟨T, c, h1, h2, h3, h4⟩ := y
  exact ⟨T, _, _, h1, h2, h3, rfl, by show Option.map _ _ = _; rw [h4]; rfl⟩
end L2

/-! ### isinstance of a caught error that has a dict -/
namespace PySem.W
open PySem PySem.Spec PySem.Calls PyProof.Rows
section
variable {prog : Program} {w : World} {A : Around} {E : Value → Shared → Prop} {s : Shared} {K : Frag} {x D : Addr} {ox : Obj} {od : Option Obj}
theorem kr_findObj_data {C : Addr} {name : Str} {a g : Value} (hc : (clsIn K C).isSome = true) (ha : findIn K (.ref C) name = some (some a)) (hg : specialIn K a "__get__" = some (some g)) (ht : takesIn K a = some true) : findObj K C od name = some (.bind g a) := by
  obtain ⟨cd, hc⟩ := Option.isSome_iff_exists.mp hc
  unfold findObj
  rw [hc, Option.bind_some, ha, Option.bind_some]
  simp [hg, ht]
theorem kr_classE {Q : Option Value → Shared → Prop} (hga : findIn K (.ref D) "__getattribute__" = some (some (.builtin "BaseException.__getattribute__"))) (hgt : findIn K (.ref D) "__getattr__" = some none) (hsub : subIn K (.ref D) (.type "BaseException") = some true)
    (hdct : hasDictIn K D = true) (ha : findIn K (.ref D) "__class__" = some (some (.builtin "object.__class__")))
    (hn : specialIn K (.builtin "object.__class__") "__get__" = some (some (.builtin "getset_descriptor.__get__"))) (htk : takesIn K (.builtin "object.__class__") = some true) (hm : mroIn K D (.type "object") = some true)
    (X : K.In s.heap) (I : InstAt s.heap x ox D od) (h : Q (some (.ref D)) { s with toks := s.toks + 1 }) : wpAny (model prog w) A (getAttr? (.ref x) "__class__") Q E s := by
  have hf : findObj K D od "__class__" = some (.bind (.builtin "getset_descriptor.__get__") (.builtin "object.__class__")) := kr_findObj_data (by obtain ⟨cd, hc, _⟩ := any_some hdct; rw [hc]; rfl) ha hn htk
  obtain ⟨hp, g, d, t, os⟩ := s
  have L0 := I.type (M := model prog w)
  have L1 := looks_findIn (M := model prog w) X hga
  have L2 := looks_findIn (M := model prog w) X hgt
  have L3 := looks_find (M := model prog w) X I hf
  have sub : Looks (model prog w) hp (isInstance (.ref x) (.type "BaseException")) true := L0.andThen (looks_subIn X hsub)
  have hx0 : (false && onTheHeap (Value.builtin "BaseException.__getattribute__")) = false := rfl
  have hx2 : (Value.builtin "BaseException.__getattribute__" == Value.builtin "object.__getattribute__") = false := by decide +kernel
  have hx1 : (onTheHeap (Value.ref D) && Value.builtin "BaseException.__getattribute__" == Value.builtin "object.__getattribute__") = false := by rw [hx2]; rfl
  unfold getAttr? getAttrBy? getAttrBy
  refine wpAny_bind (wpAny_mkText (wpAny_bind (wpAny_attempt (wpAny_holding (wpAny_bind (L0.at (wpAny_bind (L1.at ?_))))))))
  show wpAny _ _ (if (onTheHeap (Value.ref D) && Value.builtin "BaseException.__getattribute__" == Value.builtin "object.__getattribute__") = true then _ else _) _ _ _
  rw [hx1, if_neg Bool.false_ne_true]
  unfold getAttrByItsOwn hookBefore
  refine wpAny_bind ?_
  rw [if_pos (show onTheHeap (Value.ref D) = true from rfl)]
  refine L2.at ?_
  refine wpAny_bind (wpAny_attempt (wpAny_holding ?_))
  unfold callGetattribute
  rw [hx0, if_neg Bool.false_ne_true]
  unfold boundAndCalled
  rw [PySem.F.excAttr_ValueError.ga.bind (.ref x)]
  refine wpAny_bind (wpAny_pure ?_)
  show wpAny _ _ (call (.builtin "BaseException.__getattribute__") [.ref x, .str "__class__" t]) _ _ _
  refine wpAny_call (codeAny_call_builtin PySem.F.excAttr_ValueError.ga.plain PySem.F.entry_bexc_ga ?_)
  refine @check_slot (model prog w) _ _ ⟨hp, g, d, t + 1, os⟩ "BaseException.__getattribute__" "BaseException" "__getattribute__" (.ref x) [.str "__class__" t] [] _ (by decide +kernel) (by decide +kernel) sub (PySem.F.args_bexc_ga (.ref x) (.str "__class__" t)) ?_
  unfold Builtin.«object.__getattribute__»
  refine wpAny_bind (wpAny_of_eq (a := ((Value.ref x : Value), [Value.str "__class__" t])) (by first | rfl | (simp only [slotArgs]; rfl)) ?_)
  refine wpAny_bind (wpAny_pure (wpAny_bind (L0.at (wpAny_bind (L3.at ?_)))))
  show wpAny _ _ (holding [Value.builtin "object.__class__"] (call (.builtin "getset_descriptor.__get__") [.builtin "object.__class__", .ref x, .ref D]) >>= ret) _ _ _
  refine wpAny_bind (wpAny_holding (wpAny_call (class_get (s := ⟨hp, g, d, t + 1, os⟩) (ox := ox) (od := od) X I hm ?_)))
  refine wpAny_pure ?_
  show wpAny _ _ (handedOut (.ref D)) _ _ _
  rw [handedOut_of (v := .ref D) rfl]
  first
    | exact wpAny_pure (wpAny_pure h)
    | exact wpAny_pure h
    | exact wpAny_pure (wpAny_bind (wpAny_pure (wpAny_pure h)))
theorem kr_kitx_exc (hga : findIn K (.ref D) "__getattribute__" = some (some (.builtin "BaseException.__getattribute__"))) (hgt : findIn K (.ref D) "__getattr__" = some none) (hsub : subIn K (.ref D) (.type "BaseException") = some true) (hdct : hasDictIn K D = true) (ha : findIn K (.ref D) "__class__" = some (some (.builtin "object.__class__")))
    (hn : specialIn K (.builtin "object.__class__") "__get__" = some (some (.builtin "getset_descriptor.__get__"))) (htk : takesIn K (.builtin "object.__class__") = some true) (hm : mroIn K D (.type "object") = some true) :
    KitX K (.ref x) (.ref D) (fun h => InstAt h x ox D od) where
  ty := fun _ _ _ I => I.type
  it := fun _ _ X _ => by
    obtain ⟨cdD, hcD, _⟩ := any_some hdct
    unfold clsIn at hcD
    split at hcD
    · rename_i c' d' cd' sl' ho
      intro A' Q' E' s' k q
      unfold isType loadHead
      exact wpAny_bind (wpAny_loadPart (k _ _ (X _ _ ho)) (wpAny_pure q))
    · cases hcD
  ne := fun h tp dd its n sl X htp => by
    obtain ⟨cdD, hcD, _⟩ := any_some hdct
    refine Bool.eq_false_iff.mpr fun q => ?_
    have e : D = tp := Value.ref.inj (beq_iff_eq.mp q)
    subst e
    unfold clsIn at hcD
    split at hcD
    · rename_i c' d' cd' sl' ho
      have z := (X _ _ ho).symm.trans htp
      cases z
    · cases hcD
  ca := fun X I k => kr_classE hga hgt hsub hdct ha hn htk hm X I k
end
end PySem.W
namespace L2
open PySem PySem.Spec PyProof.Rows
/-- isinstance(e, c), e the error that the suite holds (class at D, dict at dd) -/
def rIsX (K : PySem.W.Frag) (a : Addr) (cls : Value) (d : Option Addr) : List V → Hp → VK → Prop := fun xs H Q => ∃ (c : V) (cv : Value) (b : Bool) (D dd : Addr) (fs : List (Str × V)), xs = [.ref a, c] ∧ cls = .ref D ∧ d = some dd ∧ ExcC K D ∧ H dd = some (.xd fs) ∧ (∀ u, RelV c u → u = cv) ∧ PySem.W.kitOne K (.ref D) cv = some b ∧ Q (.bl b) H
theorem call_isX {X : Cx} {a : Addr} {cls : Value} {d : Option Addr} {oe : Obj} {pn : List (Addr × Obj)} (hz : Zc cls d oe) (hf : ∃ vs, oe.data = .fields vs) : CallR (X.suite a ((a, oe) :: pn)) (.builtin "isinstance") (rIsX X.K a cls d) := by
  intro pins s σ H xs us Q I r h
  obtain ⟨c, cv, b, D, dd, fs, rfl, rfl, rfl, C, hdd, hcv, e, q⟩ := h
  cases r with
  | cons rx rr =>
    cases rr with
    | cons rt rr =>
      cases rr
      cases rx
      have ec := hcv _ rt
      subst ec
      obtain ⟨hget, _⟩ := I.pin (a, oe) (List.mem_append.mpr (.inl List.mem_cons_self))
      obtain ⟨vs, hv⟩ := hf
      have hx : ObjOk X.prog X.w H s.heap dd (.xd fs) := I.hok dd _ hdd
      obtain ⟨mA, hns, hr⟩ := hx
      obtain ⟨od, ho, hl⟩ := lookIn_ns hns
      have J : PySem.W.InstAt s.heap a oe D (some od) := ⟨hget, hz.1, by unfold PySem.W.notCls; rw [hv] <;> rfl, by rw [hz.2]; exact ho⟩
      exact PySem.W.kia_one (PySem.W.kr_kitx_exc C.hg C.hk C.hs C.hd C.ha C.hn C.ht C.hm) I.kIn J e (fun z => nomatch z) fun tk => ⟨.bl b, H, I.kept (t' := tk) fun _ _ z => z, rfl, q⟩
/-! ### an own error with one field: raise X(e) -/
/-- what __init__(self, f): self.f = f promises -/
def spEx1 (C : Addr) (f : Str) : Sp := fun vs H Q _ => ∃ (a : Addr) (v : V), vs = [.ref a, v] ∧ H a = some (exo a C none) ∧ ∀ d, H d = none → d ≠ a → Q .non (upd (upd H d (exd d [(f, v)])) a (exo a C (some d)))
/-- what the class x says -/
structure Ex1 (P : Program) (w : World) (K : PySem.W.Frag) (mg : Str → Option Value) (base : Heap) (x f : Str) (C : Addr) : Prop where
  gC : mg x = some (.ref C)
  T : OexC K C
  no : PySem.W.findIn K (.ref C) f = some none
  xf : XfC K C
  ec : ExcC K C
  ini : ∃ (fI : Addr) (fd : FuncData), PySem.W.findIn K (.ref C) "__init__" = some (some (.ref fI)) ∧ PySem.W.typeIn K (.ref fI) = some (.type "function") ∧ FnOk P w K mg base (CX P w) 1 fI fd ["self", f] (spEx1 C f) ∧ Binds K fd ["self", f] []
theorem pmk1 {X : Cx} {x f : Str} {C : Addr} {e : Expr} {te : TE} {p pos : Pos} {k : Nat} (T : Ex1 X.prog X.w X.K X.mg X.base x f C) (hr : Room k X.A) (h2 : 2 ≤ k) (hg : Gl X x) (he : PE X e te)
    (hdb : (x == ("__debug__" : Str)) = false := by decide) (hs : starEach (e :: []) X.env = (false, eval e X.env) :: starEach [] X.env := by rfl) :
    PMk X (.Call (.Name x p) [e] [] pos) (tMkO C (spEx1 C f) [] (tCons te tNil)) := by
  obtain ⟨fI, fd, iC, tI, F1, b⟩ := T.ini
  have hx : Passes (CX X.prog X.w) X (fun _ _ _ => False) := passL
  exact pmk_oex (p := p) (pos := pos) T.T iC tI F1 (hr.mono (show 1 + 1 ≤ k from h2)) b .nil hx hg T.gC (pa_cons he pa_nil hs) hdb hs rfl
theorem ps_raise1 {X : Cx} {W : WX} {x f : Str} {C : Addr} {e : Expr} {te : TE} {p pos pos2 : Pos} {k : Nat} (hc : X.calm = true) (tk : Takes X W) (T : Ex1 X.prog X.w X.K X.mg X.base x f C) (hr : Room k X.A) (h2 : 2 ≤ k) (hg : Gl X x) (he : PE X e te)
    (hdb : (x == ("__debug__" : Str)) = false := by decide) (hs : starEach (e :: []) X.env = (false, eval e X.env) :: starEach [] X.env := by rfl) :
    PS X (.Raise (some (.Call (.Name x p) [e] [] pos)) none pos2) (fun _ σ H => tMkO C (spEx1 C f) [] (tCons te tNil) σ H fun cls d H' => W cls d σ H') := ps_raise hc tk (pmk1 T hr h2 hg he hdb hs)
/-- the end of raise X(v) -/
theorem mk1_end {C : Addr} {f : Str} {v : V} {H : Hp} {Q : XK} (h : ∀ d, H d = none → Q (.ref C) (some d) (upd H d (.xd [(f, v)]))) :
    [v].length ≤ 1000 ∧ ∀ a, H a = none → spEx1 C f (.ref a :: ([v] ++ [])) (upd H a (exo a C none))
      (fun u H2 => u = .non ∧ ∃ (d : Addr) (fs : List (Str × V)), H2 a = some (exo a C (some d)) ∧ H2 d = some (exd d fs) ∧ H d = none ∧ Q (.ref C) (some d) (upd (del H2 a) d (.xd fs))) (fun _ _ _ => False) := by
  refine ⟨by simp, fun a ha => ⟨a, v, rfl, upd_same, fun d hd hne => ⟨rfl, d, [(f, v)], upd_same, ?_, ?_, ?_⟩⟩⟩
  · rw [upd_ne hne, upd_same]
  · rw [upd_ne hne] at hd; exact hd
  · have hd' : H d = none := by rw [upd_ne hne] at hd; exact hd
    have e : upd (del (upd (upd (upd H a (exo a C none)) d (exd d [(f, v)])) a (exo a C (some d))) a) d (.xd [(f, v)]) = upd H d (.xd [(f, v)]) := by
      funext b
      by_cases hb : b = d
      · rw [hb, upd_same, upd_same]
      · rw [upd_ne hb, upd_ne hb]
        by_cases ha2 : b = a
        · rw [ha2, del_same, ha]
        · rw [del_ne ha2, upd_ne ha2, upd_ne hb, upd_ne ha2]
    rw [e]
    exact h d hd'
end L2

/-! ### calls of the text's own defs -/
namespace Kr
open PySem PySem.Spec PyProof.Rows L2
/-- the def x keeps the promise sp by at most level k; dvs: what its last parameters are by default -/
structure KCal (P : Program) (w : World) (K : PySem.W.Frag) (mg : Str → Option Value) (base : Heap) (k : Nat) (x : Str) (sp : Sp) (dvs : List V) : Prop where
  ex : ∃ (f : Addr) (fd : FuncData) (ps : List Str) (ds : List Value), FnOk P w K mg base (CX P w) k f fd ps sp ∧ mg x = some (.ref f) ∧ PySem.W.keepIn K (.ref f) = true ∧ Binds K fd ps ds ∧ Vals dvs ds
section
variable {X : Cx} {k j : Nat} {x : Str} {sp : Sp} {dvs : List V} {e : Expr} {es : List Expr} {t : TA} {p pos : Pos} {W : WX}
theorem kc (c : KCal X.prog X.w X.K X.mg X.base k x sp dvs) (hr : Room j X.A) (hk : k ≤ j) (hg : Gl X x) (ha : PA X (e :: es) t)
    (hdb : (x == ("__debug__" : Str)) = false := by decide) (he : starEach (e :: es) X.env = (false, eval e X.env) :: starEach es X.env := by rfl) (hpl : (backTo pos (starEach es X.env)).any (·.1) = false := by rfl) :
    PE X (.Call (.Name x p) (e :: es) [] pos) (tCall sp dvs E0 t) := by
  obtain ⟨f, fd, ps, ds, F, hm, kp, b, d⟩ := c.ex
  exact pe_call F (hr.mono hk) hg hm kp b d passL ha hdb he hpl
theorem kc0 (c : KCal X.prog X.w X.K X.mg X.base k x sp dvs) (hr : Room j X.A) (hk : k ≤ j) (hg : Gl X x)
    (hdb : (x == ("__debug__" : Str)) = false := by decide) :
    PE X (.Call (.Name x p) [] [] pos) (tCall sp dvs E0 tNil) := by
  obtain ⟨f, fd, ps, ds, F, hm, kp, b, d⟩ := c.ex
  exact pe_call0 F (hr.mono hk) hg hm kp b d passL hdb
theorem kx (c : KCal X.prog X.w X.K X.mg X.base k x sp dvs) (tk : Takes X W) (hr : Room j X.A) (hk : k ≤ j) (hg : Gl X x) (ha : PA X (e :: es) t)
    (hdb : (x == ("__debug__" : Str)) = false := by decide) (he : starEach (e :: es) X.env = (false, eval e X.env) :: starEach es X.env := by rfl) (hpl : (backTo pos (starEach es X.env)).any (·.1) = false := by rfl) :
    PE X (.Call (.Name x p) (e :: es) [] pos) (tCallSD sp dvs (WE W) t) := by
  obtain ⟨f, fd, ps, ds, F, hm, kp, b, d⟩ := c.ex
  exact pe_callSD F (hr.mono hk) hg hm kp b d (fun σ => passAt tk σ) ha hdb he hpl
end
/-! ### tests -/
theorem ift {c : Bool} {A B : Prop} (hc : c = true) (h : A) : if c = true then A else B := by rw [if_pos hc]; exact h
theorem iff' {c : Bool} {A B : Prop} (hc : c = false) (h : B) : if c = true then A else B := by rw [hc, if_neg Bool.false_ne_true]; exact h
theorem if2 {c : Bool} {A B : Prop} (h1 : c = true → A) (h2 : c = false → B) : if c = true then A else B := by
  cases c with
  | true => exact h1 rfl
  | false => exact h2 rfl
theorem dI (i j : Int) : decide (V.int i = V.int j) = decide (i = j) := by
  by_cases h : i = j
  · rw [h]; simp
  · rw [decide_eq_false h, decide_eq_false (fun q => h (V.int.inj q))]
theorem dS (i j : Str) : decide (V.str i = V.str j) = decide (i = j) := by
  by_cases h : i = j
  · rw [h]; simp
  · rw [decide_eq_false h, decide_eq_false (fun q => h (V.str.inj q))]
theorem dB (i j : Bool) : decide (V.bl i = V.bl j) = decide (i = j) := by
  cases i <;> cases j <;> rfl
/-! ### lists of ints -/
theorem tyL {K : PySem.W.Frag} {H : Hp} {p : Addr} {xs : List V} (h : H p = some (.lst xs)) : tyV K "list" (.ref p) H := Or.inl ⟨rfl, _, SqL.of h⟩
theorem six0 {n : Nat} (h : 0 < n) : seqIndex? 0 n = some 0 := by
  unfold seqIndex?
  simp [h]
theorem dpInts {K : PySem.W.Frag} {H : Hp} : ∀ cs : List Int, DpAll K H (cs.map V.int) (cs.map PyData.int)
  | [] => .nil
  | c :: cs => .cons (.int c) (dpInts cs)
theorem layInts : ∀ cs : List Int, PyData.canLayAll0 (cs.map PyData.int) = true
  | [] => rfl
  | c :: cs => by
    show (PyData.canLay0 (.int c) && PyData.canLayAll0 (cs.map PyData.int)) = true
    rw [layInts cs]; rfl
theorem depInts : ∀ cs : List Int, PyData.depthAll (cs.map PyData.int) = 0
  | [] => rfl
  | c :: cs => by
    show max (PyData.depth (.int c)) (PyData.depthAll (cs.map PyData.int)) = 0
    rw [depInts cs]; rfl
theorem shInts (cs : List Int) : SeqAt.shaped (.list (cs.map PyData.int)) = true := by
  unfold SeqAt.shaped
  rw [Bool.and_eq_true]
  refine ⟨layInts cs, decide_eq_true ?_⟩
  show PyData.depthAll (cs.map PyData.int) + 1 ≤ 64
  rw [depInts]; decide
/-! ### what stays of a heap -/
def Kp (S : List Addr) (H H' : Hp) : Prop := ∀ a o, a ∉ S → H a = some o → H' a = some o
theorem Kp.refl {S : List Addr} {H : Hp} : Kp S H H := fun _ _ _ h => h
theorem Kp.trans {S : List Addr} {H H1 H2 : Hp} (a : Kp S H H1) (b : Kp S H1 H2) : Kp S H H2 := fun x o hx h => b x o hx (a x o hx h)
theorem Kp.mono {S S' : List Addr} {H H' : Hp} (a : Kp S H H') (h : ∀ x ∈ S, x ∈ S') : Kp S' H H' := fun x o hx q => a x o (fun z => hx (h x z)) q
theorem Kp.upd {S : List Addr} {H H' : Hp} {p : Addr} {o : HO} (a : Kp S H H') (h : p ∈ S) : Kp S H (upd H' p o) := fun x u hx q => by
  have : x ≠ p := fun z => hx (z ▸ h)
  rw [upd_ne this]; exact a x u hx q
theorem Kp.new {S : List Addr} {H H' : Hp} {p : Addr} {o : HO} (a : Kp S H H') (h : H' p = none) : Kp S H (L2.upd H' p o) := fun x u hx q => by
  have q' := a x u hx q
  rw [upd_ne (ne_of_none q' h)]; exact q'
theorem Kp.mut {S : List Addr} {H H' : Hp} {p : Addr} {o : HO} (a : Kp S H H') (h : H p = none) : Kp S H (L2.upd H' p o) := fun x u hx q => by
  rw [upd_ne (ne_of_none q h)]; exact a x u hx q
theorem Kp.free {S : List Addr} {H H' : Hp} {p : Addr} (a : Kp S H H') (hp : p ∉ S) (h : H' p = none) : H p = none := by
  cases q : H p with
  | none => rfl
  | some o => rw [a p o hp q] at h; cases h
theorem Kp.same {H H' : Hp} (a : Kp [] H H') : Same H H' := fun x o h => a x o (by simp) h
theorem Kp.of_same {S : List Addr} {H H' : Hp} (a : Same H H') : Kp S H H' := fun x o _ h => a x o h
theorem Kp.seq {S : List Addr} {K : PySem.W.Frag} {H H' : Hp} {a : Addr} {xs : List V} (k : Kp S H H') (ha : a ∉ S) (h : SqL K H a xs) : SqL K H' a xs := by
  rcases h with h | h
  · rcases h with h | ⟨o, h⟩
    · exact .inl (.inl (k a _ ha h))
    · exact .inl (.inr ⟨o, k a _ ha h⟩)
  · exact .inr h
/-- a def that raises nothing of its own promise -/
theorem ok0 {P : Program} {w : World} {K : PySem.W.Frag} {mg : Str → Option Value} {base : Heap} {k : Nat} {f : Addr} {fd : FuncData} {ps : List Str} {sp : Sp} (F : FnOk P w K mg base (CX P w) k f fd ps sp) (hE : ∀ vs H Q E, sp vs H Q E → sp vs H Q E0) : FnOk P w K mg base CX0 k f fd ps sp := by
  refine ⟨F.len, fun A outer s H args us vs Q E hr h0 hb hv hs => ?_⟩
  refine codeAny_mono (F.run A outer s H args us vs Q E0 hr h0 hb hv (hE _ _ _ _ hs)) fun r s' hq => ?_
  cases r with
  | error er =>
    exfalso
    have q : CX P w outer H s E0 er s' := hq
    obtain ⟨_, _, _, _, _, _, _, _, _, _, _, _, z⟩ := q
    exact z
  | ok fl =>
    cases fl with
    | ret u => exact hq
    | next => exact hq
    | brk => exact hq
    | cont => exact hq
end Kr

set_option Elab.async false
set_option linter.all false
set_option maxRecDepth 100000
set_option maxHeartbeats 2000000
namespace He
open PySem PySem.Spec PyProof.Rows L2
/-! ### facts of own error classes -/
def excCB (K : PySem.W.Frag) (C : Addr) : Bool := match K.lookup C with
  | some ⟨.type "type", _, .cls cd, sl⟩ => (match cd.mro, sl.toList with
    | .ref C' :: bm, [_, _, _, _, some (.builtin n), _] => C' == C && n == "ValueError.__new__" && !cd.hasDel && cd.hasDict && PySem.HandSPX.refsVE bm
    | _, _ => false)
  | _ => false
theorem excCB_ok {K : PySem.W.Frag} {C : Addr} (q : excCB K C = true) : ∃ nm q N bs bm sn sub ab col dd k0 k1 k2 k3 k5, K.lookup C = some (excClassObj nm q C N bs bm true sn sub ab col dd k0 k1 k2 k3 k5 "ValueError.__new__") ∧ PySem.HandSPX.refsVE bm = true := by
  unfold excCB at q
  split at q
  · rename_i dd cd sl ho
    split at q
    · rename_i C' bm k0 k1 k2 k3 n k5 hm hs
      simp only [Bool.and_eq_true, beq_iff_eq, Bool.not_eq_true'] at q
      obtain ⟨⟨⟨⟨rfl, rfl⟩, hdel⟩, hdi⟩, ht⟩ := q
      obtain ⟨nm, bs, mro, ns, qn, hd, sn, sub, ab, col, del⟩ := cd
      dsimp only at hm hdel hdi
      subst hm hdel hdi
      have hsl : sl = #[k0, k1, k2, k3, some (.builtin "ValueError.__new__"), k5] := by
        obtain ⟨l⟩ := sl
        simp only at hs
        rw [hs]
      subst hsl
      exact ⟨nm, qn, ns, bs, bm, sn, sub, ab, col, dd, k0, k1, k2, k3, k5, ho, ht⟩
    · cases q
  · cases q
def oexB (K : PySem.W.Frag) (C : Addr) : Bool := excCB K C && (eqO (PySem.W.findIn K (.ref C) "__setattr__") (some (some (.builtin "object.__setattr__"))) && (decide (PySem.W.subIn K (.ref C) (.type "BaseException") = some true) && (decide (PySem.W.typeIn K (.ref C) = some (.type "type")) && PySem.W.keepIn K (.ref C))))
theorem oexB_ok {K : PySem.W.Frag} {C : Addr} (q : oexB K C = true) : OexC K C := by
  obtain ⟨c1, c⟩ := ba q
  obtain ⟨c2, c⟩ := ba c
  obtain ⟨c3, c⟩ := ba c
  obtain ⟨c4, c5⟩ := ba c
  exact ⟨excCB_ok c1, eqO_ok c2, of_decide_eq_true c3, of_decide_eq_true c4, c5⟩
def exqB (K : PySem.W.Frag) (D : Addr) : Bool := eqO (PySem.W.findIn K (.ref D) "__class__") (some (some (.builtin "object.__class__"))) && (eqO (PySem.W.specialIn K (.builtin "object.__class__") "__get__") (some (some (.builtin "getset_descriptor.__get__"))) && (decide (PySem.W.takesIn K (.builtin "object.__class__") = some true) && decide (PySem.W.mroIn K D (.type "object") = some true)))
theorem exqB_ok {K : PySem.W.Frag} {D : Addr} (x : XfC K D) (h : xfB K D = true) (q : exqB K D = true) : ExcC K D := by
  obtain ⟨c1, c⟩ := ba q
  obtain ⟨c2, c⟩ := ba c
  obtain ⟨c3, c4⟩ := ba c
  unfold xfB at h
  obtain ⟨d1, d⟩ := ba h
  obtain ⟨d2, d⟩ := ba d
  obtain ⟨d3, d4⟩ := ba d
  exact ⟨of_decide_eq_true d1, of_decide_eq_true d2, of_decide_eq_true d3, d4, eqO_ok c1, eqO_ok c2, of_decide_eq_true c3, of_decide_eq_true c4⟩
/-- an own error class x with the one field f -/
def ex1B (K : PySem.W.Frag) (x f : Str) : Bool := eqO (PySem.W.nsIn K mainGlobals x) (some (some (.ref (ga K x)))) && (oexB K (ga K x) && (xfB K (ga K x) && (exqB K (ga K x) && (eqO (PySem.W.findIn K (.ref (ga K x)) f) (some none) &&
  (eqO (PySem.W.findIn K (.ref (ga K x)) "__init__") (some (some (.ref (ma K (ga K x) "__init__")))) && decide (PySem.W.typeIn K (.ref (ma K (ga K x) "__init__")) = some (.type "function")))))))
theorem ex1_ok {P : Program} {w : World} {K : PySem.W.Frag} {mg : Str → Option Value} {base h : Heap} {x f : Str} (X : K.In h) (G : h.Ns mainGlobals mg) (q : ex1B K x f = true) {fd : FuncData}
    (F : FnOk P w K mg base (CX P w) 1 (ma K (ga K x) "__init__") fd ["self", f] (spEx1 (ga K x) f)) (b : Binds K fd ["self", f] []) : Ex1 P w K mg base x f (ga K x) := by
  obtain ⟨c1, c⟩ := ba q
  obtain ⟨c2, c⟩ := ba c
  obtain ⟨c3, c⟩ := ba c
  obtain ⟨c4, c⟩ := ba c
  obtain ⟨c5, c⟩ := ba c
  obtain ⟨c6, c7⟩ := ba c
  exact ⟨PySem.W.mg_of X G (eqO_ok c1), oexB_ok c2, eqO_ok c5, xfB_ok c3, exqB_ok (xfB_ok c3) c3 c4, _, fd, eqO_ok c6, of_decide_eq_true c7, F, b⟩
/-- isinstance of an error of class x: of class y; of the built-in class t -/
def kitB (K : PySem.W.Frag) (x y : Str) (b : Bool) : Bool := decide (PySem.W.kitOne K (.ref (ga K x)) (.ref (ga K y)) = some b)
def kitTB (K : PySem.W.Frag) (x : Str) (t : String) (b : Bool) : Bool := decide (PySem.W.kitOne K (.ref (ga K x)) (.type t) = some b)
end He

set_option Elab.async false
set_option linter.all false
set_option maxRecDepth 100000
set_option maxHeartbeats 2000000
namespace Kr
open PySem PySem.Spec PyProof.Rows L2
open SX (S)
/-! ### texts as lists of code points -/
def cutN (n : Nat) (d : Nat) : Option Int → Nat
  | none => d
  | some i => min i.toNat n
/-- a[lo:hi] of a list, both ends not below nought -/
def cutL {α : Type} (a : List α) (lo hi : Option Int) : List α := (a.drop (cutN a.length 0 lo)).take (cutN a.length a.length hi - cutN a.length 0 lo)
def nn : Option Int → Prop
  | none => True
  | some i => 0 ≤ i
theorem sIx_nn {n d : Nat} {o : Option Int} (h : nn o) : HT.sIx n d o = cutN n d o := by
  cases o with
  | none => rfl
  | some i =>
    have h0 : (0 : Int) ≤ i := h
    obtain ⟨k, rfl⟩ := Int.eq_ofNat_of_zero_le h0
    simp [HT.sIx, cutN]
    omega
theorem cutS_S {a : List Nat} {lo hi : Option Int} (h1 : nn lo) (h2 : nn hi) : cutS (S a) lo hi = S (cutL a lo hi) := by
  unfold cutS cutL
  have e : (S a).length = a.length := SX.S_len a
  rw [e, sIx_nn h1, sIx_nn h2]
theorem cutV_L {a : List V} {lo hi : Option Int} (h1 : nn lo) (h2 : nn hi) : cutV a lo hi = cutL a lo hi := by
  unfold cutV cutL
  rw [sIx_nn h1, sIx_nn h2]
theorem cutL_to {α : Type} (a : List α) (i : Nat) : cutL a none (some (i : Int)) = a.take i := by
  simp [cutL, cutN]
theorem cutL_from {α : Type} (a : List α) (i : Nat) : cutL a (some (i : Int)) none = a.drop i := by
  simp [cutL, cutN]
  by_cases h : i ≤ a.length
  · rw [Nat.min_eq_left h, List.take_of_length_le (by simp)]
  · rw [Nat.min_eq_right (by omega), List.drop_of_length_le (by omega), List.drop_of_length_le (by omega)]; simp
theorem cutL_mid {α : Type} (a : List α) (i j : Nat) : cutL a (some (i : Int)) (some (j : Int)) = (a.take j).drop i := by
  simp [cutL, cutN]
  apply List.ext_getElem?
  intro k
  simp [List.getElem?_take, List.getElem?_drop]
  grind
/-! ### rules over them -/
section
variable {X : Cx}
theorem opImp {f : Value → Value → Sem Value} {r r' : R2} (h : OpR X f r) (i : ∀ x y H Q, r' x y H Q → r x y H Q) : OpR X f r' := fun pins s σ H x y v u Q I rx ry q => h pins s σ H x y v u Q I rx ry (i x y H Q q)
theorem callImp {f : Value} {r r' : List V → Hp → VK → Prop} (h : CallR X f r) (i : ∀ xs H Q, r' xs H Q → r xs H Q) : CallR X f r' := fun pins s σ H xs us Q I rx q => h pins s σ H xs us Q I rx (i xs H Q q)
theorem ixImp {r r' : R2} (h : IxR X r) (i : ∀ x y H Q, r' x y H Q → r x y H Q) : IxR X r' := fun a b pins s σ H x y v u Q I rx ry q e => h a b pins s σ H x y v u Q I rx ry (i x y H Q q) e
theorem slImp {r r' : V → Option Int → Option Int → Hp → VK → Prop} (h : L2.SlR X r) (i : ∀ x lo hi H Q, r' x lo hi H Q → r x lo hi H Q) : L2.SlR X r' := fun pins s σ H x v vl vu lo hi sl Q I rx hs pl pu q => h pins s σ H x v vl vu lo hi sl Q I rx hs pl pu (i x lo hi H Q q)
theorem mtImp {id : String} {r r' : V → List V → Hp → VK → Prop} (h : MtR X id r) (i : ∀ x xs H Q, r' x xs H Q → r x xs H Q) : MtR X id r' := fun pins s σ H x xs v us Q I rx rs q => h pins s σ H x xs v us Q I rx rs (i x xs H Q q)
theorem leSz {n : Nat} (h : n ≤ 100000) : n ≤ sizeLine := Nat.le_trans h (by decide)
theorem ltSz {n : Nat} (h : n < 100000) : n < sizeLine := Nat.lt_of_lt_of_le h (by decide)
def rAddS : R2 := fun x y H Q => ∃ a b : List Nat, x = .str (S a) ∧ y = .str (S b) ∧ a.length + b.length ≤ 100000 ∧ Q (.str (S (a ++ b))) H
theorem op_addS : OpR X (binaryOp .Add) rAddS := opImp op_add_str fun x y H Q ⟨a, b, h1, h2, h3, q⟩ => ⟨S a, S b, h1, h2, by rw [SX.S_len, SX.S_len]; exact leSz h3, by rw [SX.S_cat]; exact q⟩
def rIxT' : R2 := fun x y H Q => ∃ (a : List Nat) (i : Int) (c : Nat), x = .str (S a) ∧ y = .int i ∧ a.length ≤ 100000 ∧ 0 ≤ i ∧ a[i.toNat]? = some c ∧ Q (.str (S [c])) H
theorem atI_pos {α : Type} {a : List α} {i : Int} {c : α} (h0 : 0 ≤ i) (h : a[i.toNat]? = some c) : atI a i = some c := by
  obtain ⟨k, rfl⟩ := Int.eq_ofNat_of_zero_le h0
  exact atI_nat h
theorem ix_S : IxR X rIxT' := ixImp ix_str fun x y H Q ⟨a, i, c, h1, h2, h3, h4, h5, q⟩ => ⟨S a, i, c, h1, h2, by rw [SX.S_len]; exact leSz h3, atI_pos h4 h5, q⟩
def rSlS' : V → Option Int → Option Int → Hp → VK → Prop := fun x lo hi H Q => ∃ a : List Nat, x = .str (S a) ∧ a.length ≤ 100000 ∧ nn lo ∧ nn hi ∧ Q (.str (S (cutL a lo hi))) H
theorem sl_S : L2.SlR X rSlS' := slImp sl_str fun x lo hi H Q ⟨a, h1, h2, h3, h4, q⟩ => ⟨S a, h1, by rw [SX.S_len]; exact leSz h2, by rw [cutS_S h3 h4]; exact q⟩
def rLenS : List V → Hp → VK → Prop := fun xs H Q => ∃ a : List Nat, xs = [.str (S a)] ∧ a.length ≤ 100000 ∧ Q (.int (a.length : Int)) H
theorem call_lenS : CallR X (.builtin "len") rLenS := callImp call_len_str fun xs H Q ⟨a, h1, h2, q⟩ => ⟨S a, h1, by rw [SX.S_len]; exact leSz h2, by rw [SX.S_len]; exact q⟩
theorem pe_strS {x : Str} {j : Nat} {pos : Pos} (l : List Nat) (h : x = S l) : PE X (.Constant (.str x) j pos) (tC (.str (S l))) := by
  rw [h]; exact pe_str
def rInS (neg : Bool) : R2 := fun x y H Q => ∃ (c : Nat) (a : List Nat), x = .str (S [c]) ∧ y = .str (S a) ∧ Q (.bl (if neg then !decide (c ∈ a) else decide (c ∈ a))) H
theorem op_inS : OpR X (compareOp .In) (rInS false) := opImp op_in_sign fun x y H Q ⟨c, a, h1, h2, q⟩ => ⟨c, S a, h1, h2, q⟩
theorem op_notInS : OpR X (compareOp .NotIn) (rInS true) := opImp op_notIn_sign fun x y H Q ⟨c, a, h1, h2, q⟩ => ⟨c, S a, h1, h2, q⟩
def rEqS (neg : Bool) : R2 := fun x y H Q => ∃ a b : List Nat, x = .str (S a) ∧ y = .str (S b) ∧ Q (.bl (if neg then !decide (a = b) else decide (a = b))) H
theorem dSS (a b : List Nat) : decide (V.str (S a) = V.str (S b)) = decide (a = b) := by
  by_cases h : a = b
  · rw [h]; simp
  · rw [decide_eq_false h, decide_eq_false (fun q => h (SX.S_inj (V.str.inj q)))]
theorem op_eqS : OpR X (compareOp .Eq) (rEqS false) := opImp op_eq fun x y H Q ⟨a, b, h1, h2, q⟩ => by
  subst h1 h2
  refine ⟨rfl, ?_⟩
  rw [dSS]; exact q
theorem op_neS : OpR X (compareOp .NotEq) (rEqS true) := opImp op_ne fun x y H Q ⟨a, b, h1, h2, q⟩ => by
  subst h1 h2
  refine ⟨rfl, ?_⟩
  rw [dSS]; exact q
theorem pe_gS {x : Str} {a : List Nat} {pos : Pos} (h : ∃ t, X.mg x = some (.str (S a) t)) (hg : Gl X x) (hd : (x == ("__debug__" : Str)) = false := by decide) : PE X (.Name x pos) (tC (.str (S a))) := by
  obtain ⟨t, h⟩ := h
  exact pe_glob hg h ⟨t, rfl⟩ hd
theorem pe_gI {x : Str} {i : Int} {pos : Pos} (h : ∃ t, X.mg x = some (.int i t)) (hg : Gl X x) (hd : (x == ("__debug__" : Str)) = false := by decide) : PE X (.Name x pos) (tC (.int i)) := by
  obtain ⟨t, h⟩ := h
  exact pe_glob hg h ⟨t, rfl⟩ hd
theorem pe_gR {x : Str} {C : Addr} {pos : Pos} (h : X.mg x = some (.ref C)) (hg : Gl X x) (hd : (x == ("__debug__" : Str)) = false := by decide) : PE X (.Name x pos) (tC (.ref C)) := pe_glob hg h rfl hd
theorem pe_bT {x : Str} (n : String) {pos : Pos} (hm : X.mg x = none) (hg : Gl X x) (hv : bootBuiltins x = some (.type n)) (h1 : x ≠ "__name__" := by decide) (hd : (x == ("__debug__" : Str)) = false := by decide) : PE X (.Name x pos) (tC (.ty n)) := pe_bltn hg hm hv rfl h1 hd
/-! join, find -/
theorem joinL_nil : ∀ ys : List (List Nat), TL.joinL [] ys = ys.flatten
  | [] => rfl
  | [p] => by simp [TL.joinL]
  | p :: q :: r => by
    show p ++ ([] ++ TL.joinL [] (q :: r)) = _
    rw [joinL_nil (q :: r)]; rfl
theorem join0 (ys : List (List Nat)) : Txt.join (S []) (ys.map S) = S ys.flatten := by rw [SX.join_S, joinL_nil]
theorem sum_len : ∀ ys : List (List Nat), ((ys.map S).map (fun x => x.length)).sum = ys.flatten.length
  | [] => rfl
  | y :: ys => by
    have := sum_len ys
    simp [SX.S_len] at this ⊢
    exact this
/-- "".join(list of texts) -/
def rJoin0 (K : PySem.W.Frag) : V → List V → Hp → VK → Prop := fun x xs H Q => ∃ (p : Addr) (ys : List (List Nat)), x = .str (S []) ∧ xs = [.ref p] ∧ SqL K H p (ys.map fun y => V.str (S y)) ∧ ys.flatten.length ≤ 100000 ∧ Q (.str (S ys.flatten)) H
theorem pe_join0 {o e : Expr} {to te : TE} {apos pos : Pos} (ho : PE X o to) (he : PE X e te) (h1 : starEach [e] X.env = [(false, eval e X.env)] := by rfl) (h2 : attributeBase o "join" X.env (eval o X.env) = eval o X.env := by rfl) (h3 : (apos.endLine == pos.line) = true := by rfl) :
    PE X (.Call (.Attribute o "join" apos) [e] [] pos) (tM1 (rJoin0 X.K) to te) :=
  pe_m1 PySem.F.slot_str_join PySem.F.type_str_join (mtImp mt_join fun x xs H Q ⟨p, ys, e1, e2, hs, hl, q⟩ => ⟨S [], p, ys.map S, e1, e2, .inl (by rw [List.map_map]; exact hs), by
    rw [sum_len]; show _ + _ * 0 ≤ _; omega, by rw [join0]; exact q⟩) ho he h1 h2 h3
theorem at1 (a : List Nat) (c i : Nat) : StrLaws.At (S a) (S [c]) (S a).length i ↔ a[i]? = some c := by
  rw [TL.at_iff (by simp [TL.tl])]
  show TL.pre [c] (a.drop i) = true ↔ _
  unfold TL.pre
  cases h : a[i]? with
  | none =>
    have := List.getElem?_eq_none_iff.mp h
    rw [List.drop_of_length_le this]
    simp
  | some d =>
    obtain ⟨hi, e⟩ := List.getElem?_eq_some_iff.mp h
    rw [List.drop_eq_getElem_cons hi, e]
    simp
/-- the first place of c -/
def fst? (c : Nat) (a : List Nat) : Option Nat := a.findIdx? fun d => d == c
def foi : Option Nat → Int
  | some i => (i : Int)
  | none => -1
theorem find1 (a : List Nat) (c : Nat) : Txt.find (S a) (S [c]) = foi (fst? c a) := by
  unfold Txt.find fst?
  rcases StrLaws.occ_head (S a) (S [c]) 1 (Nat.le_refl _) with ⟨h0, hn⟩ | ⟨i, r, h0, hi, hn⟩
  · rw [h0]
    have e : (a.findIdx? fun d => d == c) = none := by
      rw [List.findIdx?_eq_none_iff]
      intro x hx
      obtain ⟨k, hk, e⟩ := List.mem_iff_getElem.mp hx
      have q := hn k
      rw [at1, List.getElem?_eq_getElem hk, e] at q
      simpa using fun z => q (by rw [z])
    rw [e]; rfl
  · rw [h0]
    rw [at1] at hi
    have e : (a.findIdx? fun d => d == c) = some i := by
      rw [List.findIdx?_eq_some_iff_getElem]
      obtain ⟨hl, e⟩ := List.getElem?_eq_some_iff.mp hi
      refine ⟨hl, by simp [e], fun j hj => ?_⟩
      have q := hn j hj
      rw [at1, List.getElem?_eq_getElem (by omega)] at q
      simpa using fun z => q (by rw [z])
    rw [e]; rfl
/-- s.find(c), c one sign -/
def rFind1 : V → List V → Hp → VK → Prop := fun x xs H Q => ∃ (a : List Nat) (c : Nat), x = .str (S a) ∧ xs = [.str (S [c])] ∧ Q (.int (foi (fst? c a))) H
theorem mt_find1 : MtR X "str.find" rFind1 := mtImp mt_find fun x xs H Q ⟨a, c, e1, e2, q⟩ => ⟨S a, S [c], e1, e2, by rw [find1]; exact q⟩
def rAlnum1 : V → List V → Hp → VK → Prop := fun x xs H Q => ∃ (c : Nat), x = .str (S [c]) ∧ xs = [] ∧ Q (.bl (Unicode.isAlnum c)) H
theorem mt_alnum1 : MtR X "str.isalnum" rAlnum1 := mtImp mt_isalnum fun x xs H Q ⟨c, e1, e2, q⟩ => ⟨S [c], e1, e2, trivial, by
  have e : Txt.isalnum (S [c]) = Unicode.isAlnum c := by simp [Txt.isalnum, S, Str.length]
  rw [e]; exact q⟩
end
end Kr

set_option Elab.async false
set_option linter.all false
set_option maxRecDepth 100000
set_option maxHeartbeats 2000000
namespace Kr
open PySem PySem.Spec PyProof.Rows L2
open SX (S)
open He (ga ma)
def top (i : Nat) : Stmt := PySem.Challenge.pw_keyreel_k01_signs_and_checks.main.body.getD i (.Pass ⟨0, 0, 0, 0⟩)
abbrev FnP (K : PySem.W.Frag) (x : Str) (st : Stmt) (f : Addr) (fd : FuncData) : Prop := FunD K x x (defArgs st) (defBody st) (defScope st) [] [] f fd
/-! ### the signs -/
def sgn : List Nat := [10, 32, 33, 34, 35, 36, 38, 39, 40, 41, 42, 43, 44, 45, 46, 47, 48, 49, 50, 51, 52, 53, 54, 55, 56, 57, 58, 59, 60, 61, 62, 63, 64, 65, 66, 67, 68, 69, 70, 71, 72, 73, 74, 75, 76, 77, 78, 79, 80, 81, 82, 83, 84, 85, 86, 87, 88, 89, 90, 91, 92, 93, 94, 95, 96, 97, 98, 99, 100, 101, 102, 103, 104, 105, 106, 107, 108, 109, 110, 111, 112, 113, 114, 115, 116, 117, 118, 119, 120, 121, 122, 123, 124, 125, 126]
def wsg : List Nat := [48, 49, 50, 51, 52, 53, 54, 55, 56, 57, 65, 66, 67, 68, 69, 70, 71, 72, 73, 74, 75, 76, 77, 78, 79, 80, 81, 82, 83, 84, 85, 86, 87, 88, 89, 90, 97, 98, 99, 100, 101, 102, 103, 104, 105, 106, 107, 108, 109, 110, 111, 112, 113, 114, 115, 116, 117, 118, 119, 120, 121, 122]
structure TX (K : PySem.W.Frag) (mg : Str → Option Value) : Prop where
  b_len : mg "len" = none
  b_int : mg "int" = none
  b_list : mg "list" = none
  b_range : mg "range" = none
  b_min : mg "min" = none
  b_enumerate : mg "enumerate" = none
  b_isinstance : mg "isinstance" = none
  b_bool : mg "bool" = none
  b_ValueError : mg "ValueError" = none
  g_SIGNS : ∃ t, mg "SIGNS" = some (.str (S sgn) t)
  g_WORD_SIGNS : ∃ t, mg "WORD_SIGNS" = some (.str (S wsg) t)
section
variable {P : Program} {w : World} {K : PySem.W.Frag} {mg : Str → Option Value} {base : Heap}
abbrev FnX (K : PySem.W.Frag) (q : Str) (st : Stmt) (f : Addr) (fd : FuncData) : Prop := FunD K "__init__" q (defArgs st) (defBody st) (defScope st) [] [] f fd
abbrev s_InvalidText : Stmt := inClass (top 2) 0
theorem sc_InvalidText : FnScope ["self", "place"] ["self", "place"] (defScope s_InvalidText) := ⟨rfl, rfl, rfl, by decide +kernel, rfl, by decide +kernel, by decide +kernel⟩
theorem ok_InvalidText {C : Addr} (T : OexC K C) (no : PySem.W.findIn K (.ref C) "place" = some none) {f : Addr} {fd : FuncData} (F : FnX K "InvalidText.__init__" s_InvalidText f fd) : FnOk P w K mg base (CX P w) 1 f fd ["self", "place"] (spEx1 C "place") := by
  refine F.ok sc_InvalidText (fun vs H Q E h => ?_) (fun cdv A outer s H vs Q E hr h => ?_)
  · obtain ⟨a, v, rfl, _⟩ := h
    rfl
  · obtain ⟨a, v, rfl, ha, k⟩ := h
    refine ⟨_, pss_one (ps_ost (pv 0) (pv 1)), ?_⟩
    exact ⟨_, rfl, _, rfl, a, C, rfl, T, no, .inl ⟨ha, fun dx h1 h2 => k dx h1 h2⟩⟩
abbrev s_InvalidPlace : Stmt := inClass (top 3) 0
theorem sc_InvalidPlace : FnScope ["self", "place"] ["self", "place"] (defScope s_InvalidPlace) := ⟨rfl, rfl, rfl, by decide +kernel, rfl, by decide +kernel, by decide +kernel⟩
theorem ok_InvalidPlace {C : Addr} (T : OexC K C) (no : PySem.W.findIn K (.ref C) "place" = some none) {f : Addr} {fd : FuncData} (F : FnX K "InvalidPlace.__init__" s_InvalidPlace f fd) : FnOk P w K mg base (CX P w) 1 f fd ["self", "place"] (spEx1 C "place") := by
  refine F.ok sc_InvalidPlace (fun vs H Q E h => ?_) (fun cdv A outer s H vs Q E hr h => ?_)
  · obtain ⟨a, v, rfl, _⟩ := h
    rfl
  · obtain ⟨a, v, rfl, ha, k⟩ := h
    refine ⟨_, pss_one (ps_ost (pv 0) (pv 1)), ?_⟩
    exact ⟨_, rfl, _, rfl, a, C, rfl, T, no, .inl ⟨ha, fun dx h1 h2 => k dx h1 h2⟩⟩
/-! ### keyreel.signs -/
def spIsWord : Sp := fun vs H Q _ => ∃ c : Nat, vs = [.str (S [c])] ∧ Q (.bl (decide (c ∈ wsg))) H
abbrev s_is_word_sign : Stmt := top 10
theorem sc_is_word_sign : FnScope ["sign"] ["sign"] (defScope s_is_word_sign) := ⟨rfl, rfl, rfl, by decide +kernel, rfl, by decide +kernel, by decide +kernel⟩
theorem ok_is_word_sign (T : TX K mg) {f : Addr} {fd : FuncData} (F : FnP K "is_word_sign" s_is_word_sign f fd) : FnOk P w K mg base (CX P w) 1 f fd ["sign"] spIsWord := by
  refine F.ok sc_is_word_sign (fun vs H Q E h => ?_) (fun cdv A outer s H vs Q E hr h => ?_)
  · obtain ⟨c, rfl, _⟩ := h
    rfl
  · obtain ⟨c, rfl, k⟩ := h
    refine ⟨_, (pss_one (ps_ret (pe_and (pe_cmpR op_eq (pe_callB call_lenS (by rfl) T.b_len PySem.boot_len (pa_cons (pv 0) pa_nil)) pe_int (nomark _)) (pe_one (pe_cmpR op_inS (pv 0) (pe_gS T.g_WORD_SIGNS rfl) rfl))))), ?_⟩
    exact ⟨_, rfl, _, rfl, by simp, rfl, _, rfl, iteT ⟨_, rfl, _, _, rfl, rfl, k⟩⟩
/-- the first place that is no sign -/
def badAt (a : List Nat) : Option Nat := a.findIdx? fun c => !decide (c ∈ sgn)
/-- X(place = i) leaves, X at C -/
def Rz (C : Addr) (f : Str) (v : V) (H : Hp) (E : XK) : Prop := ∀ H' d, Same H H' → H' d = none → E (.ref C) (some d) (upd H' d (.xd [(f, v)]))
def spCheckText (K : PySem.W.Frag) : Sp := fun vs H Q E => ∃ a : List Nat, vs = [.str (S a)] ∧ (badAt a = none → ∀ H', Same H H' → Q .non H') ∧ (∀ i, badAt a = some i → Rz (ga K "InvalidText") "place" (.int (i : Nat)) H E)
abbrev s_check_text : Stmt := top 11
theorem sc_check_text : FnScope ["text", "place", "sign"] ["text"] (defScope s_check_text) := ⟨rfl, rfl, rfl, by decide +kernel, rfl, by decide +kernel, by decide +kernel⟩
theorem Same.new {H H' : Hp} {p : Addr} {o : HO} (a : Same H H') (h : H' p = none) : Same H (upd H' p o) := fun x u q => by
  have q' := a x u q
  rw [upd_ne (ne_of_none q' h)]; exact q'
theorem ok_check_text (T : TX K mg) (x_InvalidText : Ex1 P w K mg base "InvalidText" "place" (ga K "InvalidText")) {f : Addr} {fd : FuncData} (F : FnP K "check_text" s_check_text f fd) : FnOk P w K mg base (CX P w) 3 f fd ["text"] (spCheckText K) := by
  refine F.ok sc_check_text (fun vs H Q E h => ?_) (fun cdv A outer s H vs Q E hr h => ?_)
  · obtain ⟨a, rfl, _⟩ := h
    rfl
  · obtain ⟨a, rfl, kN, kE⟩ := h
    refine ⟨_, (pss_one (ps_for (passes_of rfl) rfl (pi_enumS (by rfl) T.b_enumerate (pa_cons (pv 0) pa_nil)) (pg_tup rfl (pgs_cons (pg_name (i := 1) sc_check_text.nd rfl (Or.inl rfl)) (pgs_cons (pg_name (i := 2) sc_check_text.nd rfl (Or.inl rfl)) pgs_nil))) (pss_one (ps_if (pt_cmpR op_notInS (pv 2) (pe_gS T.g_SIGNS rfl) rfl) (pss_one (ps_raise1 rfl (takes_of rfl rfl rfl rfl) x_InvalidText hr (by decide) rfl (pv 1))) pss_nil)))), ?_⟩
    refine ⟨_, rfl, _, rfl, for_it walk_enumS (fun i σ H' => ∃ u v, σ = [some (.str (S a)), u, v] ∧ Same H H' ∧ ∀ j c, j < i → a[j]? = some c → c ∈ sgn) ?_ (fun _ _ _ _ _ => trivial) ?_ ?_⟩
    · exact ⟨none, none, rfl, Same.refl H, fun j c h => absurd h (Nat.not_lt_zero _)⟩
    · rintro i x σ H1 H2 hi ⟨u, v, rfl, s1, ok⟩ ⟨tt, y, z, rfl, h1, rfl, e1, e2⟩
      cases Option.some.inj e1
      have hi' : i < a.length := by simpa [S] using hi
      have e3 : a[i]? = some a[i] := List.getElem?_eq_getElem hi'
      have e4 : z = .str (S [a[i]]) := by
        have q : ((S a).cps[i]?.map fun c => V.str ⟨#[c]⟩) = some z := e2
        have q2 : (S a).cps[i]? = some a[i] := by simpa [S] using e3
        rw [q2] at q
        exact (Option.some.inj q).symm
      subst e4
      have s2 : Same H (upd H1 tt (.tup [.int (i : Nat), .str (S [a[i]])])) := Same.new s1 h1
      refine ⟨tt, _, rfl, SqT.of upd_same, rfl, ?_⟩
      refine ⟨_, _, rfl, _, _, rfl, rfl, ?_⟩
      refine ⟨_, rfl, _, _, rfl, rfl, _, rfl, ?_⟩
      refine if2 (fun c => ?_) (fun c => ?_)
      · have hc : a[i] ∉ sgn := by simpa using c
        refine ⟨_, rfl, mk1_end fun d hd => ?_⟩
        refine kE i ?_ _ d s2 hd
        unfold badAt
        rw [List.findIdx?_eq_some_iff_getElem]
        refine ⟨hi', by simpa using hc, fun j hj => ?_⟩
        have := ok j a[j] hj (List.getElem?_eq_getElem (by omega))
        simpa using this
      · have hc : a[i] ∈ sgn := by simpa using c
        refine ⟨_, _, rfl, s2, fun j c hj e => ?_⟩
        by_cases hj' : j = i
        · subst hj'
          rw [e3] at e
          cases e
          exact hc
        · exact ok j c (by omega) e
    · rintro σ H1 ⟨u, v, rfl, s1, ok⟩
      refine kN ?_ H1 s1
      unfold badAt
      rw [List.findIdx?_eq_none_iff]
      intro c hc
      obtain ⟨j, hj, e⟩ := List.mem_iff_getElem.mp hc
      have := ok j c (by simpa [S] using hj) (by rw [List.getElem?_eq_getElem hj, e])
      simpa using this
def spCheckPlace (K : PySem.W.Frag) : Sp := fun vs H Q E => ∃ (a : List Nat) (i : Int), vs = [.str (S a), .int i] ∧ a.length ≤ 100000 ∧ (0 ≤ i ∧ i ≤ a.length → Q .non H) ∧ (¬ (0 ≤ i ∧ i ≤ a.length) → Rz (ga K "InvalidPlace") "place" (.int i) H E)
abbrev s_check_place : Stmt := top 12
theorem sc_check_place : FnScope ["text", "place"] ["text", "place"] (defScope s_check_place) := ⟨rfl, rfl, rfl, by decide +kernel, rfl, by decide +kernel, by decide +kernel⟩
theorem ok_check_place (T : TX K mg) (x_InvalidPlace : Ex1 P w K mg base "InvalidPlace" "place" (ga K "InvalidPlace")) {f : Addr} {fd : FuncData} (F : FnP K "check_place" s_check_place f fd) : FnOk P w K mg base (CX P w) 3 f fd ["text", "place"] (spCheckPlace K) := by
  refine F.ok sc_check_place (fun vs H Q E h => ?_) (fun cdv A outer s H vs Q E hr h => ?_)
  · obtain ⟨a, i, rfl, _⟩ := h
    rfl
  · obtain ⟨a, i, rfl, hl, kN, kE⟩ := h
    refine ⟨_, (pss_one (ps_if (PW.pt (pw_or (pt_cmpR op_lt (pv 1) pe_int (nomark _)) (pw_or1 (pt_cmpR op_gt (pv 1) (pe_callB call_lenS (by rfl) T.b_len PySem.boot_len (pa_cons (pv 0) pa_nil)) (nomark _))))) (pss_one (ps_raise1 rfl (takes_of rfl rfl rfl rfl) x_InvalidPlace hr (by decide) rfl (pv 1))) pss_nil)), ?_⟩
    refine ⟨_, rfl, _, _, rfl, rfl, _, rfl, ?_⟩
    refine if2 (fun c => ?_) (fun c => ?_)
    · have hc : i < 0 := of_decide_eq_true c
      refine ift rfl ?_
      exact ⟨_, rfl, mk1_end fun d hd => kE (by omega) _ d (Same.refl H) hd⟩
    · have hc : ¬ i < 0 := of_decide_eq_false c
      refine ⟨_, rfl, _, rfl, _, rfl, hl, _, _, rfl, rfl, _, rfl, ?_⟩
      refine if2 (fun c => ?_) (fun c => ?_)
      · have hc2 : (a.length : Int) < i := of_decide_eq_true c
        exact ⟨_, rfl, mk1_end fun d hd => kE (by omega) _ d (Same.refl H) hd⟩
      · have hc2 : ¬ (a.length : Int) < i := of_decide_eq_false c
        exact kN (by omega)
/-! ### the box -/
structure Box (H : Hp) (b l : Addr) : Prop where
  ne : b ≠ l
  ex : ∃ (cs : List Int) (x y : Int), H b = some (.lst [.ref l, .int x, .int y]) ∧ H l = some (.lst (cs.map V.int)) ∧ 0 ≤ x ∧ 0 ≤ y ∧ y < 2147483647
theorem Box.new {H : Hp} {b l p : Addr} {o : HO} (B : Box H b l) (h : H p = none) : Box (upd H p o) b l := by
  obtain ⟨ne, cs, x, y, h1, h2, r⟩ := B
  exact ⟨ne, cs, x, y, by rw [upd_ne (ne_of_none h1 h)]; exact h1, by rw [upd_ne (ne_of_none h2 h)]; exact h2, r⟩
theorem Box.mut {H : Hp} {b l p : Addr} {o : HO} (B : Box H b l) (h1 : p ≠ b) (h2 : p ≠ l) : Box (upd H p o) b l := by
  obtain ⟨ne, cs, x, y, e1, e2, r⟩ := B
  exact ⟨ne, cs, x, y, by rw [upd_ne h1.symm]; exact e1, by rw [upd_ne h2.symm]; exact e2, r⟩
theorem Box.same {H H' : Hp} {b l : Addr} (B : Box H b l) (k : Same H H') : Box H' b l := by
  obtain ⟨ne, cs, x, y, e1, e2, r⟩ := B
  exact ⟨ne, cs, x, y, k _ _ e1, k _ _ e2, r⟩
def spTake : Sp := fun vs H Q _ => ∃ (b l : Addr) (n : Int), vs = [.ref b, .int n] ∧ Box H b l ∧ 0 < n ∧ n ≤ 2 ^ 100 ∧ ∀ (H' : Hp) (r : Int), Kp [b, l] H H' → Box H' b l → 0 ≤ r → r < n → Q (.int r) H'
abbrev s_take : Stmt := top 16
theorem sc_take : FnScope ["_law_box_here", "_law_size", "_law_cell", "_law_digit"] ["_law_box_here", "_law_size"] (defScope s_take) := ⟨rfl, rfl, rfl, by decide +kernel, rfl, by decide +kernel, by decide +kernel⟩
theorem ok_take (T : TX K mg) {f : Addr} {fd : FuncData} (F : FnP K "_law_take" s_take f fd) : FnOk P w K mg base (CX P w) 1 f fd ["_law_box_here", "_law_size"] spTake := by
  refine F.ok sc_take (fun vs H Q E h => ?_) (fun cdv A outer s H vs Q E hr h => ?_)
  · obtain ⟨b, l, n, rfl, _⟩ := h
    rfl
  · obtain ⟨b, l, n, rfl, B, hn, hn2, k⟩ := h
    obtain ⟨ne, cs, x, y, hb, hl, hx, hy, hy2⟩ := B
    refine ⟨_, (C8.pss_cut (ps_if (PW.pt (pw_and (pt_cmpR op_eq (pe_ix ix_list (pv 0) pe_int (fun _ _ => rfl)) pe_int (nomark _)) (pw_and1 (pt_cmpR (op_neD hr.units) (pe_ix ix_list (pv 0) pe_int (fun _ _ => rfl)) (pe_lst pa_nil) (nomark _))))) (pss_cons (ps_set (i := 2) sc_take.nd rfl (Or.inl rfl) (pe_bm PySem.F.plainAttrs_list PySem.F.slot_list_pop PySem.F.type_list_pop mt_popAt (pe_ix ix_list (pv 0) pe_int (fun _ _ => rfl)) (pa_cons pe_int pa_nil))) (pss_one (ps_if (pt_cmpR op_ge (pv 2) (pe_op op_pow pe_int pe_int) (nomark _)) (pss_one (ps_asg (pe_op op_sub (pv 2) (pe_op op_pow pe_int pe_int)) (pg_sub (pv 0) pe_int set_list))) (pss_one (ps_asg (pe_op op_mod (pe_callTy call_int1 (by rfl) T.b_int (by decide +kernel) (pa_cons (pe_op op_add (pe_op op_mul (pe_ix ix_list (pv 0) pe_int (fun _ _ => rfl)) pe_int) (pe_op op_mul (pv 2) pe_int)) pa_nil)) pe_int) (pg_sub (pv 0) pe_int set_list)))))) pss_nil) (pss_cons (ps_if (pt_cmpR op_gt (pe_ix ix_list (pv 0) pe_int (fun _ _ => rfl)) pe_int (nomark _)) (pss_cons (ps_set (i := 3) sc_take.nd rfl (Or.inl rfl) (pe_op op_mod (pe_callTy call_int1 (by rfl) T.b_int (by decide +kernel) (pa_cons (pe_ix ix_list (pv 0) pe_int (fun _ _ => rfl)) pa_nil)) (pv 1))) (pss_cons (ps_asg (pe_op op_fdivW (pe_ix ix_list (pv 0) pe_int (fun _ _ => rfl)) (pv 1)) (pg_sub (pv 0) pe_int set_list)) (pss_one (ps_ret (pv 3))))) pss_nil) (pss_cons (ps_asg (pe_op op_mod (pe_callTy call_int1 (by rfl) T.b_int (by decide +kernel) (pa_cons (pe_op op_mul (pe_ix ix_list (pv 0) pe_int (fun _ _ => rfl)) pe_int) pa_nil)) pe_int) (pg_sub (pv 0) pe_int set_list)) (pss_one (ps_ret (pe_op op_mod (pe_callTy call_int1 (by rfl) T.b_int (by decide +kernel) (pa_cons (pe_op op_fdivW (pe_ix ix_list (pv 0) pe_int (fun _ _ => rfl)) pe_int) pa_nil)) (pv 1))))))), ?_⟩
    refine ⟨fun σ' H' => ∃ (u v : Option V) (cs : List Int) (x y : Int), σ' = [some (.ref b), some (.int n), u, v] ∧ Kp [b, l] H H' ∧ H' b = some (.lst [.ref l, .int x, .int y]) ∧ H' l = some (.lst (cs.map V.int)) ∧ 0 ≤ x ∧ 0 ≤ y ∧ y < 2147483647, ?_, ?_⟩
    · refine ⟨_, rfl, b, _, 1, _, rfl, rfl, SqL.of hb, rfl, rfl, _, rfl, ?_⟩
      refine if2 (fun c => ?_) (fun c => ?_)
      · rw [dI] at c
        have x0 : x = 0 := of_decide_eq_true c
        refine ⟨_, rfl, b, _, 0, _, rfl, rfl, SqL.of hb, rfl, Nat.zero_le _, fun p hp => ?_⟩
        have nl : l ≠ p := ne_of_none hl hp
        have nb : b ≠ p := ne_of_none hb hp
        cases cs with
        | nil =>
          refine ⟨_, _, .lst (SqL.of (by rw [upd_ne nl]; exact hl)) .nil, .lst (SqL.of upd_same) .nil, rfl, rfl, _, rfl, ?_⟩
          refine iff' (by rfl) ?_
          exact ⟨none, none, [], x, y, rfl, Kp.refl.new hp, by rw [upd_ne nb]; exact hb, by rw [upd_ne nl]; exact hl, hx, hy, hy2⟩
        | cons c0 cs =>
          refine ⟨_, _, .lst (SqL.of (by rw [upd_ne nl]; exact hl)) (dpInts (c0 :: cs)), .lst (SqL.of upd_same) .nil, shInts (c0 :: cs), rfl, _, rfl, ?_⟩
          refine ift (by rfl) ?_
          refine ⟨_, rfl, b, _, 0, _, rfl, rfl, SqL.of (by rw [upd_ne nb]; exact hb), rfl, tyL (by rw [upd_ne nl]; exact hl), ?_⟩
          refine ⟨l, _, 0, 0, .int c0, rfl, rfl, (by rw [upd_ne nl]; exact hl), by decide, by decide, six0 (by simp), rfl, ?_⟩
          have hb1 : upd (upd H p (.lst [])) l (.lst (cs.map V.int)) b = some (.lst [.ref l, .int x, .int y]) := by rw [upd_ne ne, upd_ne nb]; exact hb
          have hl1 : upd (upd H p (.lst [])) l (.lst (cs.map V.int)) l = some (.lst (cs.map V.int)) := upd_same
          have k1 : Kp [b, l] H (upd (upd H p (.lst [])) l (.lst (cs.map V.int))) := (Kp.refl.new hp).upd (by simp)
          refine ⟨_, rfl, 10, 18, rfl, rfl, ⟨by decide, by decide, by decide⟩, _, _, rfl, rfl, _, rfl, ?_⟩
          refine if2 (fun c => ?_) (fun c => ?_)
          · have hc : (10 : Int) ^ 18 ≤ c0 := of_decide_eq_true c
            refine ⟨_, rfl, 10, 18, rfl, rfl, ⟨by decide, by decide, by decide⟩, _, _, rfl, rfl, _, rfl, b, _, 1, 1, rfl, rfl, hb1, rfl, ?_⟩
            exact ⟨_, none, cs, _, y, rfl, k1.upd (by simp), upd_same, by rw [upd_ne ne.symm]; exact hl1, (show (0 : Int) ≤ c0 - 10 ^ 18 by omega), hy, hy2⟩
          · refine ⟨_, rfl, b, _, 2, _, rfl, rfl, SqL.of hb1, rfl, _, _, rfl, rfl, .inr ⟨by decide, by decide⟩, _, rfl, _, _, rfl, rfl, .inr ⟨by decide, by decide⟩, _, _, rfl, rfl, .inl ⟨_, rfl, _, _, rfl, rfl, (show (0 : Int) < 2147483647 by decide), _, rfl, b, _, 2, 2, rfl, rfl, hb1, rfl, ?_⟩⟩
            exact ⟨_, none, cs, x, _, rfl, k1.upd (by simp), upd_same, by rw [upd_ne ne.symm]; exact hl1, hx, Int.emod_nonneg _ (by decide), Int.emod_lt_of_pos _ (by decide)⟩
      · refine iff' rfl ?_
        exact ⟨none, none, cs, x, y, rfl, Kp.refl, hb, hl, hx, hy, hy2⟩
    · rintro σ' H' ⟨u, v, cs, x, y, rfl, kp, hb, hl, hx, hy, hy2⟩
      refine ⟨_, rfl, b, _, 1, _, rfl, rfl, SqL.of hb, rfl, _, _, rfl, rfl, _, rfl, ?_⟩
      refine if2 (fun c => ?_) (fun c => ?_)
      · have hc : (0 : Int) < x := of_decide_eq_true c
        refine ⟨_, rfl, b, _, 1, _, rfl, rfl, SqL.of hb, rfl, .inl ⟨_, rfl, _, rfl, _, _, rfl, rfl, hn, ?_⟩⟩
        refine ⟨_, rfl, b, _, 1, _, rfl, rfl, SqL.of hb, rfl, _, rfl, _, _, rfl, rfl, wide_div (b := 200) hn ?_ (by decide) (by decide), _, rfl, b, _, 1, 1, rfl, rfl, hb, rfl, _, rfl, ?_⟩
        · omega
        · exact k _ _ (kp.upd (by simp)) ⟨ne, cs, _, y, upd_same, by rw [upd_ne ne.symm]; exact hl, Int.ediv_nonneg hx (by omega), hy, hy2⟩ (Int.emod_nonneg _ (by omega)) (Int.emod_lt_of_pos _ hn)
      · refine ⟨_, rfl, b, _, 2, _, rfl, rfl, SqL.of hb, rfl, _, _, rfl, rfl, .inr ⟨by decide, by decide⟩, .inl ⟨_, rfl, _, _, rfl, rfl, (show (0 : Int) < 2147483647 by decide), _, rfl, b, _, 2, 2, rfl, rfl, hb, rfl, ?_⟩⟩
        refine ⟨_, rfl, b, _, 2, _, rfl, rfl, SqL.of upd_same, rfl, _, _, rfl, rfl, ⟨by decide, by decide⟩, .inl ⟨_, rfl, _, rfl, _, _, rfl, rfl, hn, ?_⟩⟩
        exact k _ _ (kp.upd (by simp)) ⟨ne, cs, x, _, upd_same, by rw [upd_ne ne.symm]; exact hl, hx, Int.emod_nonneg _ (by decide), Int.emod_lt_of_pos _ (by decide)⟩ (Int.emod_nonneg _ (by omega)) (Int.emod_lt_of_pos _ hn)
def spSigns : Sp := fun vs H Q _ => vs = [] ∧ Q (.str (S sgn)) H
abbrev s_signs : Stmt := top 14
theorem sc_signs : FnScope ["_law_signs_here"] [] (defScope s_signs) := ⟨rfl, rfl, rfl, by decide +kernel, rfl, by decide +kernel, by decide +kernel⟩
theorem ok_signs {f : Addr} {fd : FuncData} (F : FnP K "_law_signs" s_signs f fd) : FnOk P w K mg base (CX P w) 1 f fd [] spSigns := by
  refine F.ok sc_signs (fun vs H Q E h => ?_) (fun cdv A outer s H vs Q E hr h => ?_)
  · obtain ⟨rfl, _⟩ := h
    rfl
  · obtain ⟨rfl, k⟩ := h
    refine ⟨_, (pss_cons (ps_set (i := 0) sc_signs.nd rfl (Or.inl rfl) (pe_strS [10, 32, 33, 34, 35, 36, 38, 39, 40, 41, 42, 43, 44, 45, 46, 47, 48, 49, 50, 51, 52, 53, 54, 55, 56, 57, 58, 59, 60, 61, 62, 63, 64, 65, 66, 67, 68, 69, 70, 71, 72, 73, 74, 75, 76, 77, 78, 79, 80, 81, 82, 83, 84, 85, 86, 87, 88, 89, 90, 91, 92, 93, 94, 95, 96] (by decide +kernel))) (pss_one (ps_ret (pe_op op_addS (pv 0) (pe_strS [97, 98, 99, 100, 101, 102, 103, 104, 105, 106, 107, 108, 109, 110, 111, 112, 113, 114, 115, 116, 117, 118, 119, 120, 121, 122, 123, 124, 125, 126] (by decide +kernel)))))), ?_⟩
    exact ⟨_, rfl, _, _, rfl, rfl, by decide, k⟩
def spBox (K : PySem.W.Frag) : Sp := fun vs H Q _ => ∃ (a : Addr) (ns : List Int), vs = [.ref a] ∧ SqL K H a (ns.map V.int) ∧ ∀ H' b l, Same H H' → H b = none → H l = none → Box H' b l → Q (.ref b) H'
abbrev s_box : Stmt := top 15
theorem sc_box : FnScope ["_law_script"] ["_law_script"] (defScope s_box) := ⟨rfl, rfl, rfl, by decide +kernel, rfl, by decide +kernel, by decide +kernel⟩
theorem ok_box (T : TX K mg) {f : Addr} {fd : FuncData} (F : FnP K "_law_box" s_box f fd) : FnOk P w K mg base (CX P w) 1 f fd ["_law_script"] (spBox K) := by
  refine F.ok sc_box (fun vs H Q E h => ?_) (fun cdv A outer s H vs Q E hr h => ?_)
  · obtain ⟨a, ns, rfl, _⟩ := h
    rfl
  · obtain ⟨a, ns, rfl, hS, k⟩ := h
    refine ⟨_, (pss_one (ps_ret (pe_lst (pa_cons (pe_callTy call_list_of (by rfl) T.b_list (by decide +kernel) (pa_cons (pv 0) pa_nil)) (pa_cons pe_int (pa_cons pe_int pa_nil)))))), ?_⟩
    refine ⟨_, rfl, a, _, rfl, .inl hS, fun l hl => ⟨(show 3 ≤ sizeLine by decide), fun b hb => ?_⟩⟩
    have ne : l ≠ b := fun q => by rw [q, upd_same] at hb; cases hb
    have hb' : H b = none := by rw [upd_ne ne.symm] at hb; exact hb
    exact k _ b l (Same.new (Same.new (Same.refl H) hl) hb) hb' hl ⟨ne.symm, ns, 0, 0, upd_same, by rw [upd_ne ne]; exact upd_same, by decide, by decide, by decide⟩
def spText : Sp := fun vs H Q _ => ∃ (b l : Addr) (sg : List Nat) (m : Int), vs = [.ref b, .str (S sg), .int m] ∧ Box H b l ∧ 0 ≤ m ∧ m ≤ 1000 ∧ sg ≠ [] ∧ sg.length ≤ 1000 ∧ ∀ H' (t : List Nat), Kp [b, l] H H' → Box H' b l → (t.length : Int) ≤ m → (∀ c ∈ t, c ∈ sg) → Q (.str (S t)) H'
abbrev s_text : Stmt := top 17
theorem sc_text : FnScope ["_law_box_here", "_law_signs_here", "_law_most", "_law_size", "_law_k"] ["_law_box_here", "_law_signs_here", "_law_most"] (defScope s_text) := ⟨rfl, rfl, rfl, by decide +kernel, rfl, by decide +kernel, by decide +kernel⟩
theorem ok_text (T : TX K mg) (c__law_take : KCal P w K mg base 1 "_law_take" spTake []) {f : Addr} {fd : FuncData} (F : FnP K "_law_text" s_text f fd) : FnOk P w K mg base (CX P w) 2 f fd ["_law_box_here", "_law_signs_here", "_law_most"] spText := by
  refine F.ok sc_text (fun vs H Q E h => ?_) (fun cdv A outer s H vs Q E hr h => ?_)
  · obtain ⟨b, l, sg, m, rfl, _⟩ := h
    rfl
  · obtain ⟨b, l, sg, m, rfl, B, hm, hm2, hne, hsl, k⟩ := h
    refine ⟨_, (pss_cons (ps_set (i := 3) sc_text.nd rfl (Or.inl rfl) (kc c__law_take hr (by decide) rfl (pa_cons (pv 0) (pa_cons (pe_op op_add (pv 2) pe_int) pa_nil)))) (pss_one (ps_ret (pe_join0 (pe_strS [] (by decide +kernel)) (pe_lc (own := [("_law_k", 4)]) rfl sc_text.nd (pi_range1 (by rfl) T.b_range (pa_cons (pv 3) pa_nil)) (blkOk_by (own := [("_law_k", 4)]) (N := ["_law_box_here", "_law_signs_here", "_law_most", "_law_size", "_law_k"]) (sc := defScope s_text) (by decide +kernel)) (fun _ _ _ _ _ => (pg_name (i := 4) sc_text.nd rfl (Or.inl rfl))) (fun _ _ _ _ _ => pts_nil) (fun _ _ _ _ _ => (pe_ix ix_S (pv 1) (kc c__law_take hr (by decide) rfl (pa_cons (pv 0) (pa_cons (pe_callB call_lenS (by rfl) T.b_len PySem.boot_len (pa_cons (pv 1) pa_nil)) pa_nil))) (fun _ _ => rfl)))))))), ?_⟩
    refine ⟨_, rfl, _, rfl, _, _, rfl, rfl, b, l, m + 1, rfl, B, by omega, by omega, fun H1 r k1 B1 r0 r1 => ?_⟩
    refine ⟨⟨_, rfl⟩, _, rfl, r, rfl, by omega, by omega, fun D hD => ?_⟩
    have nDb : b ≠ D := fun q => by obtain ⟨_, _, _, _, hb, _⟩ := B1; rw [q, hD] at hb; cases hb
    have nDl : l ≠ D := fun q => by obtain ⟨_, _, _, _, _, hb, _⟩ := B1; rw [q, hD] at hb; cases hb
    refine lc_range (lo := 0) (n := r.toNat) (fun i H2 => ∃ ys : List (List Nat), H2 D = some (.lst (ys.map fun y => V.str (S y))) ∧ Kp [b, l] H1 H2 ∧ Box H2 b l ∧ ys.length = i ∧ ys.flatten.length = i ∧ ∀ c ∈ ys.flatten, c ∈ sg) ?_ ?_ ?_
    · refine ⟨[], upd_same, Kp.refl.new hD, B1.new hD, rfl, rfl, by simp⟩
    · rintro i H2 hi ⟨ys, hY, k2, B2, e1, e2, hc⟩
      refine ⟨rfl, ?_⟩
      refine ⟨_, rfl, _, rfl, _, rfl, _, rfl, by omega, b, l, (sg.length : Int), rfl, B2, ?_, by omega, fun H3 q k3 B3 q0 q1 => ?_⟩
      · have := List.length_pos_iff.mpr hne
        omega
      have hq : q.toNat < sg.length := by omega
      refine ⟨_, _, _, rfl, rfl, by omega, q0, List.getElem?_eq_getElem hq, ?_⟩
      have hD3 := k3 D _ (by simp [nDb.symm, nDl.symm]) hY
      refine ⟨_, hD3, ?_, ys ++ [[sg[q.toNat]]], ?_, (k2.trans k3).mut hD, B3.mut (nDb.symm) (nDl.symm), ?_, ?_, ?_⟩
      · rw [List.length_map]; exact ltSz (by omega)
      · rw [upd_same, List.map_append]; rfl
      · simp [e1]
      · simp [e2]
      · intro c hc'
        simp at hc'
        rcases hc' with ⟨y, hy, hy2⟩ | rfl
        · exact hc c (by simp; exact ⟨y, hy, hy2⟩)
        · exact List.getElem_mem hq
    · rintro H2 ⟨ys, hY, k2, B2, e1, e2, hc⟩
      refine ⟨_, _, rfl, rfl, SqL.of hY, by omega, ?_⟩
      exact k _ _ (k1.trans k2) B2 (by omega) hc
/-! ### the law's asking -/
structure TY (K : PySem.W.Frag) (mg : Str → Option Value) : Prop where
  gK : mg "KeyreelError" = some (.ref (ga K "KeyreelError"))
  tk : PySem.W.kitOne K (.ref (ga K "InvalidText")) (.ref (ga K "KeyreelError")) = some true
  tv : PySem.W.kitOne K (.ref (ga K "InvalidText")) (.type "ValueError") = some true
  tp : PySem.W.kitOne K (.ref (ga K "InvalidText")) (.ref (ga K "InvalidPlace")) = some false
  pk : PySem.W.kitOne K (.ref (ga K "InvalidPlace")) (.ref (ga K "KeyreelError")) = some true
  et : PySem.W.exmOne K (.ref (ga K "InvalidText")) (.ref (ga K "InvalidText")) = some true
  ep : PySem.W.exmOne K (.ref (ga K "InvalidPlace")) (.ref (ga K "InvalidPlace")) = some true
structure XK1 (mg : Str → Option Value) (x : Str) (C : Addr) : Prop where
  gC : mg x = some (.ref C)
def spTF : Sp := fun vs H Q _ => ∃ a : List Nat, vs = [.str (S a)] ∧ ∀ H', Same H H' → Q (.int (foi (badAt a))) H'
abbrev s_text_fault : Stmt := top 18
theorem sc_text_fault : FnScope ["_law_text_here", "e"] ["_law_text_here"] (defScope s_text_fault) := ⟨rfl, rfl, rfl, by decide +kernel, rfl, by decide +kernel, by decide +kernel⟩
theorem ok_text_fault (T : TX K mg) (Y : TY K mg) (x_InvalidText : Ex1 P w K mg base "InvalidText" "place" (ga K "InvalidText")) (x_InvalidPlace : Ex1 P w K mg base "InvalidPlace" "place" (ga K "InvalidPlace"))
    (c_check_text : KCal P w K mg base 3 "check_text" (spCheckText K) []) {f : Addr} {fd : FuncData} (F : FnP K "_law_text_fault" s_text_fault f fd) : FnOk P w K mg base (CX P w) 4 f fd ["_law_text_here"] spTF := by
  have x_KeyreelError : XK1 mg "KeyreelError" (ga K "KeyreelError") := ⟨Y.gK⟩
  refine F.ok sc_text_fault (fun vs H Q E h => ?_) (fun cdv A outer s H vs Q E hr h => ?_)
  · obtain ⟨a, rfl, _⟩ := h
    rfl
  · obtain ⟨a, rfl, k⟩ := h
    refine ⟨_, (pss_cons (ps_try_as (i := 1) (Wout := fun cls d _ H => E cls d H) rfl rfl sc_text_fault.nd rfl rfl ⟨rfl, by decide, Or.inl x_InvalidText.gC⟩ (takes_of rfl rfl rfl rfl) (fun W pn xe tk ps => (pss_one (ps_if (pt_cmpR op_notN (kx c_check_text tk hr (by decide) rfl (pa_cons (pv 0) pa_nil)) pe_non (nomark _)) (pss_one (ps_ret (pe_un un_neg pe_int))) pss_nil))) (fun a oe cls d pn hz hf => (pss_cons (ps_if (PW.pt (pw_or (pt_not (pt_val (pe_callB (call_isX hz hf) (by rfl) T.b_isinstance (by decide +kernel) (pa_cons (pv 1) (pa_cons (pe_gR x_KeyreelError.gC rfl) pa_nil))))) (pw_or (pt_not (pt_val (pe_callB (call_isX hz hf) (by rfl) T.b_isinstance (by decide +kernel) (pa_cons (pv 1) (pa_cons (pe_bT "ValueError" T.b_ValueError (by rfl) (by decide +kernel)) pa_nil))))) (pw_or1 (pt_val (pe_callB (call_isX hz hf) (by rfl) T.b_isinstance (by decide +kernel) (pa_cons (pv 1) (pa_cons (pe_gR x_InvalidPlace.gC rfl) pa_nil)))))))) (pss_one (ps_ret (pe_un un_neg pe_int))) pss_nil) (pss_one (ps_ret (pe_xf x_InvalidText.xf x_InvalidText.no hz hf (pv 1))))))) (pss_one (ps_ret (pe_un un_neg pe_int)))), ?_⟩
    refine ⟨_, rfl, a, rfl, fun hN H1 s1 => ?_, fun i hi H1 d s1 hd => ?_⟩
    · refine ⟨rfl, _, rfl, ?_⟩
      refine ⟨_, rfl, ?_⟩
      have := k H1 s1
      rw [hN] at this
      exact this
    · refine ⟨true, Y.et, fun _ a0 ha0 => ?_, fun q => Bool.noConfusion q⟩
      have k1 := k (upd H1 d (.xd [("place", .int (i : Nat))])) (Same.new s1 hd)
      rw [hi] at k1
      refine ⟨_, rfl, _, _, true, _, d, _, rfl, rfl, rfl, x_InvalidText.ec, upd_same, fun u h => h, Y.tk, _, rfl, ?_⟩
      refine ⟨_, rfl, _, _, true, _, d, _, rfl, rfl, rfl, x_InvalidText.ec, upd_same, fun u h => h, Y.tv, _, rfl, ?_⟩
      refine ⟨_, rfl, _, _, false, _, d, _, rfl, rfl, rfl, x_InvalidText.ec, upd_same, fun u h => h, Y.tp, _, rfl, ?_⟩
      exact ⟨_, rfl, rfl, rfl, d, _, _, rfl, upd_same, rfl, k1⟩
def spPF : Sp := fun vs H Q _ => ∃ (a : List Nat) (i : Int), vs = [.str (S a), .int i] ∧ a.length ≤ 100000 ∧ ∀ H', Same H H' → Q (.str (if 0 ≤ i ∧ i ≤ a.length then S [112, 97, 115, 115, 101, 100] else S [114, 97, 105, 115, 101, 100])) H'
abbrev s_place_fault : Stmt := top 19
theorem sc_place_fault : FnScope ["_law_text_here", "_law_place", "e"] ["_law_text_here", "_law_place"] (defScope s_place_fault) := ⟨rfl, rfl, rfl, by decide +kernel, rfl, by decide +kernel, by decide +kernel⟩
theorem ok_place_fault (T : TX K mg) (Y : TY K mg) (x_InvalidPlace : Ex1 P w K mg base "InvalidPlace" "place" (ga K "InvalidPlace"))
    (c_check_place : KCal P w K mg base 3 "check_place" (spCheckPlace K) []) {f : Addr} {fd : FuncData} (F : FnP K "_law_place_fault" s_place_fault f fd) : FnOk P w K mg base (CX P w) 4 f fd ["_law_text_here", "_law_place"] spPF := by
  have x_KeyreelError : XK1 mg "KeyreelError" (ga K "KeyreelError") := ⟨Y.gK⟩
  refine F.ok sc_place_fault (fun vs H Q E h => ?_) (fun cdv A outer s H vs Q E hr h => ?_)
  · obtain ⟨a, i, rfl, _⟩ := h
    rfl
  · obtain ⟨a, i, rfl, hl, k⟩ := h
    refine ⟨_, (pss_cons (ps_try_as (i := 2) (Wout := fun cls d _ H => E cls d H) rfl rfl sc_place_fault.nd rfl rfl ⟨rfl, by decide, Or.inl x_InvalidPlace.gC⟩ (takes_of rfl rfl rfl rfl) (fun W pn xe tk ps => (pss_one (ps_if (pt_cmpR op_notN (kx c_check_place tk hr (by decide) rfl (pa_cons (pv 0) (pa_cons (pv 1) pa_nil))) pe_non (nomark _)) (pss_one (ps_ret (pe_strS [110, 111, 32, 78, 111, 110, 101] (by decide +kernel)))) pss_nil))) (fun a oe cls d pn hz hf => (pss_cons (ps_if (PW.pt (pw_or (pt_not (pt_val (pe_callB (call_isX hz hf) (by rfl) T.b_isinstance (by decide +kernel) (pa_cons (pv 2) (pa_cons (pe_gR x_KeyreelError.gC rfl) pa_nil))))) (pw_or1 (pt_cmpR op_ne (pe_xf x_InvalidPlace.xf x_InvalidPlace.no hz hf (pv 2)) (pv 1) (nomark _))))) (pss_one (ps_ret (pe_strS [111, 116, 104, 101, 114, 32, 101, 114, 114, 111, 114] (by decide +kernel)))) pss_nil) (pss_one (ps_ret (pe_strS [114, 97, 105, 115, 101, 100] (by decide +kernel))))))) (pss_one (ps_ret (pe_strS [112, 97, 115, 115, 101, 100] (by decide +kernel))))), ?_⟩
    refine ⟨_, rfl, _, rfl, a, i, rfl, hl, fun hN => ?_, fun hi H1 d s1 hd => ?_⟩
    · refine ⟨rfl, _, rfl, ?_⟩
      have := k H (Same.refl H)
      rw [if_pos hN] at this
      exact this
    · refine ⟨true, Y.ep, fun _ a0 ha0 => ?_, fun q => Bool.noConfusion q⟩
      have k1 := k (upd H1 d (.xd [("place", .int i)])) (Same.new s1 hd)
      rw [if_neg hi] at k1
      refine ⟨_, rfl, _, _, true, _, d, _, rfl, rfl, rfl, x_InvalidPlace.ec, upd_same, fun u h => h, Y.pk, _, rfl, ?_⟩
      refine ⟨_, rfl, rfl, rfl, d, _, _, rfl, upd_same, rfl, _, rfl, rfl, _, rfl, ?_⟩
      refine iff' (by simp) ?_
      exact k1
theorem alnum_sgn : ∀ c ∈ sgn, Unicode.isAlnum c = decide (c ∈ wsg) := by decide +kernel
theorem bad_tab {t : List Nat} (h : ∀ c ∈ t, c ∈ sgn ∨ c = 9) : badAt t = fst? 9 t := by
  unfold badAt fst?
  induction t with
  | nil => rfl
  | cons c t ih =>
    rw [List.findIdx?_cons, List.findIdx?_cons, ih (fun d hd => h d (List.mem_cons_of_mem _ hd))]
    have e : (!decide (c ∈ sgn)) = (c == 9) := by
      rcases h c List.mem_cons_self with hc | hc
      · have n9 : c ≠ 9 := fun q => by rw [q] at hc; revert hc; decide +kernel
        simp [hc, n9]
      · subst hc
        decide +kernel
    rw [e]
def spLaw (K : PySem.W.Frag) : Sp := fun vs H Q _ => ∃ (a : Addr) (ns : List Int), vs = [.ref a] ∧ SqL K H a (ns.map V.int) ∧ ∀ H', Q (.bl true) H'
abbrev s_law : Stmt := top 20
theorem sc_law : FnScope ["_law_script", "_law_box_here", "_law_sign", "_law_told", "_law_text_here", "_law_k", "_law_place", "_law_due", "_law_at"] ["_law_script"] (defScope s_law) := ⟨rfl, rfl, rfl, by decide +kernel, rfl, by decide +kernel, by decide +kernel⟩
theorem ok_law (T : TX K mg) (c__law_box : KCal P w K mg base 1 "_law_box" (spBox K) []) (c__law_signs : KCal P w K mg base 1 "_law_signs" spSigns []) (c__law_take : KCal P w K mg base 1 "_law_take" spTake []) (c_is_word_sign : KCal P w K mg base 1 "is_word_sign" spIsWord [])
    (c__law_text : KCal P w K mg base 2 "_law_text" spText []) (c__law_text_fault : KCal P w K mg base 4 "_law_text_fault" spTF []) (c__law_place_fault : KCal P w K mg base 4 "_law_place_fault" spPF []) {f : Addr} {fd : FuncData} (F : FnP K "law" s_law f fd) : FnOk P w K mg base (CX P w) 5 f fd ["_law_script"] (spLaw K) := by
  refine F.ok sc_law (fun vs H Q E h => ?_) (fun cdv A outer s H vs Q E hr h => ?_)
  · obtain ⟨a, ns, rfl, _⟩ := h
    rfl
  · obtain ⟨a, ns, rfl, hS, k⟩ := h
    refine ⟨_, (pss_cons (ps_set (i := 1) sc_law.nd rfl (Or.inl rfl) (kc c__law_box hr (by decide) rfl (pa_cons (pv 0) pa_nil))) (pss_cons (ps_if (PW.pt (pw_or (pt_cmpR op_neS (pe_gS T.g_SIGNS rfl) (kc0 c__law_signs hr (by decide) rfl) (nomark _)) (pw_or1 (pt_cmpR op_ne (pe_callB call_lenS (by rfl) T.b_len PySem.boot_len (pa_cons (pe_gS T.g_SIGNS rfl) pa_nil)) pe_int (nomark _))))) (pss_one (ps_ret pe_bl)) pss_nil) (pss_cons (ps_set (i := 2) sc_law.nd rfl (Or.inl rfl) (pe_ix ix_S (kc0 c__law_signs hr (by decide) rfl) (kc c__law_take hr (by decide) rfl (pa_cons (pv 1) (pa_cons pe_int pa_nil))) (fun _ _ => rfl))) (pss_cons (ps_set (i := 3) sc_law.nd rfl (Or.inl rfl) (kc c_is_word_sign hr (by decide) rfl (pa_cons (pv 2) pa_nil))) (pss_cons (ps_if (PW.pt (pw_or (pt_not (pt_val (pe_callB call_isi (by rfl) T.b_isinstance (by decide +kernel) (pa_cons (pv 3) (pa_cons (pe_bT "bool" T.b_bool (by rfl) (by decide +kernel)) pa_nil))))) (pw_or1 (pt_cmpR op_ne (pv 3) (pe_m0 PySem.F.slot_str_isalnum PySem.F.type_str_isalnum mt_alnum1 (pv 2)) (nomark _))))) (pss_one (ps_ret pe_bl)) pss_nil) (pss_cons (ps_set (i := 4) sc_law.nd rfl (Or.inl rfl) (kc c__law_text hr (by decide) rfl (pa_cons (pv 1) (pa_cons (kc0 c__law_signs hr (by decide) rfl) (pa_cons pe_int pa_nil))))) (pss_cons (ps_for (passes_of rfl) rfl (pi_range1 (by rfl) T.b_range (pa_cons (pe_callB (call_min2 rfl) (by rfl) T.b_min (by decide +kernel) (pa_cons pe_int (pa_cons (kc c__law_take hr (by decide) rfl (pa_cons (pv 1) (pa_cons pe_int pa_nil))) pa_nil))) pa_nil)) (pg_name (i := 5) sc_law.nd rfl (Or.inl rfl)) (pss_cons (ps_set (i := 8) sc_law.nd rfl (Or.inl rfl) (kc c__law_take hr (by decide) rfl (pa_cons (pv 1) (pa_cons (pe_op op_add (pe_callB call_lenS (by rfl) T.b_len PySem.boot_len (pa_cons (pv 4) pa_nil)) pe_int) pa_nil)))) (pss_one (ps_set (i := 4) sc_law.nd rfl (Or.inl rfl) (pe_op op_addS (pe_op op_addS (pe_slice sl_S (pv 4) po_none (po_some (pv 8))) (pe_strS [9] (by decide +kernel))) (pe_slice sl_S (pv 4) (po_some (pv 8)) po_none)))))) (pss_cons (ps_if (pt_cmpR op_ne (kc c__law_text_fault hr (by decide) rfl (pa_cons (pv 4) pa_nil)) (pe_m1 PySem.F.slot_str_find PySem.F.type_str_find mt_find1 (pv 4) (pe_strS [9] (by decide +kernel))) (nomark _)) (pss_one (ps_ret pe_bl)) pss_nil) (pss_cons (ps_set (i := 6) sc_law.nd rfl (Or.inl rfl) (pe_op op_sub (kc c__law_take hr (by decide) rfl (pa_cons (pv 1) (pa_cons (pe_op op_add (pe_callB call_lenS (by rfl) T.b_len PySem.boot_len (pa_cons (pv 4) pa_nil)) pe_int) pa_nil))) pe_int)) (C8.pss_cut (ps_if (pt_cmpR op_gt (pv 6) (pe_op op_add (pe_callB call_lenS (by rfl) T.b_len PySem.boot_len (pa_cons (pv 4) pa_nil)) pe_int) (nomark _)) (pss_one (ps_set (i := 6) sc_law.nd rfl (Or.inl rfl) (pe_ix ix_list (pe_lst (pa_cons (pe_op op_sub (pe_un un_neg pe_int) (kc c__law_take hr (by decide) rfl (pa_cons (pv 1) (pa_cons (pe_op op_pow pe_int pe_int) pa_nil)))) (pa_cons (pe_op op_add (pe_op op_add (pe_callB call_lenS (by rfl) T.b_len PySem.boot_len (pa_cons (pv 4) pa_nil)) pe_int) (kc c__law_take hr (by decide) rfl (pa_cons (pv 1) (pa_cons (pe_op op_pow pe_int pe_int) pa_nil)))) pa_nil))) (pe_op op_mod (pv 6) pe_int) (fun _ _ => rfl)))) pss_nil) (pss_cons (ps_set (i := 7) sc_law.nd rfl (Or.inl rfl) (pe_strS [114, 97, 105, 115, 101, 100] (by decide +kernel))) (C8.pss_cut (ps_if (PW.pt (pw_and (pt_cmpR op_ge (pv 6) pe_int (nomark _)) (pw_and1 (pt_cmpR op_le (pv 6) (pe_callB call_lenS (by rfl) T.b_len PySem.boot_len (pa_cons (pv 4) pa_nil)) (nomark _))))) (pss_one (ps_set (i := 7) sc_law.nd rfl (Or.inl rfl) (pe_strS [112, 97, 115, 115, 101, 100] (by decide +kernel)))) pss_nil) (pss_one (ps_ret (pe_cmpR op_eqS (kc c__law_place_fault hr (by decide) rfl (pa_cons (pv 4) (pa_cons (pv 6) pa_nil))) (pv 7) (nomark _)))))))))))))))), ?_⟩
    refine ⟨_, rfl, a, ns, rfl, hS, fun H1 b l s1 hb hl B1 => ?_⟩
    refine ⟨rfl, _, _, rfl, rfl, _, rfl, ?_⟩
    refine iff' (by simp) ?_
    refine ⟨_, rfl, by decide, rfl, _, rfl, ?_⟩
    refine iff' (by rfl) ?_
    refine ⟨rfl, _, rfl, b, l, 95, rfl, B1, by decide, by decide, fun H2 r k2 B2 r0 r1 => ?_⟩
    have hr' : r.toNat < sgn.length := by show r.toNat < 95; omega
    have hc := List.getElem_mem hr'
    refine ⟨_, _, _, rfl, rfl, by decide, r0, List.getElem?_eq_getElem hr', ?_⟩
    generalize sgn[r.toNat] = c at hc ⊢
    refine ⟨_, rfl, c, rfl, ?_⟩
    refine ⟨_, rfl, _, _, _, _, true, rfl, .ty _, .base (.bl _), kit_ty (by decide +kernel), _, rfl, ?_⟩
    refine ⟨_, rfl, _, rfl, ⟨_, rfl⟩, c, rfl, rfl, rfl, _, rfl, ?_⟩
    refine iff' (by rw [dB, alnum_sgn c hc]; simp) ?_
    refine ⟨_, rfl, rfl, b, l, sgn, 40, rfl, B2, by decide, by decide, by decide, by decide, fun H3 t k3 B3 tl tc => ?_⟩
    refine ⟨_, rfl, b, l, 4, rfl, B3, by decide, by decide, fun H4 q k4 B4 q0 q1 => ?_⟩
    refine ⟨2, q, rfl, _, rfl, ?_, ?_, ?_⟩
    · split <;> omega
    · split <;> omega
    refine for_range (lo := 0) (n := _) (fun i σ H' => ∃ (t : List Nat) (u v : Option V), σ = [some (.ref a), some (.ref b), some (.str (S [c])), some (.bl (decide (c ∈ wsg))), some (.str (S t)), u, none, none, v] ∧ Box H' b l ∧ t.length ≤ 40 + i ∧ ∀ c ∈ t, c ∈ sgn ∨ c = 9) ?_ ?_ ?_
    · exact ⟨t, none, none, rfl, B4, by omega, fun c hc => .inl (tc c hc)⟩
    · rintro i σ H5 hi ⟨t, u, v, rfl, B5, ht, hc2⟩
      have hi2 : i < 2 := by
        have : (if q < 2 then q else 2).toNat ≤ 2 := by split <;> omega
        omega
      refine ⟨_, rfl, _, rfl, _, rfl, by omega, _, _, rfl, rfl, b, l, _, rfl, B5, by omega, by omega, fun H6 r k6 B6 r0 r1 => ?_⟩
      obtain ⟨r, rfl⟩ := Int.eq_ofNat_of_zero_le r0
      refine ⟨_, rfl, _, rfl, _, rfl, _, rfl, by omega, trivial, r0, ?_⟩
      rw [cutL_to]
      refine ⟨_, _, rfl, rfl, ?_, ?_⟩
      · simp; omega
      refine ⟨_, rfl, _, rfl, _, rfl, _, rfl, by omega, r0, trivial, ?_⟩
      rw [cutL_from]
      refine ⟨_, _, rfl, rfl, ?_, ?_⟩
      · simp; omega
      refine ⟨_, _, _, rfl, B6, ?_, ?_⟩
      · simp; omega
      · intro c hc
        simp at hc
        rcases hc with hc | rfl | hc
        · exact hc2 c (List.mem_of_mem_take hc)
        · exact .inr rfl
        · exact hc2 c (List.mem_of_mem_drop hc)
    · rintro σ H5 ⟨t, u, v, rfl, B5, ht, hc2⟩
      have ht2 : t.length ≤ 42 := by
        have : (if q < 2 then q else 2).toNat ≤ 2 := by split <;> omega
        omega
      refine ⟨_, rfl, t, rfl, fun H6 s6 => ?_⟩
      refine ⟨_, rfl, ⟨_, rfl⟩, t, 9, rfl, rfl, rfl, _, rfl, ?_⟩
      refine iff' (by rw [dI, bad_tab hc2]; simp) ?_
      have B6 := B5.same s6
      refine ⟨_, rfl, _, rfl, _, rfl, by omega, _, _, rfl, rfl, b, l, _, rfl, B6, by omega, by omega, fun H7 r k7 B7 r0 r1 => ?_⟩
      refine ⟨_, _, rfl, rfl, ?_⟩
      refine ⟨fun σ' H' => ∃ p : Int, σ' = [some (.ref a), some (.ref b), some (.str (S [c])), some (.bl (decide (c ∈ wsg))), some (.str (S t)), u, some (.int p), none, v], ?_, ?_⟩
      · refine ⟨_, rfl, _, rfl, _, rfl, by omega, _, _, rfl, rfl, _, _, rfl, rfl, _, rfl, ?_⟩
        refine if2 (fun c1 => ?_) (fun c1 => ?_)
        · refine ⟨4, rfl, _, rfl, 10, 20, rfl, rfl, ⟨by decide, by decide, by decide⟩, b, l, _, rfl, B7, by decide, by decide, fun H8 x k8 B8 x0 x1 => ?_⟩
          refine ⟨_, _, rfl, rfl, _, rfl, _, rfl, by omega, _, _, rfl, rfl, _, rfl, 10, 20, rfl, rfl, ⟨by decide, by decide, by decide⟩, b, l, _, rfl, B8, by decide, by decide, fun H9 y k9 B9 y0 y1 => ?_⟩
          refine ⟨_, _, rfl, rfl, (show 2 ≤ sizeLine by decide), fun p hp => ?_⟩
          refine ⟨_, rfl, _, _, rfl, rfl, (show (0 : Int) < 2 by decide), ?_⟩
          have h2 : (r - 3) % 2 = 0 ∨ (r - 3) % 2 = 1 := by omega
          rcases h2 with h2 | h2
          · refine ⟨p, _, (r - 3) % 2, .int (-4 - x), rfl, rfl, SqL.of upd_same, ?_, _, rfl⟩
            rw [h2]; rfl
          · refine ⟨p, _, (r - 3) % 2, .int ((t.length : Int) + 1 + y), rfl, rfl, SqL.of upd_same, ?_, _, rfl⟩
            rw [h2]; rfl
        · exact ⟨_, rfl⟩
      · rintro σ' H8 ⟨p, rfl⟩
        refine ⟨fun σ' H' => σ' = [some (.ref a), some (.ref b), some (.str (S [c])), some (.bl (decide (c ∈ wsg))), some (.str (S t)), u, some (.int p), some (.str (if 0 ≤ p ∧ p ≤ t.length then S [112, 97, 115, 115, 101, 100] else S [114, 97, 105, 115, 101, 100])), v], ?_, ?_⟩
        · refine ⟨_, rfl, _, _, rfl, rfl, _, rfl, ?_⟩
          refine if2 (fun c1 => ?_) (fun c1 => ?_)
          · have hc1 : 0 ≤ p := of_decide_eq_true c1
            refine ⟨_, rfl, _, rfl, _, rfl, by omega, _, _, rfl, rfl, _, rfl, ?_⟩
            refine if2 (fun c2 => ?_) (fun c2 => ?_)
            · have hc2 : p ≤ t.length := of_decide_eq_true c2
              show _ = _
              rw [if_pos ⟨hc1, hc2⟩]
              rfl
            · have hc2 : ¬ p ≤ t.length := of_decide_eq_false c2
              show _ = _
              rw [if_neg (fun z => hc2 z.2)]
              rfl
          · have hc1 : ¬ 0 ≤ p := of_decide_eq_false c1
            refine iff' rfl ?_
            show _ = _
            rw [if_neg (fun z => hc1 z.1)]
            rfl
        · rintro σ' H9 rfl
          refine ⟨_, rfl, _, rfl, t, p, rfl, by omega, fun H10 s10 => ?_⟩
          refine ⟨_, rfl, ?_⟩
          split
          · exact ⟨_, _, rfl, rfl, k H10⟩
          · exact ⟨_, _, rfl, rfl, k H10⟩
end
/-! ### the head -/
def dd (x : Str) (st : Stmt) : He.DefD := ⟨(x, none), x, x, defArgs st, defBody st, defScope st, [], []⟩
def dx (C q : Str) (st : Stmt) : He.DefD := ⟨(C, some "__init__"), "__init__", q, defArgs st, defBody st, defScope st, [], []⟩
def fn : List He.DefD := [dx "InvalidText" "InvalidText.__init__" s_InvalidText, dx "InvalidPlace" "InvalidPlace.__init__" s_InvalidPlace, dd "is_word_sign" s_is_word_sign, dd "check_text" s_check_text, dd "check_place" s_check_place, dd "_law_signs" s_signs, dd "_law_box" s_box, dd "_law_take" s_take, dd "_law_text" s_text, dd "_law_text_fault" s_text_fault, dd "_law_place_fault" s_place_fault, dd "law" s_law]
def fa : List He.Fa := [.glo "is_word_sign", .glo "check_text", .glo "check_place", .glo "_law_signs", .glo "_law_box", .glo "_law_take", .glo "_law_text", .glo "_law_text_fault", .glo "_law_place_fault", .glo "law", .glo "KeyreelError", .free "len", .free "int", .free "list", .free "range", .free "min", .free "enumerate", .free "isinstance", .free "bool", .free "ValueError", .str "SIGNS" (S sgn), .str "WORD_SIGNS" (S wsg), .exm "InvalidText" "InvalidText" true, .exm "InvalidPlace" "InvalidPlace" true]
def exq (K : PySem.W.Frag) : Bool := [He.ex1B K "InvalidText" "place", He.ex1B K "InvalidPlace" "place", He.kitB K "InvalidText" "KeyreelError" true, He.kitTB K "InvalidText" "ValueError" true, He.kitB K "InvalidText" "InvalidPlace" false, He.kitB K "InvalidPlace" "KeyreelError" true].all id
abbrev R : PySem.W.OpenRow := PySem.W.OpenLaw.row PySem.Challenge.rw_keyreel_k01_signs_and_checks
abbrev hk : PySem.W.Hook := He.hookX 5 fa fn [] [] exq
def ob (s : PySem.W.SharedT) : He.AlX := He.obsX 5 fa fn [] [] exq (HandSHeadRun.getT s)
theorem ob_eq (s : PySem.W.SharedT) : ob s = hk.obs s.abs := He.obsX_eq (HandSHeadRun.getT_eq s)
def loose0 : List Str := ["__name__", "KeyreelError", "InvalidText", "InvalidPlace", "DIGITS", "CAPITALS", "LETTERS", "WORD_SIGNS", "SIGNS", "is_word_sign", "check_text", "check_place", "_law_signs", "_law_box", "_law_take", "_law_text", "_law_text_fault", "_law_place_fault"]
def loose : List Str := loose0
theorem run (w : World) : HandSHeadRun.RunEq R (PySem.W.view R.prog [20]) hk ob 3000 loose w := by
  intro os
  kernel_rfl
theorem kcal {P : Program} {w : World} {K : PySem.W.Frag} {mg : Str → Option Value} {base : Heap} {k : Nat} {x : Str} {sp : Sp} {f : Addr} {fd : FuncData} {ps : List Str} (F : FnOk P w K mg base (CX P w) k f fd ps sp) (g : mg x = some (.ref f)) (kp : PySem.W.keepIn K (.ref f) = true) (b : Binds K fd ps []) : KCal P w K mg base k x sp [] := ⟨f, fd, ps, [], F, g, kp, b, .nil⟩
theorem facts {P : Program} {w : World} {K : PySem.W.Frag} {h : Heap} {mg : Str → Option Value} {f : Addr} (X : K.In h) (G : h.Ns mainGlobals mg) (hfa : mg ("law" : Str) = some (.ref f)) (c0 : He.SaysX fa fn [] [] exq w h K) :
    ∃ fd : FuncData, (∀ (s : Shared) (v : Value), BindsTo s fd ⟨[v], []⟩ [("_law_script", v)]) ∧ ∀ base : Heap, K.In base → base.Ns mainGlobals mg → FnOk P w K mg base CX0 5 f fd ["_law_script"] (spLaw K) := by
  have c : He.SaysD fa fn K := c0.t.d
  have more : ∀ i (b : Bool), [He.ex1B K "InvalidText" "place", He.ex1B K "InvalidPlace" "place", He.kitB K "InvalidText" "KeyreelError" true, He.kitTB K "InvalidText" "ValueError" true, He.kitB K "InvalidText" "InvalidPlace" false, He.kitB K "InvalidPlace" "KeyreelError" true][i]? = some b → b = true := fun i b hb => List.all_eq_true.mp c0.more b (List.mem_of_getElem? hb)
  have T : TX K mg := by
    refine { b_len := ?_, b_int := ?_, b_list := ?_, b_range := ?_, b_min := ?_, b_enumerate := ?_, b_isinstance := ?_, b_bool := ?_, b_ValueError := ?_, g_SIGNS := ?_, g_WORD_SIGNS := ?_ }
    · exact He.free_ok X G (c.fact 11 (f := .free "len") rfl)
    · exact He.free_ok X G (c.fact 12 (f := .free "int") rfl)
    · exact He.free_ok X G (c.fact 13 (f := .free "list") rfl)
    · exact He.free_ok X G (c.fact 14 (f := .free "range") rfl)
    · exact He.free_ok X G (c.fact 15 (f := .free "min") rfl)
    · exact He.free_ok X G (c.fact 16 (f := .free "enumerate") rfl)
    · exact He.free_ok X G (c.fact 17 (f := .free "isinstance") rfl)
    · exact He.free_ok X G (c.fact 18 (f := .free "bool") rfl)
    · exact He.free_ok X G (c.fact 19 (f := .free "ValueError") rfl)
    · exact He.str_ok X G (c.fact 20 (f := .str "SIGNS" (S sgn)) rfl)
    · exact He.str_ok X G (c.fact 21 (f := .str "WORD_SIGNS" (S wsg)) rfl)
  obtain ⟨fdx0, Fx0⟩ := c.def_ 0 (d := dx "InvalidText" "InvalidText.__init__" s_InvalidText) rfl
  have bx0 : Binds K fdx0 ["self", "place"] [] := FunD.bindsN (ps := ["self", "place"]) Fx0 fun _ _ _ _ _ _ us hl => match us, hl with | [_, _], _ => rfl
  obtain ⟨fdx1, Fx1⟩ := c.def_ 1 (d := dx "InvalidPlace" "InvalidPlace.__init__" s_InvalidPlace) rfl
  have bx1 : Binds K fdx1 ["self", "place"] [] := FunD.bindsN (ps := ["self", "place"]) Fx1 fun _ _ _ _ _ _ us hl => match us, hl with | [_, _], _ => rfl
  obtain ⟨fd0, F0⟩ := c.def_ 2 (d := dd "is_word_sign" s_is_word_sign) rfl
  have b0 : Binds K fd0 ["sign"] [] := FunD.bindsN (ps := ["sign"]) F0 fun _ _ _ _ _ _ us hl => match us, hl with | [_], _ => rfl
  obtain ⟨fd1, F1⟩ := c.def_ 3 (d := dd "check_text" s_check_text) rfl
  have b1 : Binds K fd1 ["text"] [] := FunD.bindsN (ps := ["text"]) F1 fun _ _ _ _ _ _ us hl => match us, hl with | [_], _ => rfl
  obtain ⟨fd2, F2⟩ := c.def_ 4 (d := dd "check_place" s_check_place) rfl
  have b2 : Binds K fd2 ["text", "place"] [] := FunD.bindsN (ps := ["text", "place"]) F2 fun _ _ _ _ _ _ us hl => match us, hl with | [_, _], _ => rfl
  obtain ⟨fd3, F3⟩ := c.def_ 5 (d := dd "_law_signs" s_signs) rfl
  have b3 : Binds K fd3 [] [] := FunD.bindsN (ps := []) F3 fun _ _ _ _ _ _ us hl => match us, hl with | [], _ => rfl
  obtain ⟨fd4, F4⟩ := c.def_ 6 (d := dd "_law_box" s_box) rfl
  have b4 : Binds K fd4 ["_law_script"] [] := FunD.bindsN (ps := ["_law_script"]) F4 fun _ _ _ _ _ _ us hl => match us, hl with | [_], _ => rfl
  obtain ⟨fd5, F5⟩ := c.def_ 7 (d := dd "_law_take" s_take) rfl
  have b5 : Binds K fd5 ["_law_box_here", "_law_size"] [] := FunD.bindsN (ps := ["_law_box_here", "_law_size"]) F5 fun _ _ _ _ _ _ us hl => match us, hl with | [_, _], _ => rfl
  obtain ⟨fd6, F6⟩ := c.def_ 8 (d := dd "_law_text" s_text) rfl
  have b6 : Binds K fd6 ["_law_box_here", "_law_signs_here", "_law_most"] [] := FunD.bindsN (ps := ["_law_box_here", "_law_signs_here", "_law_most"]) F6 fun _ _ _ _ _ _ us hl => match us, hl with | [_, _, _], _ => rfl
  obtain ⟨fd7, F7⟩ := c.def_ 9 (d := dd "_law_text_fault" s_text_fault) rfl
  have b7 : Binds K fd7 ["_law_text_here"] [] := FunD.bindsN (ps := ["_law_text_here"]) F7 fun _ _ _ _ _ _ us hl => match us, hl with | [_], _ => rfl
  obtain ⟨fd8, F8⟩ := c.def_ 10 (d := dd "_law_place_fault" s_place_fault) rfl
  have b8 : Binds K fd8 ["_law_text_here", "_law_place"] [] := FunD.bindsN (ps := ["_law_text_here", "_law_place"]) F8 fun _ _ _ _ _ _ us hl => match us, hl with | [_, _], _ => rfl
  obtain ⟨fd9, F9⟩ := c.def_ 11 (d := dd "law" s_law) rfl
  have b9 : Binds K fd9 ["_law_script"] [] := FunD.bindsN (ps := ["_law_script"]) F9 fun _ _ _ _ _ _ us hl => match us, hl with | [_], _ => rfl
  have e := hfa.symm.trans (He.glo_ok X G (c.fact 9 (f := .glo "law") rfl))
  cases e
  have bA := FunD.bindsA (ps := ["_law_script"]) F9 fun _ _ _ _ _ _ us hl => match us, hl with | [_], _ => rfl
  refine ⟨fd9, fun s v => bA s [v] rfl, fun base _ _ => ?_⟩
  have x_InvalidText : Ex1 P w K mg base "InvalidText" "place" (ga K "InvalidText") := He.ex1_ok X G (more 0 _ rfl) (ok_InvalidText (He.oexB_ok (He.ba (He.ba (more 0 _ rfl)).2).1) (He.eqO_ok (He.ba (He.ba (He.ba (He.ba (He.ba (more 0 _ rfl)).2).2).2).2).1) Fx0) bx0
  have x_InvalidPlace : Ex1 P w K mg base "InvalidPlace" "place" (ga K "InvalidPlace") := He.ex1_ok X G (more 1 _ rfl) (ok_InvalidPlace (He.oexB_ok (He.ba (He.ba (more 1 _ rfl)).2).1) (He.eqO_ok (He.ba (He.ba (He.ba (He.ba (He.ba (more 1 _ rfl)).2).2).2).2).1) Fx1) bx1
  have Y : TY K mg := ⟨He.glo_ok X G (c.fact 10 (f := .glo "KeyreelError") rfl), of_decide_eq_true (more 2 _ rfl), of_decide_eq_true (more 3 _ rfl), of_decide_eq_true (more 4 _ rfl), of_decide_eq_true (more 5 _ rfl), He.exm_ok (c.fact 22 (f := .exm "InvalidText" "InvalidText" true) rfl), He.exm_ok (c.fact 23 (f := .exm "InvalidPlace" "InvalidPlace" true) rfl)⟩
  have c_is_word_sign : KCal P w K mg base 1 "is_word_sign" spIsWord [] := kcal (ok_is_word_sign T F0) (He.glo_ok X G (c.fact 0 (f := .glo "is_word_sign") rfl)) F0.kp b0
  have c_check_text : KCal P w K mg base 3 "check_text" (spCheckText K) [] := kcal (ok_check_text T x_InvalidText F1) (He.glo_ok X G (c.fact 1 (f := .glo "check_text") rfl)) F1.kp b1
  have c_check_place : KCal P w K mg base 3 "check_place" (spCheckPlace K) [] := kcal (ok_check_place T x_InvalidPlace F2) (He.glo_ok X G (c.fact 2 (f := .glo "check_place") rfl)) F2.kp b2
  have c__law_signs : KCal P w K mg base 1 "_law_signs" spSigns [] := kcal (ok_signs F3) (He.glo_ok X G (c.fact 3 (f := .glo "_law_signs") rfl)) F3.kp b3
  have c__law_box : KCal P w K mg base 1 "_law_box" (spBox K) [] := kcal (ok_box T F4) (He.glo_ok X G (c.fact 4 (f := .glo "_law_box") rfl)) F4.kp b4
  have c__law_take : KCal P w K mg base 1 "_law_take" spTake [] := kcal (ok_take T F5) (He.glo_ok X G (c.fact 5 (f := .glo "_law_take") rfl)) F5.kp b5
  have c__law_text : KCal P w K mg base 2 "_law_text" spText [] := kcal (ok_text T c__law_take F6) (He.glo_ok X G (c.fact 6 (f := .glo "_law_text") rfl)) F6.kp b6
  have c__law_text_fault : KCal P w K mg base 4 "_law_text_fault" spTF [] := kcal (ok_text_fault T Y x_InvalidText x_InvalidPlace c_check_text F7) (He.glo_ok X G (c.fact 7 (f := .glo "_law_text_fault") rfl)) F7.kp b7
  have c__law_place_fault : KCal P w K mg base 4 "_law_place_fault" spPF [] := kcal (ok_place_fault T Y x_InvalidPlace c_check_place F8) (He.glo_ok X G (c.fact 8 (f := .glo "_law_place_fault") rfl)) F8.kp b8
  exact ok0 (ok_law T c__law_box c__law_signs c__law_take c_is_word_sign c__law_text c__law_text_fault c__law_place_fault F9) fun _ _ _ _ h => h
end Kr
open PySem PySem.W PySem.Calls PyProof.Rows
set_option maxRecDepth 100000 in
set_option maxHeartbeats 0 in
theorem PySem.Challenge.cw_keyreel_k01_signs_and_checks_holds : PySem.Challenge.rw_keyreel_k01_signs_and_checks.Holds := by
  w_on; o_law
  refine HandSHeadRun.head_any (r := OpenLaw.row PySem.Challenge.rw_keyreel_k01_signs_and_checks) (q := view (OpenLaw.row PySem.Challenge.rw_keyreel_k01_signs_and_checks).prog [20]) (H := Kr.hk) (ob := Kr.ob) (M := 3000) (loose := Kr.loose) (d := HandSHeadRun.topDef (OpenLaw.row PySem.Challenge.rw_keyreel_k01_signs_and_checks).prog 20) (kwd := []) Kr.ob_eq
    (by kernel_rfl) (fun s => by kernel_rfl) Kr.run (by kernel_rfl) (by kernel_rfl) (by kernel_rfl) (by rfl) (by first | assumption | decide +kernel) (by decide +kernel) ⟨rfl, rfl, rfl, rfl, rfl, by decide +kernel⟩ ?hw ?hc
  case hw => w_witness2
  case hc =>
    refine L2.walk_ofE (l := PySem.Challenge.rw_keyreel_k01_signs_and_checks) (n := 63) (k := 5) (x := "_law_script") (CX := L2.CX0) rfl (by decide) (by kernel_rfl) ⟨rfl, by decide, by decide⟩ ?F (fun _ _ _ _ z => z)
    intro w mg fa h Y G hmg0
    obtain ⟨K, KX, c⟩ := Y
    have hmg : mg ("law" : PySem.Str) = some (.ref fa) := by
      have e : (HandSHeadRun.topDef (OpenLaw.row PySem.Challenge.rw_keyreel_k01_signs_and_checks).prog 20).name = ("law" : PySem.Str) := by kernel_rfl
      rw [← e]
      exact hmg0
    obtain ⟨fd, hb, hF⟩ := Kr.facts (P := (PySem.Challenge.rw_keyreel_k01_signs_and_checks).prog) (w := w) KX G hmg c
    exact ⟨K, fd, Kr.spLaw K, KX, hb, fun H a ns hl _ hS => ⟨a, ns, rfl, hS, fun _ => rfl⟩, hF⟩
#print axioms PySem.Challenge.cw_keyreel_k01_signs_and_checks_holds
