import PyProof.Rows.All
import Wide.All
import OpenK.AllK
import Wide.FinOn
import HandS.ForMost
import HandS.ForExc
import HandS.Wide
import HandS.Flow
import HandS.Walk
import HandS.IsInst
import HandS.ExcInit
import HandS.ExcField
import HandS.ExcIs
import HandS.Defaults
import HandS.Codes
import HandS.CallSlots
import HandS.TryOnly
import HandS.Evl
import HandS.Property
import HandS.MakeKw
import HandS.MakeKwOnly
import HandS.Style
import HandS.Head0
import HandS.Head1
import HandS.Head2
import HandS.HeadEnd
import HandS.HeadHook1
import HandS.HeadHook2
import HandS.HeadHook3
import HandS.HeadHook4
import HandS.HeadWalk
import HandS.ClsMeth
import HandS.HeadNt
import HandS.TupAny
import HandS.RaiseMore
import KE.KCallOwn
import KE.GoesMore
import PyProof.P3Eq
import HandS.FStr
import KE.KxField
import HandS.ReplaceLit
import HandS.ReplaceDef
import HandS.ReplaceList
import PyProof.StrBlock2
import HandS.SlotsOwn
import HandS.TryMany
import PyProof.ListMulRight
import HandS.Star
import HandS.Small
import HandS.DictComp
import PySem.Challenge.RW_keyreel_k68_calls_are_expanded
set_option Elab.async false
set_option linter.all false
set_option maxRecDepth 100000
set_option maxHeartbeats 2000000
namespace L2
open PySem PySem.Spec PyProof.Rows
/-! ### enumerate(text) -/
def Ites (x : Str) : It := ⟨fun i _ => i < x.cps.size, fun i H v H' => ∃ T c, v = .ref T ∧ H T = none ∧ H' = upd H T (.tup [.int (i : Nat), .str ⟨#[c]⟩]) ∧ x.cps[i]? = some c, fun i _ => i = x.cps.size⟩
theorem turn_enumS {P : Program} {w : World} {K : PySem.W.Frag} {elts : List Expr} {kk : Nat} {tpos : Pos} (x : Str) (t : Tok) (ty : String) (hty : ty = "str_ascii_iterator" ∨ ty = "str_iterator") (e it : Addr) :
    Turn P w K (.Tuple elts kk tpos) (Ites x) [e, it] e (fun i h => (∃ old, IsEnum h e it ((i : Nat) : Int) old) ∧ h.IsStrIter it ty x t i ∧ e ≠ it) where
  mem := by simp
  obj := fun i h st b hb => by
    obtain ⟨⟨old, he⟩, ⟨o, ho, hc, hd⟩, _⟩ := st
    have e' : b = e ∨ b = it := by simpa using hb
    rcases e' with z | z
    · rw [z]; exact ⟨_, he, fun v q => nomatch q⟩
    · rw [z]; exact ⟨o, ho, fun v q => by rw [hd] at q; cases q⟩
  keep := fun i h h' st k => by
    obtain ⟨⟨old, he⟩, ⟨o, ho, r⟩, hne⟩ := st
    exact ⟨⟨old, k e (by simp) _ he⟩, ⟨o, k it (by simp) o ho, r⟩, hne⟩
  item := by
    intro X hP hw hK hc i pins s σ H E I hf st hg
    subst hP hw hK
    obtain ⟨⟨old, he⟩, hit, hne⟩ := st
    have D : Draws X.prog X.w X.A.in1 it [it] x.cps.size (fun i v => ∃ c u, x.cps[i]? = some c ∧ v = .str ⟨#[c]⟩ u) (fun i h => h.IsStrIter it ty x t i) := by
      rcases hty with e | e
      · rw [e]; exact Draws.strAscii (show X.A.in1.handled = none from I.ok.hd hc) it x t
      · rw [e]; exact Draws.strWide (show X.A.in1.handled = none from I.ok.hd hc) it x t
    have hel : e < s.heap.objs.size := Heap.lt_size he
    have hil : it < s.heap.objs.size := by obtain ⟨_, q, _⟩ := hit; exact Heap.lt_size q
    refine wpAny_pyNext_enum_itemD D he hit hg hne (by simpa using hne) fun v h' tk hv ho hit' hT hsz hk => ?_
    obtain ⟨c, u, hcx, rfl⟩ := hv
    refine ⟨_, rfl, wpAny_letOwnedTupleGo_enum (s := { s with heap := h', toks := tk + 1 }) ho fun h'' he' sb => ?_⟩
    have hT2 : h''.get? s.heap.objs.size = some { cls := .type "tuple", data := .seq #[.int i tk, .str ⟨#[c]⟩ u] } := (sb.2 _ (Nat.ne_of_gt hel)).trans hT
    have new : ObjOk X.prog X.w (upd H s.heap.objs.size (.tup [.int (i : Nat), .str ⟨#[c]⟩])) h'' s.heap.objs.size (.tup [.int (i : Nat), .str ⟨#[c]⟩]) :=
      ⟨by show 2 ≤ sizeLine; decide, [.int i tk, .str ⟨#[c]⟩ u], .cons ⟨_, rfl⟩ (.cons ⟨_, rfl⟩ .nil), ⟨_, hT2, rfl, _, rfl⟩⟩
    have I1 : Inv X pins σ (upd H s.heap.objs.size (.tup [.int (i : Nat), .str ⟨#[c]⟩])) { s with heap := h'', toks := tk + 1 } :=
      I.turnedNew (ch := [e, it]) (fun b ob hb q => (sb.2 b (fun z => hb (by simp [z]))).trans (hk b ob (fun z => hb (by simp [z])) (fun z => hb (by simp [z])) q)) hf (Nat.le_refl _) new
    refine ⟨.ref s.heap.objs.size, _, I1, rfl, ⟨_, c, rfl, I.hok.fresh (Nat.le_refl _), rfl, hcx⟩, ⟨⟨.str ⟨#[c]⟩ u, ?_⟩, ?_, hne⟩, fun b hb => ?_⟩
    · have e1 : ((i + 1 : Nat) : Int) = (i : Int) + 1 := by omega
      rw [e1]; exact he'
    · obtain ⟨o, q, r⟩ := hit'
      exact ⟨o, (sb.2 it (Ne.symm hne)).trans q, r⟩
    · have hb' : b < s.heap.objs.size := by
        have e' : b = e ∨ b = it := by simpa using hb
        rcases e' with z | z
        · rw [z]; exact hel
        · rw [z]; exact hil
      rw [upd_ne (Nat.ne_of_lt hb')]
      exact (hf b hb).1
  done := by
    intro X hP hw hK hc i pins s σ H E I hf st hg
    subst hP hw hK
    obtain ⟨⟨old, he⟩, hit, hne⟩ := st
    have D : Draws X.prog X.w X.A.in1 it [it] x.cps.size (fun i v => ∃ c u, x.cps[i]? = some c ∧ v = .str ⟨#[c]⟩ u) (fun i h => h.IsStrIter it ty x t i) := by
      rcases hty with e | e
      · rw [e]; exact Draws.strAscii (show X.A.in1.handled = none from I.ok.hd hc) it x t
      · rw [e]; exact Draws.strWide (show X.A.in1.handled = none from I.ok.hd hc) it x t
    obtain ⟨f0, f1, f2, f3, f4, f5⟩ := hf it (by simp)
    have hg' : i = x.cps.size := hg
    subst hg'
    exact wpAny_pyNext_enum_endD D he hit fun h' eb => ⟨rfl, I.turned (t' := s.toks) (fun b o hb q => eb b o hb q) f0 f1 f3 f4 f5⟩
  self := fun A i s Q E st h => let ⟨⟨_, he⟩, _⟩ := st; wpAny_pyIter_enum he h
def iEnumS (ta : TA) : TI := fun σ H R => ta σ H fun vs H1 => ∃ x, vs = [.str x] ∧ R (Ites x) H1
theorem strIter_cases (x : Str) : strIterType x = "str_ascii_iterator" ∨ strIterType x = "str_iterator" := by
  unfold strIterType
  split
  · exact .inl rfl
  · exact .inr rfl
theorem pi_enumS {X : Cx} {e : Expr} {ta : TA} {p pos tpos : Pos} {elts : List Expr} {kk : Nat} (hg : Gl X "enumerate") (hm : X.mg "enumerate" = none) (ha : PA X [e] ta) (hs : starEach [e] X.env = [(false, eval e X.env)] := by rfl) :
    PI X (.Tuple elts kk tpos) (.Call (.Name "enumerate" p) [e] [] pos) (iEnumS ta) := by
  refine ⟨fun pins s σ H R I h => ?_⟩
  refine Call_ (ld_blt I hg hm boot_enumerate (PyProof.Rows.callWith_type1 (thn (ha.run pos pins s σ H _ I h) fun us s1 ⟨vs, H1, I1, r1, q1⟩ => ?_) hs rfl))
  obtain ⟨x, ex, q⟩ := q1
  subst ex
  cases r1 with
  | cons r rr =>
    cases rr
    obtain ⟨t, rfl⟩ := r
    refine call_enumerate_str fun h' he hit hsz hk => wpAny_pyIter_enum he ?_
    have I2 : Inv X pins σ H1 { s1 with heap := h' } := I1.kept (t' := s1.toks) hk
    refine ⟨s1.heap.objs.size + 1, [s1.heap.objs.size + 1, s1.heap.objs.size], _, _, H1, rfl, I2, turn_enumS x t (strIterType x) (strIter_cases x) (s1.heap.objs.size + 1) s1.heap.objs.size, ⟨⟨.none, he⟩, hit, Nat.succ_ne_self _⟩, fun b hb => ?_, q⟩
    have e' : b = s1.heap.objs.size + 1 ∨ b = s1.heap.objs.size := by simpa using hb
    have hle : s1.heap.objs.size ≤ b := by
      rcases e' with z | z
      · rw [z]; exact Nat.le_add_right _ _
      · rw [z]; exact Nat.le_refl _
    exact I1.fpOk hle (I1.hok.fresh hle)
theorem walk_enumS {z : Str} : Walk (Ites z) z.cps.size (fun _ => True) (YPair (fun i => some (.int (i : Nat))) (fun i => z.cps[i]?.map fun c => V.str ⟨#[c]⟩)) := by
  refine ⟨fun _ _ hi _ => hi, fun _ _ => rfl, fun i H v H' _ _ y => ?_⟩
  obtain ⟨T, c, h1, h2, h3, h4⟩ := y
  exact ⟨T, _, _, h1, h2, h3, rfl, by show Option.map _ _ = _; rw [h4]; rfl⟩
end L2

/-! ### isinstance of a caught error that has a dict -/
namespace PySem.W
open PySem PySem.Spec PySem.Calls PyProof.Rows
section
variable {prog : Program} {w : World} {A : Around} {E : Value → Shared → Prop} {s : Shared} {K : Frag} {x D : Addr} {ox : Obj} {od : Option Obj}
theorem kr_findObj_data {C : Addr} {name : Str} {a g : Value} (hc : (clsIn K C).isSome = true) (ha : findIn K (.ref C) name = some (some a)) (hg : specialIn K a "__get__" = some (some g)) (ht : takesIn K a = some true) : findObj K C od name = some (.bind g a) := by
  obtain ⟨cd, hc⟩ := Option.isSome_iff_exists.mp hc
  unfold findObj
  rw [hc, Option.bind_some, ha, Option.bind_some]
  simp [hg, ht]
theorem kr_classE {Q : Option Value → Shared → Prop} (hga : findIn K (.ref D) "__getattribute__" = some (some (.builtin "BaseException.__getattribute__"))) (hgt : findIn K (.ref D) "__getattr__" = some none) (hsub : subIn K (.ref D) (.type "BaseException") = some true)
    (hdct : hasDictIn K D = true) (ha : findIn K (.ref D) "__class__" = some (some (.builtin "object.__class__")))
    (hn : specialIn K (.builtin "object.__class__") "__get__" = some (some (.builtin "getset_descriptor.__get__"))) (htk : takesIn K (.builtin "object.__class__") = some true) (hm : mroIn K D (.type "object") = some true)
    (X : K.In s.heap) (I : InstAt s.heap x ox D od) (h : Q (some (.ref D)) { s with toks := s.toks + 1 }) : wpAny (model prog w) A (getAttr? (.ref x) "__class__") Q E s := by
  have hf : findObj K D od "__class__" = some (.bind (.builtin "getset_descriptor.__get__") (.builtin "object.__class__")) := kr_findObj_data (by obtain ⟨cd, hc, _⟩ := any_some hdct; rw [hc]; rfl) ha hn htk
  obtain ⟨hp, g, d, t, os⟩ := s
  have L0 := I.type (M := model prog w)
  have L1 := looks_findIn (M := model prog w) X hga
  have L2 := looks_findIn (M := model prog w) X hgt
  have L3 := looks_find (M := model prog w) X I hf
  have sub : Looks (model prog w) hp (isInstance (.ref x) (.type "BaseException")) true := L0.andThen (looks_subIn X hsub)
  have hx0 : (false && onTheHeap (Value.builtin "BaseException.__getattribute__")) = false := rfl
  have hx2 : (Value.builtin "BaseException.__getattribute__" == Value.builtin "object.__getattribute__") = false := by decide +kernel
  have hx1 : (onTheHeap (Value.ref D) && Value.builtin "BaseException.__getattribute__" == Value.builtin "object.__getattribute__") = false := by rw [hx2]; rfl
  unfold getAttr? getAttrBy? getAttrBy
  refine wpAny_bind (wpAny_mkText (wpAny_bind (wpAny_attempt (wpAny_holding (wpAny_bind (L0.at (wpAny_bind (L1.at ?_))))))))
  show wpAny _ _ (if (onTheHeap (Value.ref D) && Value.builtin "BaseException.__getattribute__" == Value.builtin "object.__getattribute__") = true then _ else _) _ _ _
  rw [hx1, if_neg Bool.false_ne_true]
  unfold getAttrByItsOwn hookBefore
  refine wpAny_bind ?_
  rw [if_pos (show onTheHeap (Value.ref D) = true from rfl)]
  refine L2.at ?_
  refine wpAny_bind (wpAny_attempt (wpAny_holding ?_))
  unfold callGetattribute
  rw [hx0, if_neg Bool.false_ne_true]
  unfold boundAndCalled
  rw [PySem.F.excAttr_ValueError.ga.bind (.ref x)]
  refine wpAny_bind (wpAny_pure ?_)
  show wpAny _ _ (call (.builtin "BaseException.__getattribute__") [.ref x, .str "__class__" t]) _ _ _
  refine wpAny_call (codeAny_call_builtin PySem.F.excAttr_ValueError.ga.plain PySem.F.entry_bexc_ga ?_)
  refine @check_slot (model prog w) _ _ ⟨hp, g, d, t + 1, os⟩ "BaseException.__getattribute__" "BaseException" "__getattribute__" (.ref x) [.str "__class__" t] [] _ (by decide +kernel) (by decide +kernel) sub (PySem.F.args_bexc_ga (.ref x) (.str "__class__" t)) ?_
  unfold Builtin.«object.__getattribute__»
  refine wpAny_bind (wpAny_of_eq (a := ((Value.ref x : Value), [Value.str "__class__" t])) (by first | rfl | (simp only [slotArgs]; rfl)) ?_)
  refine wpAny_bind (wpAny_pure (wpAny_bind (L0.at (wpAny_bind (L3.at ?_)))))
  show wpAny _ _ (holding [Value.builtin "object.__class__"] (call (.builtin "getset_descriptor.__get__") [.builtin "object.__class__", .ref x, .ref D]) >>= ret) _ _ _
  refine wpAny_bind (wpAny_holding (wpAny_call (class_get (s := ⟨hp, g, d, t + 1, os⟩) (ox := ox) (od := od) X I hm ?_)))
  refine wpAny_pure ?_
  show wpAny _ _ (handedOut (.ref D)) _ _ _
  rw [handedOut_of (v := .ref D) rfl]
  first
    | exact wpAny_pure (wpAny_pure h)
    | exact wpAny_pure h
    | exact wpAny_pure (wpAny_bind (wpAny_pure (wpAny_pure h)))
theorem kr_kitx_exc (hga : findIn K (.ref D) "__getattribute__" = some (some (.builtin "BaseException.__getattribute__"))) (hgt : findIn K (.ref D) "__getattr__" = some none) (hsub : subIn K (.ref D) (.type "BaseException") = some true) (hdct : hasDictIn K D = true) (ha : findIn K (.ref D) "__class__" = some (some (.builtin "object.__class__")))
    (hn : specialIn K (.builtin "object.__class__") "__get__" = some (some (.builtin "getset_descriptor.__get__"))) (htk : takesIn K (.builtin "object.__class__") = some true) (hm : mroIn K D (.type "object") = some true) :
    KitX K (.ref x) (.ref D) (fun h => InstAt h x ox D od) where
  ty := fun _ _ _ I => I.type
  it := fun _ _ X _ => by
    obtain ⟨cdD, hcD, _⟩ := any_some hdct
    unfold clsIn at hcD
    split at hcD
    · rename_i c' d' cd' sl' ho
      intro A' Q' E' s' k q
      unfold isType loadHead
      exact wpAny_bind (wpAny_loadPart (k _ _ (X _ _ ho)) (wpAny_pure q))
    · cases hcD
  ne := fun h tp dd its n sl X htp => by
    obtain ⟨cdD, hcD, _⟩ := any_some hdct
    refine Bool.eq_false_iff.mpr fun q => ?_
    have e : D = tp := Value.ref.inj (beq_iff_eq.mp q)
    subst e
    unfold clsIn at hcD
    split at hcD
    · rename_i c' d' cd' sl' ho
      have z := (X _ _ ho).symm.trans htp
      cases z
    · cases hcD
  ca := fun X I k => kr_classE hga hgt hsub hdct ha hn htk hm X I k
end
end PySem.W
namespace L2
open PySem PySem.Spec PyProof.Rows
/-- isinstance(e, c), e the error that the suite holds (class at D, dict at dd) -/
def rIsX (K : PySem.W.Frag) (a : Addr) (cls : Value) (d : Option Addr) : List V → Hp → VK → Prop := fun xs H Q => ∃ (c : V) (cv : Value) (b : Bool) (D dd : Addr) (fs : List (Str × V)), xs = [.ref a, c] ∧ cls = .ref D ∧ d = some dd ∧ ExcC K D ∧ H dd = some (.xd fs) ∧ (∀ u, RelV c u → u = cv) ∧ PySem.W.kitOne K (.ref D) cv = some b ∧ Q (.bl b) H
theorem call_isX {X : Cx} {a : Addr} {cls : Value} {d : Option Addr} {oe : Obj} {pn : List (Addr × Obj)} (hz : Zc cls d oe) (hf : ∃ vs, oe.data = .fields vs) : CallR (X.suite a ((a, oe) :: pn)) (.builtin "isinstance") (rIsX X.K a cls d) := by
  intro pins s σ H xs us Q I r h
  obtain ⟨c, cv, b, D, dd, fs, rfl, rfl, rfl, C, hdd, hcv, e, q⟩ := h
  cases r with
  | cons rx rr =>
    cases rr with
    | cons rt rr =>
      cases rr
      cases rx
      have ec := hcv _ rt
      subst ec
      obtain ⟨hget, _⟩ := I.pin (a, oe) (List.mem_append.mpr (.inl List.mem_cons_self))
      obtain ⟨vs, hv⟩ := hf
      have hx : ObjOk X.prog X.w H s.heap dd (.xd fs) := I.hok dd _ hdd
      obtain ⟨mA, hns, hr⟩ := hx
      obtain ⟨od, ho, hl⟩ := lookIn_ns hns
      have J : PySem.W.InstAt s.heap a oe D (some od) := ⟨hget, hz.1, by unfold PySem.W.notCls; rw [hv] <;> rfl, by rw [hz.2]; exact ho⟩
      exact PySem.W.kia_one (PySem.W.kr_kitx_exc C.hg C.hk C.hs C.hd C.ha C.hn C.ht C.hm) I.kIn J e (fun z => nomatch z) fun tk => ⟨.bl b, H, I.kept (t' := tk) fun _ _ z => z, rfl, q⟩
/-! ### an own error with one field: raise X(e) -/
/-- what __init__(self, f): self.f = f promises -/
def spEx1 (C : Addr) (f : Str) : Sp := fun vs H Q _ => ∃ (a : Addr) (v : V), vs = [.ref a, v] ∧ H a = some (exo a C none) ∧ ∀ d, H d = none → d ≠ a → Q .non (upd (upd H d (exd d [(f, v)])) a (exo a C (some d)))
/-- what the class x says -/
structure Ex1 (P : Program) (w : World) (K : PySem.W.Frag) (mg : Str → Option Value) (base : Heap) (x f : Str) (C : Addr) : Prop where
  gC : mg x = some (.ref C)
  T : OexC K C
  no : PySem.W.findIn K (.ref C) f = some none
  xf : XfC K C
  ec : ExcC K C
  ini : ∃ (fI : Addr) (fd : FuncData), PySem.W.findIn K (.ref C) "__init__" = some (some (.ref fI)) ∧ PySem.W.typeIn K (.ref fI) = some (.type "function") ∧ FnOk P w K mg base (CX P w) 1 fI fd ["self", f] (spEx1 C f) ∧ Binds K fd ["self", f] []
theorem pmk1 {X : Cx} {x f : Str} {C : Addr} {e : Expr} {te : TE} {p pos : Pos} {k : Nat} (T : Ex1 X.prog X.w X.K X.mg X.base x f C) (hr : Room k X.A) (h2 : 2 ≤ k) (hg : Gl X x) (he : PE X e te)
    (hdb : (x == ("__debug__" : Str)) = false := by decide) (hs : starEach (e :: []) X.env = (false, eval e X.env) :: starEach [] X.env := by rfl) :
    PMk X (.Call (.Name x p) [e] [] pos) (tMkO C (spEx1 C f) [] (tCons te tNil)) := by
  obtain ⟨fI, fd, iC, tI, F1, b⟩ := T.ini
  have hx : Passes (CX X.prog X.w) X (fun _ _ _ => False) := passL
  exact pmk_oex (p := p) (pos := pos) T.T iC tI F1 (hr.mono (show 1 + 1 ≤ k from h2)) b .nil hx hg T.gC (pa_cons he pa_nil hs) hdb hs rfl
theorem ps_raise1 {X : Cx} {W : WX} {x f : Str} {C : Addr} {e : Expr} {te : TE} {p pos pos2 : Pos} {k : Nat} (hc : X.calm = true) (tk : Takes X W) (T : Ex1 X.prog X.w X.K X.mg X.base x f C) (hr : Room k X.A) (h2 : 2 ≤ k) (hg : Gl X x) (he : PE X e te)
    (hdb : (x == ("__debug__" : Str)) = false := by decide) (hs : starEach (e :: []) X.env = (false, eval e X.env) :: starEach [] X.env := by rfl) :
    PS X (.Raise (some (.Call (.Name x p) [e] [] pos)) none pos2) (fun _ σ H => tMkO C (spEx1 C f) [] (tCons te tNil) σ H fun cls d H' => W cls d σ H') := ps_raise hc tk (pmk1 T hr h2 hg he hdb hs)
/-- the end of raise X(v) -/
theorem mk1_end {C : Addr} {f : Str} {v : V} {H : Hp} {Q : XK} (h : ∀ d, H d = none → Q (.ref C) (some d) (upd H d (.xd [(f, v)]))) :
    [v].length ≤ 1000 ∧ ∀ a, H a = none → spEx1 C f (.ref a :: ([v] ++ [])) (upd H a (exo a C none))
      (fun u H2 => u = .non ∧ ∃ (d : Addr) (fs : List (Str × V)), H2 a = some (exo a C (some d)) ∧ H2 d = some (exd d fs) ∧ H d = none ∧ Q (.ref C) (some d) (upd (del H2 a) d (.xd fs))) (fun _ _ _ => False) := by
  refine ⟨by simp, fun a ha => ⟨a, v, rfl, upd_same, fun d hd hne => ⟨rfl, d, [(f, v)], upd_same, ?_, ?_, ?_⟩⟩⟩
  · rw [upd_ne hne, upd_same]
  · rw [upd_ne hne] at hd; exact hd
  · have hd' : H d = none := by rw [upd_ne hne] at hd; exact hd
    have e : upd (del (upd (upd (upd H a (exo a C none)) d (exd d [(f, v)])) a (exo a C (some d))) a) d (.xd [(f, v)]) = upd H d (.xd [(f, v)]) := by
      funext b
      by_cases hb : b = d
      · rw [hb, upd_same, upd_same]
      · rw [upd_ne hb, upd_ne hb]
        by_cases ha2 : b = a
        · rw [ha2, del_same, ha]
        · rw [del_ne ha2, upd_ne ha2, upd_ne hb, upd_ne ha2]
    rw [e]
    exact h d hd'
end L2

/-! ### calls of the text's own defs -/
namespace Kr
open PySem PySem.Spec PyProof.Rows L2
/-- the def x keeps the promise sp by at most level k; dvs: what its last parameters are by default -/
structure KCal (P : Program) (w : World) (K : PySem.W.Frag) (mg : Str → Option Value) (base : Heap) (k : Nat) (x : Str) (sp : Sp) (dvs : List V) : Prop where
  ex : ∃ (f : Addr) (fd : FuncData) (ps : List Str) (ds : List Value), FnOk P w K mg base (CX P w) k f fd ps sp ∧ mg x = some (.ref f) ∧ PySem.W.keepIn K (.ref f) = true ∧ Binds K fd ps ds ∧ Vals dvs ds
section
variable {X : Cx} {k j : Nat} {x : Str} {sp : Sp} {dvs : List V} {e : Expr} {es : List Expr} {t : TA} {p pos : Pos} {W : WX}
theorem kc (c : KCal X.prog X.w X.K X.mg X.base k x sp dvs) (hr : Room j X.A) (hk : k ≤ j) (hg : Gl X x) (ha : PA X (e :: es) t)
    (hdb : (x == ("__debug__" : Str)) = false := by decide) (he : starEach (e :: es) X.env = (false, eval e X.env) :: starEach es X.env := by rfl) (hpl : (backTo pos (starEach es X.env)).any (·.1) = false := by rfl) :
    PE X (.Call (.Name x p) (e :: es) [] pos) (tCall sp dvs E0 t) := by
  obtain ⟨f, fd, ps, ds, F, hm, kp, b, d⟩ := c.ex
  exact pe_call F (hr.mono hk) hg hm kp b d passL ha hdb he hpl
theorem kc0 (c : KCal X.prog X.w X.K X.mg X.base k x sp dvs) (hr : Room j X.A) (hk : k ≤ j) (hg : Gl X x)
    (hdb : (x == ("__debug__" : Str)) = false := by decide) :
    PE X (.Call (.Name x p) [] [] pos) (tCall sp dvs E0 tNil) := by
  obtain ⟨f, fd, ps, ds, F, hm, kp, b, d⟩ := c.ex
  exact pe_call0 F (hr.mono hk) hg hm kp b d passL hdb
theorem kx (c : KCal X.prog X.w X.K X.mg X.base k x sp dvs) (tk : Takes X W) (hr : Room j X.A) (hk : k ≤ j) (hg : Gl X x) (ha : PA X (e :: es) t)
    (hdb : (x == ("__debug__" : Str)) = false := by decide) (he : starEach (e :: es) X.env = (false, eval e X.env) :: starEach es X.env := by rfl) (hpl : (backTo pos (starEach es X.env)).any (·.1) = false := by rfl) :
    PE X (.Call (.Name x p) (e :: es) [] pos) (tCallSD sp dvs (WE W) t) := by
  obtain ⟨f, fd, ps, ds, F, hm, kp, b, d⟩ := c.ex
  exact pe_callSD F (hr.mono hk) hg hm kp b d (fun σ => passAt tk σ) ha hdb he hpl
end
/-! ### tests -/
theorem ift {c : Bool} {A B : Prop} (hc : c = true) (h : A) : if c = true then A else B := by rw [if_pos hc]; exact h
theorem iff' {c : Bool} {A B : Prop} (hc : c = false) (h : B) : if c = true then A else B := by rw [hc, if_neg Bool.false_ne_true]; exact h
theorem if2 {c : Bool} {A B : Prop} (h1 : c = true → A) (h2 : c = false → B) : if c = true then A else B := by
  cases c with
  | true => exact h1 rfl
  | false => exact h2 rfl
theorem dI (i j : Int) : decide (V.int i = V.int j) = decide (i = j) := by
  by_cases h : i = j
  · rw [h]; simp
  · rw [decide_eq_false h, decide_eq_false (fun q => h (V.int.inj q))]
theorem dS (i j : Str) : decide (V.str i = V.str j) = decide (i = j) := by
  by_cases h : i = j
  · rw [h]; simp
  · rw [decide_eq_false h, decide_eq_false (fun q => h (V.str.inj q))]
theorem dB (i j : Bool) : decide (V.bl i = V.bl j) = decide (i = j) := by
  cases i <;> cases j <;> rfl
/-! ### lists of ints -/
theorem tyL {K : PySem.W.Frag} {H : Hp} {p : Addr} {xs : List V} (h : H p = some (.lst xs)) : tyV K "list" (.ref p) H := Or.inl ⟨rfl, _, SqL.of h⟩
theorem six0 {n : Nat} (h : 0 < n) : seqIndex? 0 n = some 0 := by
  unfold seqIndex?
  simp [h]
theorem dpInts {K : PySem.W.Frag} {H : Hp} : ∀ cs : List Int, DpAll K H (cs.map V.int) (cs.map PyData.int)
  | [] => .nil
  | c :: cs => .cons (.int c) (dpInts cs)
theorem layInts : ∀ cs : List Int, PyData.canLayAll0 (cs.map PyData.int) = true
  | [] => rfl
  | c :: cs => by
    show (PyData.canLay0 (.int c) && PyData.canLayAll0 (cs.map PyData.int)) = true
    rw [layInts cs]; rfl
theorem depInts : ∀ cs : List Int, PyData.depthAll (cs.map PyData.int) = 0
  | [] => rfl
  | c :: cs => by
    show max (PyData.depth (.int c)) (PyData.depthAll (cs.map PyData.int)) = 0
    rw [depInts cs]; rfl
theorem shInts (cs : List Int) : SeqAt.shaped (.list (cs.map PyData.int)) = true := by
  unfold SeqAt.shaped
  rw [Bool.and_eq_true]
  refine ⟨layInts cs, decide_eq_true ?_⟩
  show PyData.depthAll (cs.map PyData.int) + 1 ≤ 64
  rw [depInts]; decide
/-! ### what stays of a heap -/
def Kp (S : List Addr) (H H' : Hp) : Prop := ∀ a o, a ∉ S → H a = some o → H' a = some o
theorem Kp.refl {S : List Addr} {H : Hp} : Kp S H H := fun _ _ _ h => h
theorem Kp.trans {S : List Addr} {H H1 H2 : Hp} (a : Kp S H H1) (b : Kp S H1 H2) : Kp S H H2 := fun x o hx h => b x o hx (a x o hx h)
theorem Kp.mono {S S' : List Addr} {H H' : Hp} (a : Kp S H H') (h : ∀ x ∈ S, x ∈ S') : Kp S' H H' := fun x o hx q => a x o (fun z => hx (h x z)) q
theorem Kp.upd {S : List Addr} {H H' : Hp} {p : Addr} {o : HO} (a : Kp S H H') (h : p ∈ S) : Kp S H (upd H' p o) := fun x u hx q => by
  have : x ≠ p := fun z => hx (z ▸ h)
  rw [upd_ne this]; exact a x u hx q
theorem Kp.new {S : List Addr} {H H' : Hp} {p : Addr} {o : HO} (a : Kp S H H') (h : H' p = none) : Kp S H (L2.upd H' p o) := fun x u hx q => by
  have q' := a x u hx q
  rw [upd_ne (ne_of_none q' h)]; exact q'
theorem Kp.mut {S : List Addr} {H H' : Hp} {p : Addr} {o : HO} (a : Kp S H H') (h : H p = none) : Kp S H (L2.upd H' p o) := fun x u hx q => by
  rw [upd_ne (ne_of_none q h)]; exact a x u hx q
theorem Kp.free {S : List Addr} {H H' : Hp} {p : Addr} (a : Kp S H H') (hp : p ∉ S) (h : H' p = none) : H p = none := by
  cases q : H p with
  | none => rfl
  | some o => rw [a p o hp q] at h; cases h
theorem Kp.same {H H' : Hp} (a : Kp [] H H') : Same H H' := fun x o h => a x o (by simp) h
theorem Kp.of_same {S : List Addr} {H H' : Hp} (a : Same H H') : Kp S H H' := fun x o _ h => a x o h
theorem Kp.seq {S : List Addr} {K : PySem.W.Frag} {H H' : Hp} {a : Addr} {xs : List V} (k : Kp S H H') (ha : a ∉ S) (h : SqL K H a xs) : SqL K H' a xs := by
  rcases h with h | h
  · rcases h with h | ⟨o, h⟩
    · exact .inl (.inl (k a _ ha h))
    · exact .inl (.inr ⟨o, k a _ ha h⟩)
  · exact .inr h
/-- a def that raises nothing of its own promise -/
theorem ok0 {P : Program} {w : World} {K : PySem.W.Frag} {mg : Str → Option Value} {base : Heap} {k : Nat} {f : Addr} {fd : FuncData} {ps : List Str} {sp : Sp} (F : FnOk P w K mg base (CX P w) k f fd ps sp) (hE : ∀ vs H Q E, sp vs H Q E → sp vs H Q E0) : FnOk P w K mg base CX0 k f fd ps sp := by
  refine ⟨F.len, fun A outer s H args us vs Q E hr h0 hb hv hs => ?_⟩
  refine codeAny_mono (F.run A outer s H args us vs Q E0 hr h0 hb hv (hE _ _ _ _ hs)) fun r s' hq => ?_
  cases r with
  | error er =>
    exfalso
    have q : CX P w outer H s E0 er s' := hq
    obtain ⟨_, _, _, _, _, _, _, _, _, _, _, _, z⟩ := q
    exact z
  | ok fl =>
    cases fl with
    | ret u => exact hq
    | next => exact hq
    | brk => exact hq
    | cont => exact hq
end Kr

set_option Elab.async false
set_option linter.all false
set_option maxRecDepth 100000
set_option maxHeartbeats 2000000
namespace He
open PySem PySem.Spec PyProof.Rows L2
/-! ### facts of own error classes -/
def excCB (K : PySem.W.Frag) (C : Addr) : Bool := match K.lookup C with
  | some ⟨.type "type", _, .cls cd, sl⟩ => (match cd.mro, sl.toList with
    | .ref C' :: bm, [_, _, _, _, some (.builtin n), _] => C' == C && n == "ValueError.__new__" && !cd.hasDel && cd.hasDict && PySem.HandSPX.refsVE bm
    | _, _ => false)
  | _ => false
theorem excCB_ok {K : PySem.W.Frag} {C : Addr} (q : excCB K C = true) : ∃ nm q N bs bm sn sub ab col dd k0 k1 k2 k3 k5, K.lookup C = some (excClassObj nm q C N bs bm true sn sub ab col dd k0 k1 k2 k3 k5 "ValueError.__new__") ∧ PySem.HandSPX.refsVE bm = true := by
  unfold excCB at q
  split at q
  · rename_i dd cd sl ho
    split at q
    · rename_i C' bm k0 k1 k2 k3 n k5 hm hs
      simp only [Bool.and_eq_true, beq_iff_eq, Bool.not_eq_true'] at q
      obtain ⟨⟨⟨⟨rfl, rfl⟩, hdel⟩, hdi⟩, ht⟩ := q
      obtain ⟨nm, bs, mro, ns, qn, hd, sn, sub, ab, col, del⟩ := cd
      dsimp only at hm hdel hdi
      subst hm hdel hdi
      have hsl : sl = #[k0, k1, k2, k3, some (.builtin "ValueError.__new__"), k5] := by
        obtain ⟨l⟩ := sl
        simp only at hs
        rw [hs]
      subst hsl
      exact ⟨nm, qn, ns, bs, bm, sn, sub, ab, col, dd, k0, k1, k2, k3, k5, ho, ht⟩
    · cases q
  · cases q
def oexB (K : PySem.W.Frag) (C : Addr) : Bool := excCB K C && (eqO (PySem.W.findIn K (.ref C) "__setattr__") (some (some (.builtin "object.__setattr__"))) && (decide (PySem.W.subIn K (.ref C) (.type "BaseException") = some true) && (decide (PySem.W.typeIn K (.ref C) = some (.type "type")) && PySem.W.keepIn K (.ref C))))
theorem oexB_ok {K : PySem.W.Frag} {C : Addr} (q : oexB K C = true) : OexC K C := by
  obtain ⟨c1, c⟩ := ba q
  obtain ⟨c2, c⟩ := ba c
  obtain ⟨c3, c⟩ := ba c
  obtain ⟨c4, c5⟩ := ba c
  exact ⟨excCB_ok c1, eqO_ok c2, of_decide_eq_true c3, of_decide_eq_true c4, c5⟩
def exqB (K : PySem.W.Frag) (D : Addr) : Bool := eqO (PySem.W.findIn K (.ref D) "__class__") (some (some (.builtin "object.__class__"))) && (eqO (PySem.W.specialIn K (.builtin "object.__class__") "__get__") (some (some (.builtin "getset_descriptor.__get__"))) && (decide (PySem.W.takesIn K (.builtin "object.__class__") = some true) && decide (PySem.W.mroIn K D (.type "object") = some true)))
theorem exqB_ok {K : PySem.W.Frag} {D : Addr} (x : XfC K D) (h : xfB K D = true) (q : exqB K D = true) : ExcC K D := by
  obtain ⟨c1, c⟩ := ba q
  obtain ⟨c2, c⟩ := ba c
  obtain ⟨c3, c4⟩ := ba c
  unfold xfB at h
  obtain ⟨d1, d⟩ := ba h
  obtain ⟨d2, d⟩ := ba d
  obtain ⟨d3, d4⟩ := ba d
  exact ⟨of_decide_eq_true d1, of_decide_eq_true d2, of_decide_eq_true d3, d4, eqO_ok c1, eqO_ok c2, of_decide_eq_true c3, of_decide_eq_true c4⟩
/-- an own error class x with the one field f -/
def ex1B (K : PySem.W.Frag) (x f : Str) : Bool := eqO (PySem.W.nsIn K mainGlobals x) (some (some (.ref (ga K x)))) && (oexB K (ga K x) && (xfB K (ga K x) && (exqB K (ga K x) && (eqO (PySem.W.findIn K (.ref (ga K x)) f) (some none) &&
  (eqO (PySem.W.findIn K (.ref (ga K x)) "__init__") (some (some (.ref (ma K (ga K x) "__init__")))) && decide (PySem.W.typeIn K (.ref (ma K (ga K x) "__init__")) = some (.type "function")))))))
theorem ex1_ok {P : Program} {w : World} {K : PySem.W.Frag} {mg : Str → Option Value} {base h : Heap} {x f : Str} (X : K.In h) (G : h.Ns mainGlobals mg) (q : ex1B K x f = true) {fd : FuncData}
    (F : FnOk P w K mg base (CX P w) 1 (ma K (ga K x) "__init__") fd ["self", f] (spEx1 (ga K x) f)) (b : Binds K fd ["self", f] []) : Ex1 P w K mg base x f (ga K x) := by
  obtain ⟨c1, c⟩ := ba q
  obtain ⟨c2, c⟩ := ba c
  obtain ⟨c3, c⟩ := ba c
  obtain ⟨c4, c⟩ := ba c
  obtain ⟨c5, c⟩ := ba c
  obtain ⟨c6, c7⟩ := ba c
  exact ⟨PySem.W.mg_of X G (eqO_ok c1), oexB_ok c2, eqO_ok c5, xfB_ok c3, exqB_ok (xfB_ok c3) c3 c4, _, fd, eqO_ok c6, of_decide_eq_true c7, F, b⟩
/-- isinstance of an error of class x: of class y; of the built-in class t -/
def kitB (K : PySem.W.Frag) (x y : Str) (b : Bool) : Bool := decide (PySem.W.kitOne K (.ref (ga K x)) (.ref (ga K y)) = some b)
def kitTB (K : PySem.W.Frag) (x : Str) (t : String) (b : Bool) : Bool := decide (PySem.W.kitOne K (.ref (ga K x)) (.type t) = some b)
end He

set_option Elab.async false
set_option linter.all false
set_option maxRecDepth 100000
set_option maxHeartbeats 2000000
namespace Kr
open PySem PySem.Spec PyProof.Rows L2
open SX (S)
/-! ### texts as lists of code points -/
def cutN (n : Nat) (d : Nat) : Option Int → Nat
  | none => d
  | some i => min i.toNat n
/-- a[lo:hi] of a list, both ends not below nought -/
def cutL {α : Type} (a : List α) (lo hi : Option Int) : List α := (a.drop (cutN a.length 0 lo)).take (cutN a.length a.length hi - cutN a.length 0 lo)
def nn : Option Int → Prop
  | none => True
  | some i => 0 ≤ i
theorem sIx_nn {n d : Nat} {o : Option Int} (h : nn o) : HT.sIx n d o = cutN n d o := by
  cases o with
  | none => rfl
  | some i =>
    have h0 : (0 : Int) ≤ i := h
    obtain ⟨k, rfl⟩ := Int.eq_ofNat_of_zero_le h0
    simp [HT.sIx, cutN]
    omega
theorem cutS_S {a : List Nat} {lo hi : Option Int} (h1 : nn lo) (h2 : nn hi) : cutS (S a) lo hi = S (cutL a lo hi) := by
  unfold cutS cutL
  have e : (S a).length = a.length := SX.S_len a
  rw [e, sIx_nn h1, sIx_nn h2]
theorem cutV_L {a : List V} {lo hi : Option Int} (h1 : nn lo) (h2 : nn hi) : cutV a lo hi = cutL a lo hi := by
  unfold cutV cutL
  rw [sIx_nn h1, sIx_nn h2]
theorem cutL_to {α : Type} (a : List α) (i : Nat) : cutL a none (some (i : Int)) = a.take i := by
  simp [cutL, cutN]
theorem cutL_from {α : Type} (a : List α) (i : Nat) : cutL a (some (i : Int)) none = a.drop i := by
  simp [cutL, cutN]
  by_cases h : i ≤ a.length
  · rw [Nat.min_eq_left h, List.take_of_length_le (by simp)]
  · rw [Nat.min_eq_right (by omega), List.drop_of_length_le (by omega), List.drop_of_length_le (by omega)]; simp
theorem cutL_mid {α : Type} (a : List α) (i j : Nat) : cutL a (some (i : Int)) (some (j : Int)) = (a.take j).drop i := by
  simp [cutL, cutN]
  apply List.ext_getElem?
  intro k
  simp [List.getElem?_take, List.getElem?_drop]
  grind
/-! ### rules over them -/
section
variable {X : Cx}
theorem opImp {f : Value → Value → Sem Value} {r r' : R2} (h : OpR X f r) (i : ∀ x y H Q, r' x y H Q → r x y H Q) : OpR X f r' := fun pins s σ H x y v u Q I rx ry q => h pins s σ H x y v u Q I rx ry (i x y H Q q)
theorem callImp {f : Value} {r r' : List V → Hp → VK → Prop} (h : CallR X f r) (i : ∀ xs H Q, r' xs H Q → r xs H Q) : CallR X f r' := fun pins s σ H xs us Q I rx q => h pins s σ H xs us Q I rx (i xs H Q q)
theorem ixImp {r r' : R2} (h : IxR X r) (i : ∀ x y H Q, r' x y H Q → r x y H Q) : IxR X r' := fun a b pins s σ H x y v u Q I rx ry q e => h a b pins s σ H x y v u Q I rx ry (i x y H Q q) e
theorem slImp {r r' : V → Option Int → Option Int → Hp → VK → Prop} (h : L2.SlR X r) (i : ∀ x lo hi H Q, r' x lo hi H Q → r x lo hi H Q) : L2.SlR X r' := fun pins s σ H x v vl vu lo hi sl Q I rx hs pl pu q => h pins s σ H x v vl vu lo hi sl Q I rx hs pl pu (i x lo hi H Q q)
theorem mtImp {id : String} {r r' : V → List V → Hp → VK → Prop} (h : MtR X id r) (i : ∀ x xs H Q, r' x xs H Q → r x xs H Q) : MtR X id r' := fun pins s σ H x xs v us Q I rx rs q => h pins s σ H x xs v us Q I rx rs (i x xs H Q q)
theorem leSz {n : Nat} (h : n ≤ 100000) : n ≤ sizeLine := Nat.le_trans h (by decide)
theorem ltSz {n : Nat} (h : n < 100000) : n < sizeLine := Nat.lt_of_lt_of_le h (by decide)
def rAddS : R2 := fun x y H Q => ∃ a b : List Nat, x = .str (S a) ∧ y = .str (S b) ∧ a.length + b.length ≤ 100000 ∧ Q (.str (S (a ++ b))) H
theorem op_addS : OpR X (binaryOp .Add) rAddS := opImp op_add_str fun x y H Q ⟨a, b, h1, h2, h3, q⟩ => ⟨S a, S b, h1, h2, by rw [SX.S_len, SX.S_len]; exact leSz h3, by rw [SX.S_cat]; exact q⟩
def rIxT' : R2 := fun x y H Q => ∃ (a : List Nat) (i : Int) (c : Nat), x = .str (S a) ∧ y = .int i ∧ a.length ≤ 100000 ∧ 0 ≤ i ∧ a[i.toNat]? = some c ∧ Q (.str (S [c])) H
theorem atI_pos {α : Type} {a : List α} {i : Int} {c : α} (h0 : 0 ≤ i) (h : a[i.toNat]? = some c) : atI a i = some c := by
  obtain ⟨k, rfl⟩ := Int.eq_ofNat_of_zero_le h0
  exact atI_nat h
theorem ix_S : IxR X rIxT' := ixImp ix_str fun x y H Q ⟨a, i, c, h1, h2, h3, h4, h5, q⟩ => ⟨S a, i, c, h1, h2, by rw [SX.S_len]; exact leSz h3, atI_pos h4 h5, q⟩
def rSlS' : V → Option Int → Option Int → Hp → VK → Prop := fun x lo hi H Q => ∃ a : List Nat, x = .str (S a) ∧ a.length ≤ 100000 ∧ nn lo ∧ nn hi ∧ Q (.str (S (cutL a lo hi))) H
theorem sl_S : L2.SlR X rSlS' := slImp sl_str fun x lo hi H Q ⟨a, h1, h2, h3, h4, q⟩ => ⟨S a, h1, by rw [SX.S_len]; exact leSz h2, by rw [cutS_S h3 h4]; exact q⟩
def rLenS : List V → Hp → VK → Prop := fun xs H Q => ∃ a : List Nat, xs = [.str (S a)] ∧ a.length ≤ 100000 ∧ Q (.int (a.length : Int)) H
theorem call_lenS : CallR X (.builtin "len") rLenS := callImp call_len_str fun xs H Q ⟨a, h1, h2, q⟩ => ⟨S a, h1, by rw [SX.S_len]; exact leSz h2, by rw [SX.S_len]; exact q⟩
theorem pe_strS {x : Str} {j : Nat} {pos : Pos} (l : List Nat) (h : x = S l) : PE X (.Constant (.str x) j pos) (tC (.str (S l))) := by
  rw [h]; exact pe_str
def rInS (neg : Bool) : R2 := fun x y H Q => ∃ (c : Nat) (a : List Nat), x = .str (S [c]) ∧ y = .str (S a) ∧ Q (.bl (if neg then !decide (c ∈ a) else decide (c ∈ a))) H
theorem op_inS : OpR X (compareOp .In) (rInS false) := opImp op_in_sign fun x y H Q ⟨c, a, h1, h2, q⟩ => ⟨c, S a, h1, h2, q⟩
theorem op_notInS : OpR X (compareOp .NotIn) (rInS true) := opImp op_notIn_sign fun x y H Q ⟨c, a, h1, h2, q⟩ => ⟨c, S a, h1, h2, q⟩
def rEqS (neg : Bool) : R2 := fun x y H Q => ∃ a b : List Nat, x = .str (S a) ∧ y = .str (S b) ∧ Q (.bl (if neg then !decide (a = b) else decide (a = b))) H
theorem dSS (a b : List Nat) : decide (V.str (S a) = V.str (S b)) = decide (a = b) := by
  by_cases h : a = b
  · rw [h]; simp
  · rw [decide_eq_false h, decide_eq_false (fun q => h (SX.S_inj (V.str.inj q)))]
theorem op_eqS : OpR X (compareOp .Eq) (rEqS false) := opImp op_eq fun x y H Q ⟨a, b, h1, h2, q⟩ => by
  subst h1 h2
  refine ⟨rfl, ?_⟩
  rw [dSS]; exact q
theorem op_neS : OpR X (compareOp .NotEq) (rEqS true) := opImp op_ne fun x y H Q ⟨a, b, h1, h2, q⟩ => by
  subst h1 h2
  refine ⟨rfl, ?_⟩
  rw [dSS]; exact q
theorem ix_listK {K : PySem.W.Frag} (h : X.K = K) : IxR X (rIxL K) := by
  subst h
  exact ix_list
theorem pe_gS {x : Str} {a : List Nat} {pos : Pos} (h : ∃ t, X.mg x = some (.str (S a) t)) (hg : Gl X x) (hd : (x == ("__debug__" : Str)) = false := by decide) : PE X (.Name x pos) (tC (.str (S a))) := by
  obtain ⟨t, h⟩ := h
  exact pe_glob hg h ⟨t, rfl⟩ hd
theorem pe_gI {x : Str} {i : Int} {pos : Pos} (h : ∃ t, X.mg x = some (.int i t)) (hg : Gl X x) (hd : (x == ("__debug__" : Str)) = false := by decide) : PE X (.Name x pos) (tC (.int i)) := by
  obtain ⟨t, h⟩ := h
  exact pe_glob hg h ⟨t, rfl⟩ hd
theorem pe_gR {x : Str} {C : Addr} {pos : Pos} (h : X.mg x = some (.ref C)) (hg : Gl X x) (hd : (x == ("__debug__" : Str)) = false := by decide) : PE X (.Name x pos) (tC (.ref C)) := pe_glob hg h rfl hd
theorem pe_bT {x : Str} (n : String) {pos : Pos} (hm : X.mg x = none) (hg : Gl X x) (hv : bootBuiltins x = some (.type n)) (h1 : x ≠ "__name__" := by decide) (hd : (x == ("__debug__" : Str)) = false := by decide) : PE X (.Name x pos) (tC (.ty n)) := pe_bltn hg hm hv rfl h1 hd
/-! join, find -/
theorem joinL_nil : ∀ ys : List (List Nat), TL.joinL [] ys = ys.flatten
  | [] => rfl
  | [p] => by simp [TL.joinL]
  | p :: q :: r => by
    show p ++ ([] ++ TL.joinL [] (q :: r)) = _
    rw [joinL_nil (q :: r)]; rfl
theorem join0 (ys : List (List Nat)) : Txt.join (S []) (ys.map S) = S ys.flatten := by rw [SX.join_S, joinL_nil]
theorem sum_len : ∀ ys : List (List Nat), ((ys.map S).map (fun x => x.length)).sum = ys.flatten.length
  | [] => rfl
  | y :: ys => by
    have := sum_len ys
    simp [SX.S_len] at this ⊢
    exact this
/-- "".join(list of texts) -/
def rJoin0 (K : PySem.W.Frag) : V → List V → Hp → VK → Prop := fun x xs H Q => ∃ (p : Addr) (ys : List (List Nat)), x = .str (S []) ∧ xs = [.ref p] ∧ SqL K H p (ys.map fun y => V.str (S y)) ∧ ys.flatten.length ≤ 100000 ∧ Q (.str (S ys.flatten)) H
theorem pe_join0 {o e : Expr} {to te : TE} {apos pos : Pos} (ho : PE X o to) (he : PE X e te) (h1 : starEach [e] X.env = [(false, eval e X.env)] := by rfl) (h2 : attributeBase o "join" X.env (eval o X.env) = eval o X.env := by rfl) (h3 : (apos.endLine == pos.line) = true := by rfl) :
    PE X (.Call (.Attribute o "join" apos) [e] [] pos) (tM1 (rJoin0 X.K) to te) :=
  pe_m1 PySem.F.slot_str_join PySem.F.type_str_join (mtImp mt_join fun x xs H Q ⟨p, ys, e1, e2, hs, hl, q⟩ => ⟨S [], p, ys.map S, e1, e2, .inl (by rw [List.map_map]; exact hs), by
    rw [sum_len]; show _ + _ * 0 ≤ _; omega, by rw [join0]; exact q⟩) ho he h1 h2 h3
theorem at1 (a : List Nat) (c i : Nat) : StrLaws.At (S a) (S [c]) (S a).length i ↔ a[i]? = some c := by
  rw [TL.at_iff (by simp [TL.tl])]
  show TL.pre [c] (a.drop i) = true ↔ _
  unfold TL.pre
  cases h : a[i]? with
  | none =>
    have := List.getElem?_eq_none_iff.mp h
    rw [List.drop_of_length_le this]
    simp
  | some d =>
    obtain ⟨hi, e⟩ := List.getElem?_eq_some_iff.mp h
    rw [List.drop_eq_getElem_cons hi, e]
    simp
/-- the first place of c -/
def fst? (c : Nat) (a : List Nat) : Option Nat := a.findIdx? fun d => d == c
def foi : Option Nat → Int
  | some i => (i : Int)
  | none => -1
theorem find1 (a : List Nat) (c : Nat) : Txt.find (S a) (S [c]) = foi (fst? c a) := by
  unfold Txt.find fst?
  rcases StrLaws.occ_head (S a) (S [c]) 1 (Nat.le_refl _) with ⟨h0, hn⟩ | ⟨i, r, h0, hi, hn⟩
  · rw [h0]
    have e : (a.findIdx? fun d => d == c) = none := by
      rw [List.findIdx?_eq_none_iff]
      intro x hx
      obtain ⟨k, hk, e⟩ := List.mem_iff_getElem.mp hx
      have q := hn k
      rw [at1, List.getElem?_eq_getElem hk, e] at q
      simpa using fun z => q (by rw [z])
    rw [e]; rfl
  · rw [h0]
    rw [at1] at hi
    have e : (a.findIdx? fun d => d == c) = some i := by
      rw [List.findIdx?_eq_some_iff_getElem]
      obtain ⟨hl, e⟩ := List.getElem?_eq_some_iff.mp hi
      refine ⟨hl, by simp [e], fun j hj => ?_⟩
      have q := hn j hj
      rw [at1, List.getElem?_eq_getElem (by omega)] at q
      simpa using fun z => q (by rw [z])
    rw [e]; rfl
/-- s.find(c), c one sign -/
def rFind1 : V → List V → Hp → VK → Prop := fun x xs H Q => ∃ (a : List Nat) (c : Nat), x = .str (S a) ∧ xs = [.str (S [c])] ∧ Q (.int (foi (fst? c a))) H
theorem mt_find1 : MtR X "str.find" rFind1 := mtImp mt_find fun x xs H Q ⟨a, c, e1, e2, q⟩ => ⟨S a, S [c], e1, e2, by rw [find1]; exact q⟩
def rAlnum1 : V → List V → Hp → VK → Prop := fun x xs H Q => ∃ (c : Nat), x = .str (S [c]) ∧ xs = [] ∧ Q (.bl (Unicode.isAlnum c)) H
theorem mt_alnum1 : MtR X "str.isalnum" rAlnum1 := mtImp mt_isalnum fun x xs H Q ⟨c, e1, e2, q⟩ => ⟨S [c], e1, e2, trivial, by
  have e : Txt.isalnum (S [c]) = Unicode.isAlnum c := by simp [Txt.isalnum, S, Str.length]
  rw [e]; exact q⟩
end
end Kr

set_option Elab.async false
set_option linter.all false
set_option maxRecDepth 100000
set_option maxHeartbeats 2000000
namespace Kr
def sgn : List Nat := [10, 32, 33, 34, 35, 36, 38, 39, 40, 41, 42, 43, 44, 45, 46, 47, 48, 49, 50, 51, 52, 53, 54, 55, 56, 57, 58, 59, 60, 61, 62, 63, 64, 65, 66, 67, 68, 69, 70, 71, 72, 73, 74, 75, 76, 77, 78, 79, 80, 81, 82, 83, 84, 85, 86, 87, 88, 89, 90, 91, 92, 93, 94, 95, 96, 97, 98, 99, 100, 101, 102, 103, 104, 105, 106, 107, 108, 109, 110, 111, 112, 113, 114, 115, 116, 117, 118, 119, 120, 121, 122, 123, 124, 125, 126]
def wsg : List Nat := [48, 49, 50, 51, 52, 53, 54, 55, 56, 57, 65, 66, 67, 68, 69, 70, 71, 72, 73, 74, 75, 76, 77, 78, 79, 80, 81, 82, 83, 84, 85, 86, 87, 88, 89, 90, 97, 98, 99, 100, 101, 102, 103, 104, 105, 106, 107, 108, 109, 110, 111, 112, 113, 114, 115, 116, 117, 118, 119, 120, 121, 122]
/-! ### a page -/
structure Pg where
  t : List Nat
  c : Nat
  m : Option Nat
  k : List Nat
  r : Nat
namespace Pg
def adv (h : Nat) (g : Pg) : Pg := ⟨g.t, g.c + 1, g.m.bind fun x => if x + h < g.c + 1 then none else some x, g.k, g.r⟩
def pass (h : Nat) (g : Pg) : Pg := adv h ⟨g.t, g.c, g.m, g.k, g.r - 1⟩
def ins (h : Nat) (g : Pg) (x : Nat) : Pg := adv h ⟨g.t.take g.c ++ x :: g.t.drop g.c, g.c, g.m, g.k, g.r⟩
def inss (h : Nat) (g : Pg) (xs : List Nat) : Pg := xs.foldl (ins h) g
def ahead (g : Pg) : List Nat := (g.t.drop g.c).take 1
def fresh (g : Pg) : Bool := decide (g.c = 0) || g.t[g.c - 1]? == some 10
def held (g : Pg) : Option (List Nat) := g.m.map fun x => (g.t.take g.c).drop x
def stops (key : Nat) (s : List Nat) (a : Nat) : Bool := if key = 47 then decide ([a] = s) else if key = 36 then decide (a = 10) else decide (a ∈ wsg) == decide (key = 110)
def travel (h key : Nat) (s : List Nat) : Nat → Pg → Bool × Pg
  | 0, g => (decide (key ∈ [119, 36]), g)
  | n + 1, g => match g.t[g.c]? with
    | none => (decide (key ∈ [119, 36]), g)
    | some a => if stops key s a = true then (true, g) else travel h key s n (pass h g)
def useMark (h key : Nat) (g : Pg) : Bool × Pg := match g.m with
  | none => (false, g)
  | some x => if key = 98 then (if g.c - x + g.r > h then (false, g) else (true, ⟨g.t, x, some x, g.k, g.r + (g.c - x)⟩))
    else if key = 99 then (true, ⟨g.t.take x ++ g.t.drop g.c, x, some x, (g.t.take g.c).drop x, g.r⟩)
    else (true, ⟨g.t, g.c, some x, (g.t.take g.c).drop x, g.r⟩)
def takeOne (h key : Nat) (g : Pg) : Bool × Pg := if ahead g = [] then (false, g) else if key = 62 then (true, pass h g) else (true, ⟨g.t.take g.c ++ g.t.drop (g.c + 1), g.c, g.m, g.k, g.r - 1⟩)
def act (h : Nat) (g : Pg) (key : Nat) (s : List Nat) : Bool × Pg :=
  if key ∈ [47, 119, 110, 36] then travel h key s (g.t.length + 1) g
  else if key ∈ [98, 107, 99] then useMark h key g
  else if key ∈ [62, 120] then takeOne h key g
  else if key = 61 then (decide (ahead g = s), g)
  else if key = 94 then (fresh g, g)
  else if key = 109 then (true, ⟨g.t, g.c, some g.c, g.k, g.r⟩)
  else if key = 39 then (true, inss h g s)
  else (decide (g.k ≠ []), inss h g g.k)
end Pg
/-- a key by its two parts -/
def vk (key : Nat) (s : List Nat) : Prop := (key ∈ [62, 120, 119, 110, 36, 94, 109, 98, 107, 99, 112] ∧ s = []) ∨ (key ∈ [39, 61, 47] ∧ ∃ a ∈ sgn, s = [a])
structure PgOk (h : Nat) (g : Pg) : Prop where
  c : g.c ≤ g.t.length
  m : ∀ x, g.m = some x → x ≤ g.c ∧ g.c ≤ x + h
  k : g.k.length ≤ h
  ts : ∀ a ∈ g.t, a ∈ sgn
  ks : ∀ a ∈ g.k, a ∈ sgn
  hb : h ≤ 4
theorem adv_ok {h : Nat} {g : Pg} (hb : h ≤ 4) (c : g.c + 1 ≤ g.t.length) (m : ∀ x, g.m = some x → x ≤ g.c) (k : g.k.length ≤ h) (ts : ∀ a ∈ g.t, a ∈ sgn) (ks : ∀ a ∈ g.k, a ∈ sgn) : PgOk h (g.adv h) := by
  refine ⟨c, fun x hx => ?_, k, ts, ks, hb⟩
  unfold Pg.adv at hx ⊢
  simp only at hx ⊢
  cases q : g.m with
  | none => rw [q] at hx; cases hx
  | some y =>
    rw [q] at hx
    have := m y q
    simp only [Option.bind_some] at hx
    split at hx
    · cases hx
    · cases hx; omega
theorem pass_ok {h : Nat} {g : Pg} (o : PgOk h g) (c : g.c < g.t.length) : PgOk h (g.pass h) := adv_ok (g := ⟨g.t, g.c, g.m, g.k, g.r - 1⟩) o.hb c (fun x hx => (o.m x hx).1) o.k o.ts o.ks
theorem ins_ok {h : Nat} {g : Pg} {x : Nat} (o : PgOk h g) (hx : x ∈ sgn) : PgOk h (g.ins h x) := by
  have := o.c
  refine adv_ok (g := ⟨g.t.take g.c ++ x :: g.t.drop g.c, g.c, g.m, g.k, g.r⟩) o.hb ?_ (fun x hx => (o.m x hx).1) o.k (fun a ha => ?_) o.ks
  · simp; omega
  · simp at ha
    rcases ha with ha | rfl | ha
    · exact o.ts a (List.mem_of_mem_take ha)
    · exact hx
    · exact o.ts a (List.mem_of_mem_drop ha)
theorem ins_len {h : Nat} {g : Pg} {x : Nat} (o : PgOk h g) : (g.ins h x).t.length = g.t.length + 1 := by
  have := o.c
  simp [Pg.ins, Pg.adv]; omega
theorem inss_ok {h : Nat} : ∀ {xs : List Nat} {g : Pg}, PgOk h g → (∀ x ∈ xs, x ∈ sgn) → PgOk h (g.inss h xs) ∧ (g.inss h xs).t.length = g.t.length + xs.length
  | [], g, o, _ => ⟨o, rfl⟩
  | x :: xs, g, o, hx => by
    have o1 := ins_ok (x := x) o (hx x List.mem_cons_self)
    obtain ⟨o2, e⟩ := inss_ok (xs := xs) o1 fun y hy => hx y (List.mem_cons_of_mem _ hy)
    refine ⟨o2, ?_⟩
    have e2 : (g.ins h x).t.length = g.t.length + 1 := ins_len o
    show ((g.ins h x).inss h xs).t.length = _
    rw [e, e2]; simp; omega
theorem travel_ok {h key : Nat} {s : List Nat} : ∀ {n : Nat} {g : Pg}, PgOk h g → PgOk h (g.travel h key s n).2 ∧ (g.travel h key s n).2.t = g.t
  | 0, g, o => ⟨o, rfl⟩
  | n + 1, g, o => by
    unfold Pg.travel
    split
    · exact ⟨o, rfl⟩
    · rename_i a ha
      split
      · exact ⟨o, rfl⟩
      · have hl := (List.getElem?_eq_some_iff.mp ha).1
        exact travel_ok (n := n) (pass_ok o hl)
theorem act_ok {h : Nat} {g : Pg} {key : Nat} {s : List Nat} (o : PgOk h g) (v : vk key s) : PgOk h (g.act h key s).2 ∧ (g.act h key s).2.t.length ≤ g.t.length + h + 1 := by
  have hs : ∀ x ∈ s, x ∈ sgn := by
    rcases v with ⟨_, rfl⟩ | ⟨_, a, ha, rfl⟩
    · simp
    · simpa using ha
  have hl : s.length ≤ 1 := by
    rcases v with ⟨_, rfl⟩ | ⟨_, a, ha, rfl⟩ <;> simp
  unfold Pg.act
  split
  · obtain ⟨o2, e⟩ := travel_ok (key := key) (s := s) (n := g.t.length + 1) o
    exact ⟨o2, by rw [e]; omega⟩
  split
  · unfold Pg.useMark
    split
    · exact ⟨o, by simp only; omega⟩
    · rename_i x hx
      have hm := o.m x hx
      have hc := o.c
      split
      · split
        · exact ⟨o, by simp only; omega⟩
        · exact ⟨⟨by simp only; omega, fun y hy => by cases hy; exact ⟨Nat.le_refl _, by simp only; omega⟩, o.k, o.ts, o.ks, o.hb⟩, by simp only; omega⟩
      split
      · refine ⟨⟨by simp; omega, fun y hy => by cases hy; exact ⟨Nat.le_refl _, by simp only; omega⟩, by simp; omega, fun a ha => ?_, fun a ha => ?_, o.hb⟩, by simp; omega⟩
        · simp at ha
          rcases ha with ha | ha
          · exact o.ts a (List.mem_of_mem_take ha)
          · exact o.ts a (List.mem_of_mem_drop ha)
        · exact o.ts a (List.mem_of_mem_take (List.mem_of_mem_drop ha))
      · refine ⟨⟨hc, fun y hy => by cases hy; exact hm, by simp; omega, o.ts, fun a ha => ?_, o.hb⟩, by simp only; omega⟩
        exact o.ts a (List.mem_of_mem_take (List.mem_of_mem_drop ha))
  split
  · unfold Pg.takeOne
    split
    · exact ⟨o, by simp only; omega⟩
    · rename_i ha
      have hc : g.c < g.t.length := by
        rcases Nat.lt_or_ge g.c g.t.length with q | q
        · exact q
        · exact absurd (by unfold Pg.ahead; rw [List.drop_of_length_le q]; rfl) ha
      split
      · exact ⟨pass_ok o hc, by simp only [Pg.pass, Pg.adv]; omega⟩
      · refine ⟨⟨by simp; omega, o.m, o.k, fun a ha => ?_, o.ks, o.hb⟩, by simp; omega⟩
        simp at ha
        rcases ha with ha | ha
        · exact o.ts a (List.mem_of_mem_take ha)
        · exact o.ts a (List.mem_of_mem_drop ha)
  split
  · exact ⟨o, by simp only; omega⟩
  split
  · exact ⟨o, by simp only; omega⟩
  split
  · exact ⟨⟨o.c, fun y hy => by cases hy; exact ⟨Nat.le_refl _, Nat.le_add_right _ _⟩, o.k, o.ts, o.ks, o.hb⟩, by simp only; omega⟩
  split
  · obtain ⟨o2, e⟩ := inss_ok o hs
    exact ⟨o2, by simp only; omega⟩
  · obtain ⟨o2, e⟩ := inss_ok o o.ks
    have := o.k
    exact ⟨o2, by simp only; omega⟩
end Kr

set_option Elab.async false
set_option linter.all false
set_option maxRecDepth 100000
set_option maxHeartbeats 2000000
/-! ### methods, properties, instances of the text's own classes -/
namespace Kr
open PySem PySem.Spec PyProof.Rows L2
structure KMet (P : Program) (w : World) (K : PySem.W.Frag) (mg : Str → Option Value) (base : Heap) (k : Nat) (C : Addr) (m : Str) (sp : Sp) : Prop where
  ex : ∃ (f : Addr) (fd : FuncData) (ps : List Str), Cls K C ∧ Meth K C m f ∧ FnOk P w K mg base (CX P w) k f fd ps sp ∧ Binds K fd ps []
structure KPrp (P : Program) (w : World) (K : PySem.W.Frag) (mg : Str → Option Value) (base : Heap) (k : Nat) (C : Addr) (m : Str) (sp : Sp) : Prop where
  ex : ∃ (p g : Addr) (fd : FuncData) (ps : List Str), Cls K C ∧ PropOf K C m p g ∧ FnOk P w K mg base (CX P w) k g fd ps sp ∧ Binds K fd ps []
section
variable {X : Cx} {k j : Nat} {C : Addr} {m : Str} {sp : Sp} {o e : Expr} {es : List Expr} {ta : TE} {t : TA} {p pos apos : Pos} {W : WX}
def tMethW (C : Addr) (m : Str) (sp : Sp) (E : L2.St → XK) (ta : TE) (t : TA) : TE := fun σ H Q => ta σ H fun x H1 => ∃ a dx fs, x = .ref a ∧ H1 a = some (.ins C dx fs) ∧ fs.lookup m = none ∧ t σ H1 fun vs H2 => sp (x :: vs) H2 Q (E σ)
theorem km {pl : Sem Bool} (c : KMet X.prog X.w X.K X.mg X.base k C m sp) (hr : Room j X.A) (hk : k ≤ j) (he : PE X o ta) (ha : PA X (e :: es) t)
    (h1 : starEach (e :: es) X.env = (false, eval e X.env) :: starEach es X.env := by rfl) (h2 : (backTo pos (starEach es X.env)).any (·.1) = false := by rfl)
    (h3 : eval (.Call (.Attribute o m apos) (e :: es) [] pos) X.env = (do
      let ov ← eval o X.env
      standAt apos.atName
      let (f, first) ← holding [ov] (getMethod ov m pl)
      callWith pos f first (backTo pos (starEach (e :: es) X.env)) (backToKw pos (keywordEach [] X.env))) := by rfl) :
    PE X (.Call (.Attribute o m apos) (e :: es) [] pos) (tMeth C m sp [] E0 ta t) := by
  obtain ⟨f, fd, ps, hc, hm, F, b⟩ := c.ex
  exact pe_meth he hc hm F (hr.mono hk) b .nil passL ha h1 h2 h3
theorem km0 {pl : Sem Bool} (c : KMet X.prog X.w X.K X.mg X.base k C m sp) (hr : Room j X.A) (hk : k ≤ j) (he : PE X o ta)
    (h3 : eval (.Call (.Attribute o m apos) [] [] pos) X.env = (do
      let ov ← eval o X.env
      standAt apos.atName
      let (f, first) ← holding [ov] (getMethod ov m pl)
      callWith pos f first (backTo pos (starEach [] X.env)) (backToKw pos (keywordEach [] X.env))) := by rfl) :
    PE X (.Call (.Attribute o m apos) [] [] pos) (tMeth C m sp [] E0 ta tNil) := by
  obtain ⟨f, fd, ps, hc, hm, F, b⟩ := c.ex
  exact pe_meth0 he hc hm F (hr.mono hk) b .nil passL h3
theorem kmx {pl : Sem Bool} (c : KMet X.prog X.w X.K X.mg X.base k C m sp) (tk : Takes X W) (hr : Room j X.A) (hk : k ≤ j) (he : PE X o ta) (ha : PA X (e :: es) t)
    (h1 : starEach (e :: es) X.env = (false, eval e X.env) :: starEach es X.env := by rfl) (h2 : (backTo pos (starEach es X.env)).any (·.1) = false := by rfl)
    (h3 : eval (.Call (.Attribute o m apos) (e :: es) [] pos) X.env = (do
      let ov ← eval o X.env
      standAt apos.atName
      let (f, first) ← holding [ov] (getMethod ov m pl)
      callWith pos f first (backTo pos (starEach (e :: es) X.env)) (backToKw pos (keywordEach [] X.env))) := by rfl) :
    PE X (.Call (.Attribute o m apos) (e :: es) [] pos) (tMethW C m sp (WE W) ta t) := by
  obtain ⟨f, fd, ps, hc, hm, F, b⟩ := c.ex
  constructor
  intro pins s σ H Q I h
  refine PySem.W.methodCall_KW (pl := pl) (thn (he.run pins s σ H _ I h) fun u s1 hh => ?_) h3
  obtain ⟨x, H1, I1, rx, a, dx, fs, ex, ea, lk, q⟩ := hh
  subst ex
  obtain rfl : u = Value.ref a := rx
  refine getmeth_ok I1 ea hc hm lk ?_
  refine PySem.W.callWith_K (first := [.ref a]) I1.kIn hm.kp (thn (ha.run pos pins s1 σ H1 _ I1 q) fun us s2 hq => ?_) h1 h2
  obtain ⟨vs, H2, I2, r2, q2⟩ := hq
  exact ⟨I2.kIn, run_fnSD (dvs := []) (ds := []) (E := WE W) (vs := .ref a :: vs) F (hr.mono hk) b .nil (passAt tk σ) I2 (.cons rfl r2) (by simpa using q2)⟩
theorem kprop (c : KPrp X.prog X.w X.K X.mg X.base k C m sp) (hr : Room j X.A) (hk : k + 1 ≤ j) (he : PE X e ta) (hab : attributeBase e m X.env (eval e X.env) = eval e X.env := by rfl) : PE X (.Attribute e m pos) (tProp C sp [] E0 ta) := by
  obtain ⟨p, g, fd, ps, hc, hp, F, b⟩ := c.ex
  exact pe_prop he hc hp F (hr.mono hk) b .nil (passL (X := X.nox)) hab
end
/-- C(e, .., k = v, ..) -/
structure KMak (P : Program) (w : World) (K : PySem.W.Frag) (mg : Str → Option Value) (base : Heap) (k : Nat) (x : Str) (C : Addr) (n : Nat) (ks : List Str) (sp : Sp) (gV : List V → List V → List V) : Prop where
  ex : ∃ (f : Addr) (fd : FuncData) (ps : List Str) (g : List Value → List Value → List Value), Mk K C f ∧ FnOk P w K mg base (CX P w) k f fd ps sp ∧ mg x = some (.ref C) ∧ KBn K fd ps (n + 1) ks g gV
/-- C(e, ..), the last parameters by default -/
structure KMap (P : Program) (w : World) (K : PySem.W.Frag) (mg : Str → Option Value) (base : Heap) (k : Nat) (x : Str) (C : Addr) (sp : Sp) (dvs : List V) : Prop where
  ex : ∃ (f : Addr) (fd : FuncData) (ps : List Str) (ds : List Value), Mk K C f ∧ FnOk P w K mg base (CX P w) k f fd ps sp ∧ mg x = some (.ref C) ∧ Binds K fd ps ds ∧ Vals dvs ds
section
variable {X : Cx} {k j n : Nat} {x : Str} {C : Addr} {ks : List Str} {sp : Sp} {gV : List V → List V → List V} {e : Expr} {es : List Expr} {kws : List Keyword} {t tk : TA} {p pos : Pos} {dvs : List V}
theorem kmak (c : KMak X.prog X.w X.K X.mg X.base k x C n ks sp gV) (hr : Room j X.A) (hk : k + 1 ≤ j) (hg : Gl X x) (ha : PA X (e :: es) t) (hkw : PK X kws tk)
    (h1 : (backToKw pos (keywordEach kws X.env)).all (·.1.isSome) = true := by rfl) (h2 : (backToKw pos (keywordEach kws X.env)).filterMap (·.1) = ks := by rfl) (h3 : (x == ("__debug__" : Str)) = false := by decide)
    (h4 : starEach (e :: es) X.env = (false, eval e X.env) :: starEach es X.env := by rfl) (h5 : ((backTo pos (starEach (e :: es) X.env)).any (·.1) || (backToKw pos (keywordEach kws X.env)).any (·.1.isNone)) = false := by rfl) :
    PE X (.Call (.Name x p) (e :: es) kws pos) (tMakeK C n ks.length sp gV E0 t tk) := by
  obtain ⟨f, fd, ps, g, M, F, hm, b⟩ := c.ex
  exact pe_makeK M F (hr.mono hk) hg hm b passL ha hkw h1 h2 h3 h4 h5
theorem kmap (c : KMap X.prog X.w X.K X.mg X.base k x C sp dvs) (hr : Room j X.A) (hk : k + 1 ≤ j) (hg : Gl X x) (ha : PA X (e :: es) t)
    (h3 : (x == ("__debug__" : Str)) = false := by decide) (h4 : starEach (e :: es) X.env = (false, eval e X.env) :: starEach es X.env := by rfl) (h5 : (backTo pos (starEach es X.env)).any (·.1) = false := by rfl) :
    PE X (.Call (.Name x p) (e :: es) [] pos) (tMake C sp dvs E0 t) := by
  obtain ⟨f, fd, ps, ds, M, F, hm, b, d⟩ := c.ex
  exact pe_make M F (hr.mono hk) hg hm b d passL ha h3 h4 h5
theorem kmap0 (c : KMap X.prog X.w X.K X.mg X.base k x C sp dvs) (hr : Room j X.A) (hk : k + 1 ≤ j) (hg : Gl X x) (h3 : (x == ("__debug__" : Str)) = false := by decide) :
    PE X (.Call (.Name x p) [] [] pos) (tMake C sp dvs E0 tNil) := by
  obtain ⟨f, fd, ps, ds, M, F, hm, b, d⟩ := c.ex
  exact pe_make0 M F (hr.mono hk) hg hm b d passL h3
end
/-! ### the head's facts of properties -/
def propB (K : PySem.W.Frag) (C f : Str) : Bool := match PySem.W.findIn K (.ref (He.ga K C)) f with
  | some (some (.ref p)) => decide (PySem.W.specialIn K (.ref p) "__get__" = some (some (.builtin "property.__get__"))) && (decide (PySem.W.takesIn K (.ref p) = some true) && (match PySem.W.recIn K p "property" with
    | some (.ref _ :: _) => true
    | _ => false))
  | _ => false
def propG (K : PySem.W.Frag) (C f : Str) : Addr := match PySem.W.findIn K (.ref (He.ga K C)) f with
  | some (some (.ref p)) => (match PySem.W.recIn K p "property" with
    | some (.ref g :: _) => g
    | _ => 0)
  | _ => 0
theorem propB_ok {K : PySem.W.Frag} {C f : Str} (h : propB K C f = true) : ∃ p, PropOf K (He.ga K C) f p (propG K C f) := by
  unfold propB at h
  split at h
  · rename_i p hp
    obtain ⟨h1, h⟩ := He.ba h
    obtain ⟨h2, h3⟩ := He.ba h
    split at h3
    · rename_i g r hr
      refine ⟨p, hp, of_decide_eq_true h1, of_decide_eq_true h2, r, ?_⟩
      unfold propG
      rw [hp]
      simp only [hr]
    · cases h3
  · cases h
/-! ### a hook that also tells the getters of properties -/
def fnWA (K : PySem.W.Frag) (a : Addr) : He.FnW := match K.lookup a with
  | some ⟨_, _, .func fd, _⟩ => some (fd.name, fd.qualname, fd.params, fd.body, fd.scope, fd.globals, fd.closure, fd.builtins)
  | _ => none
def okA (K : PySem.W.Frag) (a : Addr) (d : He.DefD) : Bool := PySem.W.keepIn K (.ref a) && (match K.lookup a with
  | some ⟨_, _, .func fd, _⟩ => PySem.W.codeIn K fd.code d.qual && (He.dflB K fd.defaults (d.dvs K) && He.kwdB K fd.kwdefaults (d.kws K))
  | _ => false)
theorem funDA {K : PySem.W.Frag} {a : Addr} {d : He.DefD} (e : fnWA K a = d.val) (c : okA K a d = true) : ∃ fd, FunD K d.name d.qual d.params d.body d.scope (d.dvs K) (d.kws K) a fd := by
  unfold okA at c
  have c' := He.ba c
  unfold fnWA at e
  generalize q : K.lookup a = lo at e c'
  match lo, q, e, c' with
  | some ⟨oc, od, .func ⟨n1, n2, n3, n4, n5, n6, n7, n8, n9, n10, n11, n12, n13, n14, n15⟩, osl⟩, q, e, c' =>
    have e2 : (some (n1, n2, n3, n4, n5, n6, n7, n15) : He.FnW) = some (d.name, d.qual, d.params, .stmts d.body, d.scope, mainGlobals, [], builtinsNs) := e
    simp only [Option.some.injEq, Prod.mk.injEq] at e2
    obtain ⟨rfl, rfl, rfl, rfl, rfl, rfl, rfl, rfl⟩ := e2
    have z1 := He.ba c'.2
    have z2 := He.ba z1.2
    exact ⟨_, ⟨oc, od, n8, n9, n10, n11, n12, n13, n14, osl, rfl, q, z1.1, He.dflB_ok z2.1, He.kwdB_ok z2.2⟩, c'.1⟩
abbrev PD : Type := Str × Str × He.DefD
def pobs (ps : List PD) (K : PySem.W.Frag) : List He.FnW := ps.map fun p => fnWA K (propG K p.1 p.2.1)
def pval (ps : List PD) : List He.FnW := ps.map fun p => p.2.2.val
def pok (ps : List PD) (K : PySem.W.Frag) : Bool := ps.all fun p => propB K p.1 p.2.1 && okA K (propG K p.1 p.2.1) p.2.2
abbrev AlY : Type := He.AlX × List He.FnW
def obsY (n : Nat) (fa : List He.Fa) (fn : List He.DefD) (ps : List PD) (ex : PySem.W.Frag → Bool) (g : Addr → Option Obj) : AlY := (He.obsX n fa fn [] [] (fun K => ex K && pok ps K) g, pobs ps (He.frT g (He.asD g n)))
structure SaysY (fa : List He.Fa) (fn : List He.DefD) (ps : List PD) (ex : PySem.W.Frag → Bool) (w : World) (h : Heap) (K : PySem.W.Frag) : Prop where
  x : He.SaysX fa fn [] [] (fun K => ex K && pok ps K) w h K
  p : pobs ps K = pval ps
def hookY (n : Nat) (fa : List He.Fa) (fn : List He.DefD) (ps : List PD) (ex : PySem.W.Frag → Bool) : PySem.W.Hook where
  α := AlY
  obs := fun s => obsY n fa fn ps ex s.heap.get?
  val := fun w => (He.valX fn [] w, pval ps)
  says := fun w h => ∃ K : PySem.W.Frag, K.In h ∧ SaysY fa fn ps ex w h K
  of := fun w s e => ⟨_, He.frT_in, He.saysX_of (congrArg (fun z : AlY => z.1) e), congrArg (fun z : AlY => z.2) e⟩
  keeps := fun _ _ _ ⟨K, hK, c⟩ k => ⟨K, PySem.W.Frag.In.keeps hK k, ⟨c.x.t, c.x.more, c.x.hd, c.x.out, fun p hp => k _ _ (c.x.empty p hp)⟩, c.p⟩
theorem obsY_eq {n : Nat} {fa : List He.Fa} {fn : List He.DefD} {ps : List PD} {ex : PySem.W.Frag → Bool} {g : Addr → Option Obj} {s : Shared} (h : ∀ a, g a = s.heap.get? a) : obsY n fa fn ps ex g = (hookY n fa fn ps ex).obs s := by
  have e : g = s.heap.get? := funext h
  subst e
  rfl
theorem SaysY.prop {fa : List He.Fa} {fn : List He.DefD} {ps : List PD} {ex : PySem.W.Frag → Bool} {w : World} {h : Heap} {K : PySem.W.Frag} (c : SaysY fa fn ps ex w h K) (i : Nat) {p : PD} (hp : ps[i]? = some p := by rfl) :
    ∃ (a : Addr) (fd : FuncData), PropOf K (He.ga K p.1) p.2.1 a (propG K p.1 p.2.1) ∧ FunD K p.2.2.name p.2.2.qual p.2.2.params p.2.2.body p.2.2.scope (p.2.2.dvs K) (p.2.2.kws K) (propG K p.1 p.2.1) fd := by
  have c2 := (He.ba c.x.more).2
  obtain ⟨h1, h2⟩ := He.ba (List.all_eq_true.mp c2 p (List.mem_of_getElem? hp))
  obtain ⟨a, ha⟩ := propB_ok h1
  have e2 : (pobs ps K)[i]? = (pval ps)[i]? := by rw [c.p]
  unfold pobs pval at e2
  rw [List.getElem?_map, List.getElem?_map, hp] at e2
  obtain ⟨fd, F⟩ := funDA (Option.some.inj e2) h2
  exact ⟨a, fd, ha, F⟩
theorem SaysY.ex {fa : List He.Fa} {fn : List He.DefD} {ps : List PD} {ex : PySem.W.Frag → Bool} {w : World} {h : Heap} {K : PySem.W.Frag} (c : SaysY fa fn ps ex w h K) : ex K = true := (He.ba c.x.more).1
end Kr

set_option Elab.async false
set_option linter.all false
set_option maxRecDepth 100000
set_option maxHeartbeats 2000000
/-! ### classmethods of the text's own classes -/
namespace Kr
open PySem PySem.Spec PyProof.Rows L2
structure KCm (P : Program) (w : World) (K : PySem.W.Frag) (mg : Str → Option Value) (base : Heap) (k : Nat) (C : Addr) (m : Str) (sp : Sp) : Prop where
  ex : ∃ (p g : Addr) (fd : FuncData) (ps : List Str), ClX.CRead K C (.type "type") ∧ ClX.CMet K C (.type "type") m p g ∧ FnOk P w K mg base (CX P w) k g fd ps sp ∧ Binds K fd ps []
section
variable {X : Cx} {k j : Nat} {C : Addr} {m : Str} {sp : Sp} {o e : Expr} {es : List Expr} {ta : TE} {t : TA} {pos apos : Pos} {W : WX}
theorem fnr {P : Program} {w : World} {K : PySem.W.Frag} {mg : Str → Option Value} {base : Heap} {CX : CXT} {f : Addr} {fd : FuncData} {ps : List Str} (F : FnOk P w K mg base CX k f fd ps sp) (b : Binds K fd ps []) : FnR P w K mg base CX k f sp :=
  (F.raw b .nil).imp fun vs H Q E h => by rw [List.append_nil]; exact h
theorem kcm {pl : Sem Bool} (c : KCm X.prog X.w X.K X.mg X.base k C m sp) (hr : Room j X.A) (hk : k ≤ j) (he : PE X o ta) (ha : PA X (e :: es) t)
    (h1 : starEach (e :: es) X.env = (false, eval e X.env) :: starEach es X.env := by rfl) (h2 : (backTo pos (starEach es X.env)).any (·.1) = false := by rfl)
    (h3 : eval (.Call (.Attribute o m apos) (e :: es) [] pos) X.env = (do
      let ov ← eval o X.env
      standAt apos.atName
      let (f, first) ← holding [ov] (getMethod ov m pl)
      callWith pos f first (backTo pos (starEach (e :: es) X.env)) (backToKw pos (keywordEach [] X.env))) := by rfl) :
    PE X (.Call (.Attribute o m apos) (e :: es) [] pos) (ClX.tCMeth C sp E0 ta t) := by
  obtain ⟨p, g, fd, ps, r, cm, F, b⟩ := c.ex
  exact ClX.pe_cmeth he r cm (fnr F b) (hr.mono hk) passL ha h1 h2 h3
theorem kcm0 {pl : Sem Bool} (c : KCm X.prog X.w X.K X.mg X.base k C m sp) (hr : Room j X.A) (hk : k ≤ j) (he : PE X o ta)
    (h3 : eval (.Call (.Attribute o m apos) [] [] pos) X.env = (do
      let ov ← eval o X.env
      standAt apos.atName
      let (f, first) ← holding [ov] (getMethod ov m pl)
      callWith pos f first (backTo pos (starEach [] X.env)) (backToKw pos (keywordEach [] X.env))) := by rfl) :
    PE X (.Call (.Attribute o m apos) [] [] pos) (ClX.tCMeth C sp E0 ta tNil) := by
  obtain ⟨p, g, fd, ps, r, cm, F, b⟩ := c.ex
  refine ⟨fun pins s σ H Q I h => ?_⟩
  refine PySem.W.methodCall_KW (pl := pl) (thn (he.run pins s σ H _ I h) fun u s1 hh => ?_) h3
  obtain ⟨x, H1, I1, rx, ex, q⟩ := hh
  subst ex
  obtain rfl : u = Value.ref C := rx
  refine ClX.getmethcm_ok I1 r cm fun s2 I2 => ?_
  exact PySem.W.callWith_M0 (first := []) ⟨ClX.pin_at I2, I2.kIn⟩ cm.fi (ClX.run_cm (fnr F b) (hr.mono hk) passL I2 .nil q)
theorem runCmAt {pins : List (Addr × Obj)} {σ : L2.St} {H : Hp} {s : Shared} {g q C : Addr} {E : XK} {Q : VK} {us : List Value} {vs : List V} (F : FnR X.prog X.w X.K X.mg X.base (CX X.prog X.w) k g sp) (hr : Room k X.A) (hx : PassesAt (CX X.prog X.w) X σ E) (I : Inv X ((q, PySem.W.methodObj (.ref g) (.ref C)) :: pins) σ H s)
    (r : Vals vs us) (h : sp (.ref C :: vs) H Q E) : wpAny (model X.prog X.w) X.A (call (.ref q) us) (EP X pins σ Q) X.xe s := by
  refine wpAny_call (PySem.W.method_call (ClX.pin_at I) (codeAny_mono (F X.A X.stack s H (.ref C :: us) (.ref C :: vs) Q E hr I.env0 (.cons rfl r) h) fun z s' hq => ?_))
  cases z with
  | error er => exact hx _ H s er s' I hq
  | ok fl =>
    cases fl with
    | ret u => exact ClX.unpinE (I.after hq)
    | next => exact hq.elim
    | brk => exact hq.elim
    | cont => exact hq.elim
/-- a class method that may raise -/
def tCMethW (C : Addr) (sp : Sp) (E : L2.St → XK) (ta : TE) (t : TA) : TE := fun σ H Q => ta σ H fun x H1 => x = .ref C ∧ t σ H1 fun vs H2 => sp (.ref C :: vs) H2 Q (E σ)
theorem kcmx {pl : Sem Bool} (c : KCm X.prog X.w X.K X.mg X.base k C m sp) (tk : Takes X W) (hr : Room j X.A) (hk : k ≤ j) (he : PE X o ta) (ha : PA X (e :: es) t)
    (h1 : starEach (e :: es) X.env = (false, eval e X.env) :: starEach es X.env := by rfl) (h2 : (backTo pos (starEach es X.env)).any (·.1) = false := by rfl)
    (h3 : eval (.Call (.Attribute o m apos) (e :: es) [] pos) X.env = (do
      let ov ← eval o X.env
      standAt apos.atName
      let (f, first) ← holding [ov] (getMethod ov m pl)
      callWith pos f first (backTo pos (starEach (e :: es) X.env)) (backToKw pos (keywordEach [] X.env))) := by rfl) :
    PE X (.Call (.Attribute o m apos) (e :: es) [] pos) (tCMethW C sp (WE W) ta t) := by
  obtain ⟨p, g, fd, ps, r, cm, F, b⟩ := c.ex
  refine ⟨fun pins s σ H Q I h => ?_⟩
  refine PySem.W.methodCall_KW (pl := pl) (thn (he.run pins s σ H _ I h) fun u s1 hh => ?_) h3
  obtain ⟨x, H1, I1, rx, ex, q⟩ := hh
  subst ex
  obtain rfl : u = Value.ref C := rx
  refine ClX.getmethcm_ok I1 r cm fun s2 I2 => ?_
  refine ClX.callwith_cm I2 (ClX.base_none I1 (Nat.le_refl _)) cm.fi (thn (ha.run pos _ s2 σ H1 _ I2 q) fun us s3 hq => ?_) h1 h2
  obtain ⟨vs, H2, I3, rv, q2⟩ := hq
  exact ⟨⟨ClX.pin_at I3, I3.kIn⟩, runCmAt (fnr F b) (hr.mono hk) (passAt tk σ) I3 rv q2⟩
end
/-- cls(e, ..), the class held by a name -/
def tMakeV (C : Addr) (sp : Sp) (dvs : List V) (E : XK) (tf : TE) (t : TA) : TE := fun σ H Q => tf σ H fun v H1 => v = .ref C ∧ tMake C sp dvs E t σ H1 Q
theorem kmapV {X : Cx} {k j : Nat} {x y : Str} {C : Addr} {sp : Sp} {e : Expr} {es : List Expr} {tf : TE} {t : TA} {p pos : Pos} {dvs : List V} (c : KMap X.prog X.w X.K X.mg X.base k y C sp dvs) (hr : Room j X.A) (hk : k + 1 ≤ j) (hf : PE X (.Name x p) tf) (ha : PA X (e :: es) t)
    (h4 : starEach (e :: es) X.env = (false, eval e X.env) :: starEach es X.env := by rfl) (h5 : (backTo pos (starEach es X.env)).any (·.1) = false := by rfl) :
    PE X (.Call (.Name x p) (e :: es) [] pos) (tMakeV C sp dvs E0 tf t) := by
  obtain ⟨f, fd, ps, ds, M, F, hm, b, d⟩ := c.ex
  refine ⟨fun pins s σ H Q I h => ?_⟩
  refine wpAny_Call_Name_kw (thn (hf.run pins s σ H _ I h) fun u s1 hh => ?_)
  obtain ⟨v, H1, I1, rv, rfl, q⟩ := hh
  obtain rfl : u = Value.ref C := rv
  refine PySem.W.callWith_K (h₀ := X.base) I.ok.mod.kin M.kp (thn (ha.run pos pins s1 σ H1 _ I1 q) fun us s2 hq => ?_) h4 h5
  obtain ⟨vs, H2, I2, r, q2⟩ := hq
  exact ⟨I2.kIn, run_make M F (hr.mono hk) b d passL I2 r q2⟩
theorem kgC {X : Cx} {k : Nat} {x : Str} {C : Addr} {sp : Sp} {dvs : List V} {pos : Pos} (c : KMap X.prog X.w X.K X.mg X.base k x C sp dvs) (hg : Gl X x) (hd : (x == ("__debug__" : Str)) = false := by decide) : PE X (.Name x pos) (tC (.ref C)) := by
  obtain ⟨f, fd, ps, ds, M, F, hm, b, d⟩ := c.ex
  exact pe_glob hg hm rfl hd
/-! ### the head's facts of classmethods -/
def cmG (K : PySem.W.Frag) (C m : Str) : Addr := He5.wf K (He.ga K C) "classmethod" m
def cmB (K : PySem.W.Frag) (C m : Str) : Bool := PySem.W.readsIn K (He.ga K C) (.type "type") && (He.eqO (PySem.W.specialIn K (.ref (He.ga K C)) "__getattribute__") (some (some (.builtin "type.__getattribute__"))) && (He5.wrapB K (He.ga K C) "classmethod" "classmethod.__get__" m && PySem.W.fnIn K (cmG K C m)))
theorem cmB_ok {K : PySem.W.Frag} {C m : Str} (h : cmB K C m = true) : ClX.CRead K (He.ga K C) (.type "type") ∧ ∃ p, ClX.CMet K (He.ga K C) (.type "type") m p (cmG K C m) := by
  obtain ⟨h1, h⟩ := He.ba h
  obtain ⟨h2, h⟩ := He.ba h
  obtain ⟨h3, h4⟩ := He.ba h
  exact ⟨⟨h1, He.eqO_ok h2⟩, _, He5.cmet_of h3 h4⟩
end Kr

set_option Elab.async false
set_option linter.all false
set_option maxRecDepth 100000
set_option maxHeartbeats 2000000
/-! ### a hook over written addresses -/
namespace Kr
open PySem PySem.Spec PyProof.Rows L2
/-- defs at told addresses: those of classmethods -/
def cobs (cs : List PD) (K : PySem.W.Frag) : List He.FnW := cs.map fun p => fnWA K (cmG K p.1 p.2.1)
def cok (cs : List PD) (K : PySem.W.Frag) : Bool := cs.all fun p => cmB K p.1 p.2.1 && okA K (cmG K p.1 p.2.1) p.2.2
abbrev AlL : Type := (He.AlD × Bool) × (List He.FnW × List He.FnW)
def obsL (as : List Addr) (fa : List He.Fa) (fn : List He.DefD) (ps cs : List PD) (ex : PySem.W.Frag → Bool) (g : Addr → Option Obj) : AlL := ((He.obsD fa fn (He.frT g as), ex (He.frT g as) && (pok ps (He.frT g as) && cok cs (He.frT g as))), (pobs ps (He.frT g as), cobs cs (He.frT g as)))
structure SaysL (fa : List He.Fa) (fn : List He.DefD) (ps cs : List PD) (ex : PySem.W.Frag → Bool) (K : PySem.W.Frag) : Prop where
  d : He.SaysD fa fn K
  more : (ex K && (pok ps K && cok cs K)) = true
  p : pobs ps K = pval ps
  q : cobs cs K = pval cs
def hookL (as : List Addr) (fa : List He.Fa) (fn : List He.DefD) (ps cs : List PD) (ex : PySem.W.Frag → Bool) : PySem.W.Hook where
  α := AlL
  obs := fun s => obsL as fa fn ps cs ex s.heap.get?
  val := fun _ => ((He.valD fn, true), (pval ps, pval cs))
  says := fun _ h => ∃ K : PySem.W.Frag, K.In h ∧ SaysL fa fn ps cs ex K
  of := fun _ s e => ⟨_, He.frT_in, congrArg (fun z : AlL => z.1.1) e, congrArg (fun z : AlL => z.1.2) e, congrArg (fun z : AlL => z.2.1) e, congrArg (fun z : AlL => z.2.2) e⟩
  keeps := fun _ _ _ ⟨K, hK, c⟩ k => ⟨K, PySem.W.Frag.In.keeps hK k, c⟩
theorem obsL_eq {as : List Addr} {fa : List He.Fa} {fn : List He.DefD} {ps cs : List PD} {ex : PySem.W.Frag → Bool} {g : Addr → Option Obj} {s : Shared} (h : ∀ a, g a = s.heap.get? a) : obsL as fa fn ps cs ex g = (hookL as fa fn ps cs ex).obs s := by
  have e : g = s.heap.get? := funext h
  subst e
  rfl
section
variable {fa : List He.Fa} {fn : List He.DefD} {ps cs : List PD} {xq : PySem.W.Frag → Bool} {K : PySem.W.Frag}
theorem SaysL.prop (c : SaysL fa fn ps cs xq K) (i : Nat) {p : PD} (hp : ps[i]? = some p := by rfl) :
    ∃ (a : Addr) (fd : FuncData), PropOf K (He.ga K p.1) p.2.1 a (propG K p.1 p.2.1) ∧ FunD K p.2.2.name p.2.2.qual p.2.2.params p.2.2.body p.2.2.scope (p.2.2.dvs K) (p.2.2.kws K) (propG K p.1 p.2.1) fd := by
  obtain ⟨h1, h2⟩ := He.ba (List.all_eq_true.mp (He.ba (He.ba c.more).2).1 p (List.mem_of_getElem? hp))
  obtain ⟨a, ha⟩ := propB_ok h1
  have e2 : (pobs ps K)[i]? = (pval ps)[i]? := by rw [c.p]
  unfold pobs pval at e2
  rw [List.getElem?_map, List.getElem?_map, hp] at e2
  obtain ⟨fd, F⟩ := funDA (Option.some.inj e2) h2
  exact ⟨a, fd, ha, F⟩
theorem SaysL.cm (c : SaysL fa fn ps cs xq K) (i : Nat) {p : PD} (hp : cs[i]? = some p := by rfl) :
    ∃ (a : Addr) (fd : FuncData), ClX.CRead K (He.ga K p.1) (.type "type") ∧ ClX.CMet K (He.ga K p.1) (.type "type") p.2.1 a (cmG K p.1 p.2.1) ∧ FunD K p.2.2.name p.2.2.qual p.2.2.params p.2.2.body p.2.2.scope (p.2.2.dvs K) (p.2.2.kws K) (cmG K p.1 p.2.1) fd := by
  obtain ⟨h1, h2⟩ := He.ba (List.all_eq_true.mp (He.ba (He.ba c.more).2).2 p (List.mem_of_getElem? hp))
  obtain ⟨r, a, ha⟩ := cmB_ok h1
  have e2 : (cobs cs K)[i]? = (pval cs)[i]? := by rw [c.q]
  unfold cobs pval at e2
  rw [List.getElem?_map, List.getElem?_map, hp] at e2
  obtain ⟨fd, F⟩ := funDA (Option.some.inj e2) h2
  exact ⟨a, fd, r, ha, F⟩
theorem SaysL.ex (c : SaysL fa fn ps cs xq K) : xq K = true := (He.ba c.more).1
end
end Kr

set_option Elab.async false
set_option linter.all false
set_option maxRecDepth 100000
set_option maxHeartbeats 2000000
namespace Kr
open PySem PySem.Spec PyProof.Rows L2
open SX (S)
open He (ga ma)
/-! ### a page in the heap -/
def pgR (t c m k r h : V) : List (Str × V) := [("text", t), ("caret", c), ("mark", m), ("kept", k), ("returned", r), ("hold", h)]
def mV : Option Nat → V
  | none => .non
  | some x => .int (x : Nat)
section
variable {t c m k r h v : V}
theorem lk_text : (pgR t c m k r h).lookup ("text" : Str) = some t := by kernel_rfl
theorem lk_caret : (pgR t c m k r h).lookup ("caret" : Str) = some c := by kernel_rfl
theorem lk_mark : (pgR t c m k r h).lookup ("mark" : Str) = some m := by kernel_rfl
theorem lk_kept : (pgR t c m k r h).lookup ("kept" : Str) = some k := by kernel_rfl
theorem lk_returned : (pgR t c m k r h).lookup ("returned" : Str) = some r := by kernel_rfl
theorem lk_hold : (pgR t c m k r h).lookup ("hold" : Str) = some h := by kernel_rfl
theorem pt_text : putF "text" v (pgR t c m k r h) = pgR v c m k r h := by kernel_rfl
theorem pt_caret : putF "caret" v (pgR t c m k r h) = pgR t v m k r h := by kernel_rfl
theorem pt_mark : putF "mark" v (pgR t c m k r h) = pgR t c v k r h := by kernel_rfl
theorem pt_kept : putF "kept" v (pgR t c m k r h) = pgR t c m v r h := by kernel_rfl
theorem pt_returned : putF "returned" v (pgR t c m k r h) = pgR t c m k v h := by kernel_rfl
theorem pt_new : putF "hold" h (putF "returned" r (putF "kept" k (putF "mark" m (putF "caret" c (putF "text" t []))))) = pgR t c m k r h := by kernel_rfl
theorem nm_act : (pgR t c m k r h).lookup ("act" : Str) = none := by kernel_rfl
theorem nm_travel : (pgR t c m k r h).lookup ("travel" : Str) = none := by kernel_rfl
theorem nm_use_mark : (pgR t c m k r h).lookup ("use_mark" : Str) = none := by kernel_rfl
theorem nm_take_one : (pgR t c m k r h).lookup ("take_one" : Str) = none := by kernel_rfl
theorem nm_ahead : (pgR t c m k r h).lookup ("ahead" : Str) = none := by kernel_rfl
theorem nm_pass_sign : (pgR t c m k r h).lookup ("pass_sign" : Str) = none := by kernel_rfl
theorem nm_advance_caret : (pgR t c m k r h).lookup ("advance_caret" : Str) = none := by kernel_rfl
theorem nm_insert : (pgR t c m k r h).lookup ("insert" : Str) = none := by kernel_rfl
theorem nm_press : (pgR t c m k r h).lookup ("press" : Str) = none := by kernel_rfl
theorem nm_move_to : (pgR t c m k r h).lookup ("move_to" : Str) = none := by kernel_rfl
theorem nm_copy : (pgR t c m k r h).lookup ("copy" : Str) = none := by kernel_rfl
theorem nm_line_start_at : (pgR t c m k r h).lookup ("line_start_at" : Str) = none := by kernel_rfl
theorem ln_pg : (pgR t c m k r h).length < 1000 := by
  show 6 < 1000
  decide
end
abbrev pgf (g : Pg) (h : Nat) : List (Str × V) := pgR (.str (S g.t)) (.int (g.c : Nat)) (mV g.m) (.str (S g.k)) (.int (g.r : Nat)) (.int (h : Nat))
/-- a page g with the bound h stands at p -/
def PageAt (K : PySem.W.Frag) (H : Hp) (p : Addr) (g : Pg) (h : Nat) : Prop := ∃ dx, H p = some (.ins (ga K "Page") dx (pgf g h))
theorem PageAt.keep {K : PySem.W.Frag} {H H' : Hp} {S : List Addr} {p : Addr} {g : Pg} {h : Nat} (a : PageAt K H p g h) (k : Kp S H H') (hp : p ∉ S) : PageAt K H' p g h := by
  obtain ⟨dx, e⟩ := a
  exact ⟨dx, k p _ hp e⟩
theorem PageAt.same {K : PySem.W.Frag} {H H' : Hp} {p : Addr} {g : Pg} {h : Nat} (a : PageAt K H p g h) (k : Same H H') : PageAt K H' p g h := by
  obtain ⟨dx, e⟩ := a
  exact ⟨dx, k p _ e⟩
/-- the class Page's facts -/
structure TP (K : PySem.W.Frag) : Prop where
  cl : Cls K (ga K "Page")
  n_text : NoAttr K (ga K "Page") "text"
  n_caret : NoAttr K (ga K "Page") "caret"
  n_mark : NoAttr K (ga K "Page") "mark"
  n_kept : NoAttr K (ga K "Page") "kept"
  n_returned : NoAttr K (ga K "Page") "returned"
  n_hold : NoAttr K (ga K "Page") "hold"
end Kr

set_option Elab.async false
set_option linter.all false
set_option maxRecDepth 100000
set_option maxHeartbeats 2000000
namespace Kr
open PySem PySem.Spec PyProof.Rows L2
open SX (S)
/-! ### recordings, plainly -/
inductive It where
  | key (s : List Nat)
  | rep (a : List It)
  | cho (a b : List It)
mutual
def It.keys : It → List (List Nat)
  | .key s => [s]
  | .rep a => keysL a
  | .cho a b => keysL a ++ keysL b
def keysL : List It → List (List Nat)
  | [] => []
  | i :: r => i.keys ++ keysL r
end
mutual
def It.reps : It → Nat
  | .key _ => 0
  | .rep a => 1 + repsL a
  | .cho a b => repsL a + repsL b
def repsL : List It → Nat
  | [] => 0
  | i :: r => i.reps + repsL r
end
mutual
def It.dep : It → Nat
  | .key _ => 0
  | .rep a => 1 + depL a
  | .cho a b => 1 + max (depL a) (depL b)
def depL : List It → Nat
  | [] => 0
  | i :: r => max i.dep (depL r)
end
mutual
def It.sz : It → Nat
  | .key _ => 1
  | .rep a => 1 + szL a
  | .cho a b => 1 + szL a + szL b
def szL : List It → Nat
  | [] => 0
  | i :: r => i.sz + szL r
end
mutual
def It.data : It → PyData
  | .key s => .str (S s)
  | .rep a => .tuple [.str (S [40]), .tuple (dataL a)]
  | .cho a b => .tuple [.str (S [91]), .tuple (dataL a), .tuple (dataL b)]
def dataL : List It → List PyData
  | [] => []
  | i :: r => i.data :: dataL r
end
/-- a written key -/
def kOk (s : List Nat) : Prop := s ≠ [] ∧ s.length ≤ 2 ∧ ∀ c ∈ s, c ∈ sgn
mutual
def It.ok : It → Prop
  | .key s => kOk s
  | .rep a => okL a
  | .cho a b => okL a ∧ okL b
def okL : List It → Prop
  | [] => True
  | i :: r => i.ok ∧ okL r
end
theorem keysL_app : ∀ a b : List It, keysL (a ++ b) = keysL a ++ keysL b
  | [], b => by simp [keysL]
  | i :: r, b => by simp [keysL, keysL_app r b]
theorem repsL_app : ∀ a b : List It, repsL (a ++ b) = repsL a + repsL b
  | [], b => by simp [repsL]
  | i :: r, b => by simp [repsL, repsL_app r b, Nat.add_assoc]
theorem depL_app : ∀ a b : List It, depL (a ++ b) = max (depL a) (depL b)
  | [], b => by simp [depL]
  | i :: r, b => by simp [depL, depL_app r b, Nat.max_assoc]
theorem szL_app : ∀ a b : List It, szL (a ++ b) = szL a + szL b
  | [], b => by simp [szL]
  | i :: r, b => by simp [szL, szL_app r b, Nat.add_assoc]
theorem okL_app : ∀ {a b : List It}, okL a → okL b → okL (a ++ b)
  | [], b, _, h => h
  | i :: r, b, ⟨h1, h2⟩, h => ⟨h1, okL_app h2 h⟩
theorem okL_mem : ∀ {a : List It} {i : It}, okL a → i ∈ a → i.ok
  | j :: r, i, ⟨h1, h2⟩, h => by
    cases h with
    | head => exact h1
    | tail _ h => exact okL_mem h2 h
theorem depL_mem : ∀ {a : List It} {i : It}, i ∈ a → i.dep ≤ depL a
  | j :: r, i, h => by
    cases h with
    | head => simp [depL]; omega
    | tail _ h => have := depL_mem h; simp [depL]; omega
theorem szL_mem : ∀ {a : List It} {i : It}, i ∈ a → i.sz ≤ szL a
  | j :: r, i, h => by
    cases h with
    | head => simp [szL]
    | tail _ h => have := szL_mem h; simp [szL]; omega
theorem len_szL : ∀ a : List It, a.length ≤ szL a
  | [] => by simp
  | i :: r => by
    have := len_szL r
    have h : 1 ≤ i.sz := by cases i <;> simp [It.sz] <;> omega
    simp [szL]; omega
mutual
theorem keys_sz : ∀ i : It, i.keys.length ≤ i.sz
  | .key s => by simp [It.keys, It.sz]
  | .rep a => by have := keysL_sz a; simp [It.keys, It.sz]; omega
  | .cho a b => by have := keysL_sz a; have := keysL_sz b; simp [It.keys, It.sz]; omega
theorem keysL_sz : ∀ a : List It, (keysL a).length ≤ szL a
  | [] => by simp [keysL]
  | i :: r => by have := keys_sz i; have := keysL_sz r; simp [keysL, szL]; omega
end
mutual
theorem reps_sz : ∀ i : It, i.reps ≤ i.sz
  | .key s => by simp [It.reps]
  | .rep a => by have := repsL_sz a; simp [It.reps, It.sz]; omega
  | .cho a b => by have := repsL_sz a; have := repsL_sz b; simp [It.reps, It.sz]; omega
theorem repsL_sz : ∀ a : List It, repsL a ≤ szL a
  | [] => by simp [repsL]
  | i :: r => by have := reps_sz i; have := repsL_sz r; simp [repsL, szL]; omega
end
mutual
theorem ok_keys : ∀ i : It, i.ok → ∀ k ∈ i.keys, kOk k
  | .key s, h, k, hk => by simp [It.keys] at hk; subst hk; exact h
  | .rep a, h, k, hk => okL_keys a h k hk
  | .cho a b, h, k, hk => by
    simp [It.keys] at hk
    rcases hk with hk | hk
    · exact okL_keys a h.1 k hk
    · exact okL_keys b h.2 k hk
theorem okL_keys : ∀ a : List It, okL a → ∀ k ∈ keysL a, kOk k
  | [], _, k, hk => by simp [keysL] at hk
  | i :: r, h, k, hk => by
    simp [keysL] at hk
    rcases hk with hk | hk
    · exact ok_keys i h.1 k hk
    · exact okL_keys r h.2 k hk
end
/-! ### as data -/
theorem strOk_sgn {s : List Nat} (h : ∀ c ∈ s, c ∈ sgn) : PyData.strOk (S s) = true := by
  have all : ∀ c ∈ sgn, c < 0x110000 := by decide
  unfold PyData.strOk
  simp [S]
  intro c hc
  exact all c (h c hc)
mutual
theorem lay_it : ∀ i : It, i.ok → PyData.canLay0 i.data = true
  | .key s, h => strOk_sgn h.2.2
  | .rep a, h => by
    show (PyData.canLay0 (.str (S [40])) && (PyData.canLay0 (.tuple (dataL a)) && true)) = true
    have e : PyData.canLay0 (.tuple (dataL a)) = true := lay_its a h
    rw [e]; decide +kernel
  | .cho a b, h => by
    show (PyData.canLay0 (.str (S [91])) && (PyData.canLay0 (.tuple (dataL a)) && (PyData.canLay0 (.tuple (dataL b)) && true))) = true
    have e : PyData.canLay0 (.tuple (dataL a)) = true := lay_its a h.1
    have e2 : PyData.canLay0 (.tuple (dataL b)) = true := lay_its b h.2
    rw [e, e2]; decide +kernel
theorem lay_its : ∀ a : List It, okL a → PyData.canLayAll0 (dataL a) = true
  | [], _ => rfl
  | i :: r, h => by
    show (PyData.canLay0 i.data && PyData.canLayAll0 (dataL r)) = true
    rw [lay_it i h.1, lay_its r h.2]; rfl
end
mutual
theorem dep_it : ∀ i : It, PyData.depth i.data ≤ 2 * i.dep
  | .key s => by simp [It.data, PyData.depth]
  | .rep a => by
    have := dep_its a
    show PyData.depthAll [.str (S [40]), .tuple (dataL a)] + 1 ≤ _
    show max (PyData.depth (.str (S [40]))) (max (PyData.depthAll (dataL a) + 1) 0) + 1 ≤ _
    have e : PyData.depth (.str (S [40])) = 0 := rfl
    simp [It.dep, e]; omega
  | .cho a b => by
    have := dep_its a
    have := dep_its b
    show max (PyData.depth (.str (S [91]))) (max (PyData.depthAll (dataL a) + 1) (max (PyData.depthAll (dataL b) + 1) 0)) + 1 ≤ _
    have e : PyData.depth (.str (S [91])) = 0 := rfl
    simp [It.dep, e]; omega
theorem dep_its : ∀ a : List It, PyData.depthAll (dataL a) ≤ 2 * depL a
  | [] => by simp [dataL, PyData.depthAll]
  | i :: r => by
    have := dep_it i
    have := dep_its r
    show max (PyData.depth i.data) (PyData.depthAll (dataL r)) ≤ _
    simp [depL]; omega
end
theorem sh_its {a : List It} (h : okL a) (hd : depL a ≤ 30) : SeqAt.shaped (.tuple (dataL a)) = true := by
  unfold SeqAt.shaped
  rw [Bool.and_eq_true]
  refine ⟨lay_its a h, decide_eq_true ?_⟩
  have := dep_its a
  show PyData.depthAll (dataL a) + 1 ≤ 64
  omega
theorem eqv_nil (a : List It) : PyData.eqv (.tuple (dataL a)) (.tuple []) = a.isEmpty := by
  cases a with
  | nil => rfl
  | cons i r => rfl
/-! ### trees in the heap: tuples -/
mutual
def Tr (H : Hp) : V → It → Prop
  | v, .key s => v = .str (S s)
  | v, .rep a => ∃ p q xs, v = .ref p ∧ H p = some (.tup [.str (S [40]), .ref q]) ∧ H q = some (.tup xs) ∧ Trs H xs a
  | v, .cho a b => ∃ p q r xs ys, v = .ref p ∧ H p = some (.tup [.str (S [91]), .ref q, .ref r]) ∧ H q = some (.tup xs) ∧ H r = some (.tup ys) ∧ Trs H xs a ∧ Trs H ys b
def Trs (H : Hp) : List V → List It → Prop
  | xs, [] => xs = []
  | xs, i :: r => ∃ v ys, xs = v :: ys ∧ Tr H v i ∧ Trs H ys r
end
/-- the tuples stay -/
def Tk (H H' : Hp) : Prop := ∀ a xs, H a = some (.tup xs) → H' a = some (.tup xs)
theorem Tk.refl {H : Hp} : Tk H H := fun _ _ h => h
theorem Tk.trans {H H1 H2 : Hp} (a : Tk H H1) (b : Tk H1 H2) : Tk H H2 := fun x u h => b x u (a x u h)
theorem Tk.same {H H' : Hp} (a : Same H H') : Tk H H' := fun x u h => a x _ h
theorem Tk.new {H H' : Hp} {p : Addr} {o : HO} (a : Tk H H') (h : H' p = none) : Tk H (upd H' p o) := fun x u q => by
  have q' := a x u q
  rw [upd_ne (ne_of_none q' h)]; exact q'
theorem Tk.lst {H H' : Hp} {p : Addr} {o : HO} {ys : List V} (a : Tk H H') (h : H' p = some (.lst ys)) : Tk H (upd H' p o) := fun x u q => by
  have q' := a x u q
  rw [upd_ne (ne_of q' h (by intro z; cases z))]; exact q'
theorem Tk.kp {H H' : Hp} {T : List Addr} (k : Kp T H H') (h : ∀ p ∈ T, ∃ ys, H p = some (.lst ys)) : Tk H H' := fun x u q => k x _ (fun m => by
  obtain ⟨ys, e⟩ := h x m
  rw [q] at e; cases e) q
mutual
theorem Tr.keep {H H' : Hp} (k : Tk H H') : ∀ {v : V} (i : It), Tr H v i → Tr H' v i
  | v, .key s, h => h
  | v, .rep a, h => by
    obtain ⟨p, q, xs, e, h1, h2, t⟩ := h
    exact ⟨p, q, xs, e, k _ _ h1, k _ _ h2, Trs.keep k a t⟩
  | v, .cho a b, h => by
    obtain ⟨p, q, r, xs, ys, e, h1, h2, h3, t, u⟩ := h
    exact ⟨p, q, r, xs, ys, e, k _ _ h1, k _ _ h2, k _ _ h3, Trs.keep k a t, Trs.keep k b u⟩
theorem Trs.keep {H H' : Hp} (k : Tk H H') : ∀ {xs : List V} (a : List It), Trs H xs a → Trs H' xs a
  | xs, [], h => h
  | xs, i :: r, h => by
    obtain ⟨v, ys, e, h1, h2⟩ := h
    exact ⟨v, ys, e, Tr.keep k i h1, Trs.keep k r h2⟩
end
theorem Trs.len {H : Hp} : ∀ {xs : List V} {a : List It}, Trs H xs a → xs.length = a.length
  | xs, [], h => by have e : xs = [] := h; simp [e]
  | xs, i :: r, h => by
    obtain ⟨v, ys, rfl, _, h2⟩ := h
    simp [Trs.len h2]
theorem Trs.app {H : Hp} : ∀ {xs ys : List V} {a b : List It}, Trs H xs a → Trs H ys b → Trs H (xs ++ ys) (a ++ b)
  | xs, ys, [], b, h, h' => by have e : xs = [] := h; subst e; exact h'
  | xs, ys, i :: r, b, h, h' => by
    obtain ⟨v, zs, rfl, h1, h2⟩ := h
    exact ⟨v, zs ++ ys, rfl, h1, Trs.app h2 h'⟩
theorem Trs.one {H : Hp} {v : V} {i : It} (h : Tr H v i) : Trs H [v] [i] := ⟨v, [], rfl, h, rfl⟩
theorem Trs.at {H : Hp} : ∀ {xs : List V} {a : List It} {j : Nat} {v : V}, Trs H xs a → xs[j]? = some v → ∃ i, a[j]? = some i ∧ Tr H v i
  | xs, [], j, v, h, e => by have e' : xs = [] := h; subst e'; simp at e
  | xs, i :: r, 0, v, h, e => by
    obtain ⟨v', ys, rfl, h1, h2⟩ := h
    simp at e
    subst e
    exact ⟨i, rfl, h1⟩
  | xs, i :: r, j + 1, v, h, e => by
    obtain ⟨v', ys, rfl, h1, h2⟩ := h
    simp at e
    obtain ⟨i', e1, t⟩ := Trs.at h2 e
    exact ⟨i', by simpa using e1, t⟩
mutual
theorem Tr.dp {K : PySem.W.Frag} {H : Hp} : ∀ {v : V} (i : It), Tr H v i → Dp K H v i.data
  | v, .key s, h => by have e : v = .str (S s) := h; subst e; exact .str _
  | v, .rep a, h => by
    obtain ⟨p, q, xs, rfl, h1, h2, t⟩ := h
    exact .tup (SqT.of h1) (.cons (.str _) (.cons (.tup (SqT.of h2) (Trs.dp a t)) .nil))
  | v, .cho a b, h => by
    obtain ⟨p, q, r, xs, ys, rfl, h1, h2, h3, t, u⟩ := h
    exact .tup (SqT.of h1) (.cons (.str _) (.cons (.tup (SqT.of h2) (Trs.dp a t)) (.cons (.tup (SqT.of h3) (Trs.dp b u)) .nil)))
theorem Trs.dp {K : PySem.W.Frag} {H : Hp} : ∀ {xs : List V} (a : List It), Trs H xs a → DpAll K H xs (dataL a)
  | xs, [], h => by have e : xs = [] := h; subst e; exact .nil
  | xs, i :: r, h => by
    obtain ⟨v, ys, rfl, h1, h2⟩ := h
    exact .cons (Tr.dp i h1) (Trs.dp r h2)
end
/-- the items a at the address p -/
def ItsAt (H : Hp) (p : Addr) (a : List It) : Prop := ∃ xs, H p = some (.tup xs) ∧ Trs H xs a
theorem ItsAt.keep {H H' : Hp} {p : Addr} {a : List It} (k : Tk H H') (h : ItsAt H p a) : ItsAt H' p a := by
  obtain ⟨xs, e, t⟩ := h
  exact ⟨xs, k _ _ e, t.keep k⟩
theorem ItsAt.nil {H : Hp} {p : Addr} (h : H p = some (.tup [])) : ItsAt H p [] := ⟨[], h, rfl⟩
end Kr

set_option Elab.async false
set_option linter.all false
set_option maxRecDepth 100000
set_option maxHeartbeats 2000000
namespace Kr
open PySem PySem.Spec PyProof.Rows L2
open SX (S)
/-! ### reading, plainly -/
/-- an open bracket: which, the items ahead of it, the first half -/
structure Grp where
  c : Nat
  o : List It
  f : Option (List It)
abbrev plk : List Nat := [62, 120, 119, 110, 36, 94, 109, 98, 107, 99, 112]
abbrev sgk : List Nat := [39, 61, 47]
abbrev brs : List Nat := [40, 91, 124, 93, 41]
abbrev ltr : List Nat := [97, 98, 99, 100, 101, 102, 103, 104, 105, 106, 107, 108, 109, 110, 111, 112, 113, 114, 115, 116, 117, 118, 119, 120, 121, 122]
/-- one bracket; the innermost open one stands first -/
def brk (c : Nat) (gs : List Grp) (its : List It) : Option (List Grp × List It) :=
  if c = 40 ∨ c = 91 then (if gs.length = 8 then none else some (⟨c, its, none⟩ :: gs, []))
  else match gs with
    | [] => none
    | g :: r =>
      if c = 41 ∧ g.c = 40 ∧ its.isEmpty = false then some (r, g.o ++ [.rep its])
      else if c = 124 ∧ g.c = 91 ∧ g.f.isNone = true ∧ its.isEmpty = false then some (⟨g.c, g.o, some its⟩ :: r, [])
      else if c = 93 ∧ g.c = 91 then match g.f with
        | some f => some (r, g.o ++ [.cho f its])
        | none => none
      else none
/-- what key_length tells: the length, or how far the fault lies -/
def kl (ca : Bool) : List Nat → Nat ⊕ Nat
  | [] => .inl 0
  | c :: t =>
    if c ∈ plk then .inr 1
    else if c ∈ sgk ∨ (ca = true ∧ c = 64) then match t with
      | [] => .inl 1
      | d :: _ => if d ∈ (if c = 64 then ltr else sgn) then .inr 2 else .inl 1
    else if c ∈ brs then .inr 0
    else .inl 0
/-- read from the place i on: the items, or the fault's place -/
def rd (ca : Bool) : Nat → Nat → List Nat → List Grp → List It → Nat ⊕ List It
  | _, i, [], gs, its => if gs.isEmpty then .inr its else .inl i
  | 0, i, _, _, _ => .inl i
  | n + 1, i, c :: t, gs, its => match kl ca (c :: t) with
    | .inl k => .inl (i + k)
    | .inr 0 => match brk c gs its with
      | none => .inl i
      | some (g2, i2) => rd ca n (i + 1) t g2 i2
    | .inr (k + 1) => rd ca n (i + (k + 1)) (t.drop k) gs (its ++ [.key (c :: t.take k)])
/-- enough turns are enough -/
theorem rd_more (ca : Bool) : ∀ (n m i : Nat) (t : List Nat) (gs : List Grp) (its : List It), t.length ≤ n → t.length ≤ m → rd ca n i t gs its = rd ca m i t gs its
  | n, m, i, [], gs, its, _, _ => by cases n <;> cases m <;> simp [rd]
  | n + 1, m + 1, i, c :: t, gs, its, h1, h2 => by
    simp at h1 h2
    simp only [rd]
    split
    · rfl
    · split
      · rfl
      · exact rd_more ca n m _ _ _ _ (by omega) (by omega)
    · exact rd_more ca n m _ _ _ _ (by simp; omega) (by simp; omega)
/-- the text t, read -/
def read (ca : Bool) (t : List Nat) : Nat ⊕ List It := rd ca t.length 0 t [] []
/-- what stands while one reads -/
def Gd : List Grp → Prop
  | [] => True
  | g :: r => r.length < 8 ∧ depL g.o + r.length ≤ 8 ∧ okL g.o ∧ (∀ f, g.f = some f → depL f + r.length + 1 ≤ 8 ∧ okL f) ∧ Gd r
def Gz : List Grp → Nat
  | [] => 0
  | g :: r => szL g.o + (match g.f with | some f => szL f | none => 0) + Gz r
structure RdOk (i : Nat) (gs : List Grp) (its : List It) : Prop where
  g : Gd gs
  d : depL its + gs.length ≤ 8
  o : okL its
  z : Gz gs + szL its ≤ i
theorem rdOk0 : RdOk 0 [] [] := ⟨trivial, by simp [depL], trivial, by simp [Gz, szL]⟩
theorem brk_ok {c i : Nat} {gs g2 : List Grp} {its i2 : List It} (h : brk c gs its = some (g2, i2)) (o : RdOk i gs its) : RdOk (i + 1) g2 i2 := by
  obtain ⟨og, od, oo, oz⟩ := o
  unfold brk at h
  split at h
  · split at h
    · cases h
    · rename_i h8
      cases h
      refine ⟨⟨by omega, by omega, oo, fun f z => (by cases z), og⟩, by simp [depL]; omega, trivial, ?_⟩
      simp [Gz, szL]; omega
  · split at h
    · cases h
    · rename_i g r
      obtain ⟨a1, a2, a3, a4, a5⟩ := og
      simp at od
      simp only [Gz] at oz
      split at h
      · cases h
        refine ⟨a5, ?_, okL_app a3 ⟨oo, trivial⟩, ?_⟩
        · rw [depL_app]; simp [depL, It.dep]; omega
        · rw [szL_app]; simp [szL, It.sz]; omega
      · split at h
        · rename_i hc
          have hf : g.f = none := by simpa using hc.2.2.1
          rw [hf] at oz
          simp only at oz
          cases h
          refine ⟨⟨a1, a2, a3, ?_, a5⟩, by simp [depL]; omega, trivial, ?_⟩
          · intro f e
            cases e
            exact ⟨by omega, oo⟩
          · simp [Gz, szL]; omega
        · split at h
          · split at h
            · rename_i f hf
              obtain ⟨b1, b2⟩ := a4 f hf
              rw [hf] at oz
              simp only at oz
              cases h
              refine ⟨a5, ?_, okL_app a3 ⟨⟨b2, oo⟩, trivial⟩, ?_⟩
              · rw [depL_app]; simp [depL, It.dep]; omega
              · rw [szL_app]; simp [szL, It.sz]; omega
            · cases h
          · cases h
theorem key_ok {i k : Nat} {gs : List Grp} {its : List It} {s : List Nat} (o : RdOk i gs its) (hs : kOk s) (hk : 1 ≤ k) : RdOk (i + k) gs (its ++ [.key s]) := by
  obtain ⟨og, od, oo, oz⟩ := o
  refine ⟨og, ?_, okL_app oo ⟨hs, trivial⟩, ?_⟩
  · rw [depL_app]; simp [depL, It.dep]; omega
  · rw [szL_app]; simp [szL, It.sz]; omega
theorem kl_ok {ca : Bool} {c k : Nat} {t : List Nat} (h : kl ca (c :: t) = .inr (k + 1)) : kOk (c :: t.take k) ∧ k ≤ t.length := by
  have p1 : ∀ x ∈ plk, x ∈ sgn := by decide
  have p2 : ∀ x ∈ sgk, x ∈ sgn := by decide
  have p3 : ∀ x ∈ ltr, x ∈ sgn := by decide
  simp only [kl] at h
  split at h
  · rename_i hc
    cases h
    exact ⟨⟨by simp, by simp, by simp; exact p1 c hc⟩, by simp⟩
  · split at h
    · rename_i hc
      have hc' : c ∈ sgn := by
        rcases hc with hc | ⟨_, rfl⟩
        · exact p2 c hc
        · decide
      split at h
      · cases h
      · rename_i d t'
        by_cases hd : d ∈ (if c = 64 then ltr else sgn)
        · rw [if_pos hd] at h
          cases h
          have hd' : d ∈ sgn := by
            split at hd
            · exact p3 d hd
            · exact hd
          exact ⟨⟨by simp, by simp, by simp; exact ⟨hc', hd'⟩⟩, by simp⟩
        · rw [if_neg hd] at h
          cases h
    · split at h <;> cases h
theorem rd_ok (ca : Bool) : ∀ (n i : Nat) (t : List Nat) (gs : List Grp) (its r : List It), rd ca n i t gs its = .inr r → RdOk i gs its → okL r ∧ depL r ≤ 8 ∧ szL r ≤ i + t.length
  | n, i, [], gs, its, r, h, o => by
    have h' : (if gs.isEmpty then (.inr its : Nat ⊕ List It) else .inl i) = .inr r := by cases n <;> simpa [rd] using h
    split at h'
    · cases h'
      rename_i hg
      have e : gs = [] := by simpa using hg
      subst e
      have := o.d
      have := o.z
      simp [Gz] at this
      exact ⟨o.o, by simp at *; omega, by simp; omega⟩
    · cases h'
  | 0, i, c :: t, gs, its, r, h, o => by simp [rd] at h
  | n + 1, i, c :: t, gs, its, r, h, o => by
    simp only [rd] at h
    split at h
    · cases h
    · split at h
      · cases h
      · rename_i hb
        obtain ⟨a, b, c⟩ := rd_ok ca n _ _ _ _ _ h (brk_ok hb o)
        exact ⟨a, b, by simp; omega⟩
    · rename_i k hk
      obtain ⟨k1, k2⟩ := kl_ok hk
      obtain ⟨a, b, c⟩ := rd_ok ca n _ _ _ _ _ h (key_ok o k1 (by omega))
      refine ⟨a, b, ?_⟩
      simp at c ⊢
      omega
theorem read_ok {ca : Bool} {t : List Nat} {r : List It} (h : read ca t = .inr r) : okL r ∧ depL r ≤ 8 ∧ szL r ≤ t.length := by
  obtain ⟨a, b, c⟩ := rd_ok ca _ _ _ _ _ _ h rdOk0
  exact ⟨a, b, by omega⟩
/-! ### open brackets in the heap -/
def GrV (H : Hp) (v : V) (g : Grp) : Prop := ∃ (p q : Addr) (fv : V), v = .ref p ∧ H p = some (.tup [.str (S [g.c]), .ref q, fv]) ∧ ItsAt H q g.o ∧ (match g.f with | none => fv = .non | some f => ∃ r : Addr, fv = .ref r ∧ ItsAt H r f)
def Grs (H : Hp) : List V → List Grp → Prop
  | xs, [] => xs = []
  | xs, g :: r => ∃ ys v, xs = ys ++ [v] ∧ GrV H v g ∧ Grs H ys r
theorem GrV.keep {H H' : Hp} {v : V} {g : Grp} (k : Tk H H') (h : GrV H v g) : GrV H' v g := by
  obtain ⟨p, q, fv, e, h1, h2, h3⟩ := h
  refine ⟨p, q, fv, e, k _ _ h1, h2.keep k, ?_⟩
  split at h3
  · exact h3
  · obtain ⟨r, e, h⟩ := h3
    exact ⟨r, e, h.keep k⟩
theorem Grs.keep {H H' : Hp} (k : Tk H H') : ∀ {xs : List V} (gs : List Grp), Grs H xs gs → Grs H' xs gs
  | xs, [], h => h
  | xs, g :: r, h => by
    obtain ⟨ys, v, e, h1, h2⟩ := h
    exact ⟨ys, v, e, h1.keep k, Grs.keep k r h2⟩
theorem Grs.len {H : Hp} : ∀ {xs : List V} {gs : List Grp}, Grs H xs gs → xs.length = gs.length
  | xs, [], h => by have e : xs = [] := h; simp [e]
  | xs, g :: r, h => by
    obtain ⟨ys, v, rfl, _, h2⟩ := h
    simp [Grs.len h2]
/-- the open brackets gs at the address p -/
def GrsAt (H : Hp) (p : Addr) (gs : List Grp) : Prop := ∃ xs, H p = some (.tup xs) ∧ Grs H xs gs
theorem GrsAt.keep {H H' : Hp} {p : Addr} {gs : List Grp} (k : Tk H H') (h : GrsAt H p gs) : GrsAt H' p gs := by
  obtain ⟨xs, e, t⟩ := h
  exact ⟨xs, k _ _ e, t.keep k⟩
theorem GrsAt.nil {H : Hp} {p : Addr} (h : H p = some (.tup [])) : GrsAt H p [] := ⟨[], h, rfl⟩
/-- one turn of the reading -/
theorem rd_step {ca : Bool} {n : List Nat} {i c : Nat} {gs : List Grp} {its : List It} (hi : i < n.length) (hc : n[i]? = some c) :
    rd ca (n.length - i) i (n.drop i) gs its = match kl ca (n.drop i) with
      | .inl k => .inl (i + k)
      | .inr 0 => (match brk c gs its with
        | none => .inl i
        | some (g2, i2) => rd ca (n.length - (i + 1)) (i + 1) (n.drop (i + 1)) g2 i2)
      | .inr (k + 1) => rd ca (n.length - (i + (k + 1))) (i + (k + 1)) (n.drop (i + (k + 1))) gs (its ++ [.key ((n.drop i).take (k + 1))]) := by
  have e0 : n[i] = c := by rw [List.getElem?_eq_getElem hi] at hc; exact Option.some.inj hc
  have e : n.drop i = c :: n.drop (i + 1) := by rw [List.drop_eq_getElem_cons hi, e0]
  obtain ⟨m, em⟩ : ∃ m, n.length - i = m + 1 := ⟨n.length - i - 1, by omega⟩
  have em2 : n.length - (i + 1) = m := by omega
  rw [e, em, em2]
  simp only [rd]
  split
  · rfl
  · rfl
  · rename_i k hk
    have e3 : n.drop (i + (k + 1)) = (n.drop (i + 1)).drop k := by rw [List.drop_drop]; congr 1; omega
    rw [e3]
    have e4 : (c :: n.drop (i + 1)).take (k + 1) = c :: (n.drop (i + 1)).take k := rfl
    rw [e4]
    exact rd_more ca _ _ _ _ _ _ (by simp; omega) (by simp; omega)
theorem rd_nil (ca : Bool) (n i : Nat) (gs : List Grp) (its : List It) : rd ca n i [] gs its = if gs.isEmpty then .inr its else .inl i := by cases n <;> rfl
theorem kl_two {ca : Bool} {t : List Nat} {k : Nat} (h : kl ca t = .inr k) : k ≤ t.length := by
  cases t with
  | nil => simp [kl] at h
  | cons c t =>
    cases k with
    | zero => simp
    | succ k => have := (kl_ok h).2; simp; omega
theorem kl_brs {ca : Bool} {c : Nat} {t : List Nat} (h : kl ca (c :: t) = .inr 0) : c ∈ brs := by
  simp only [kl] at h
  split at h
  · cases h
  · split at h
    · split at h
      · cases h
      · rename_i d t'
        by_cases hd : d ∈ (if c = 64 then ltr else sgn)
        · rw [if_pos hd] at h; cases h
        · rw [if_neg hd] at h; cases h
    · split at h
      · assumption
      · cases h
end Kr

set_option Elab.async false
set_option linter.all false
set_option maxRecDepth 100000
set_option maxHeartbeats 2000000
namespace Kr
open PySem PySem.Spec PyProof.Rows L2
open SX (S)
section
variable {X : Cx}
/-- a test whose answer is told once -/
def tCutT (t : TT) : TT := fun σ H Q => ∃ P : Bool → Hp → Prop, t σ H P ∧ ∀ b H1, P b H1 → Q b H1
theorem pt_cut {e : Expr} {t : TT} (h : PT X e t) : PT X e (tCutT t) := ⟨fun pins s σ H Q I ⟨P, hp, m⟩ => thn (h.run pins s σ H P I hp) fun b s1 ⟨H1, I1, q⟩ => ⟨H1, I1, m _ _ q⟩⟩
/-- the answer of a test that changes nothing -/
abbrev Ans (H : Hp) (c : Prop) : Bool → Hp → Prop := fun b H1 => H1 = H ∧ (b = true ↔ c)
theorem ansT {H : Hp} {c : Prop} (h : c) : Ans H c true H := ⟨rfl, by simp [h]⟩
theorem ansF {H : Hp} {c : Prop} (h : ¬ c) : Ans H c false H := ⟨rfl, by simp [h]⟩
theorem if3 {H : Hp} {C : Prop} {A B : Hp → Prop} (h1 : C → A H) (h2 : ¬ C → B H) : ∀ b H1, Ans H C b H1 → if b = true then A H1 else B H1 := by
  rintro b H1 ⟨rfl, e⟩
  cases b with
  | true => exact h1 (e.mp rfl)
  | false => exact h2 (fun z => by cases e.mpr z)
/-- the answer of a test that may lay new things -/
abbrev AnsS (H : Hp) (c : Prop) : Bool → Hp → Prop := fun b H1 => Same H H1 ∧ (b = true ↔ c)
theorem ansST {H H1 : Hp} {c : Prop} (s : Same H H1) (h : c) : AnsS H c true H1 := ⟨s, by simp [h]⟩
theorem ansSF {H H1 : Hp} {c : Prop} (s : Same H H1) (h : ¬ c) : AnsS H c false H1 := ⟨s, by simp [h]⟩
theorem if3S {H : Hp} {C : Prop} {A B : Hp → Prop} (h1 : ∀ H1, Same H H1 → C → A H1) (h2 : ∀ H1, Same H H1 → ¬ C → B H1) : ∀ b H1, AnsS H C b H1 → if b = true then A H1 else B H1 := by
  rintro b H1 ⟨s, e⟩
  cases b with
  | true => exact h1 H1 s (e.mp rfl)
  | false => exact h2 H1 s (fun z => by cases e.mpr z)
theorem sNew {H H' : Hp} {p : Addr} {o : HO} (a : Same H H') (h : H' p = none) : Same H (upd H' p o) := fun x u q => by
  have q' := a x u q
  rw [upd_ne (ne_of_none q' h)]; exact q'
theorem sMut {H H' : Hp} {p : Addr} {o : HO} (a : Same H H') (h : H p = none) : Same H (upd H' p o) := fun x u q => by
  rw [upd_ne (ne_of_none q h)]; exact a x u q
/-- t + u, tuples -/
def rCatW : R2 := fun x y H Q => ∃ a b xs ys, x = .ref a ∧ y = .ref b ∧ H a = some (.tup xs) ∧ H b = some (.tup ys) ∧ xs.length + ys.length ≤ 100000 ∧ ∀ H' p, Same H H' → H' p = some (.tup (xs ++ ys)) → Q (.ref p) H'
theorem op_catW : OpR X (binaryOp .Add) rCatW := opImp op_catA fun x y H Q ⟨a, b, xs, ys, e1, e2, h1, h2, hl, q⟩ => by
  refine ⟨a, b, xs, ys, e1, e2, SqT.of h1, SqT.of h2, leSz hl, fun e => ?_, fun _ e => ?_, fun _ _ p hp => ?_⟩
  · subst e
    exact q _ _ (Same.refl H) h2
  · subst e
    exact q _ _ (Same.refl H) (by rw [List.append_nil]; exact h1)
  · exact q _ _ (sNew (Same.refl H) hp) upd_same
/-- t[lo:hi], a tuple -/
def rSlW : V → Option Int → Option Int → Hp → VK → Prop := fun x lo hi H Q => ∃ a xs, x = .ref a ∧ H a = some (.tup xs) ∧ ∀ H' p, Same H H' → H' p = some (.tup (cutV xs lo hi)) → Q (.ref p) H'
theorem cutV_whole {xs : List V} {lo hi : Option Int} (h : HT.sIx xs.length 0 lo = 0 ∧ HT.sIx xs.length xs.length hi = xs.length) : cutV xs lo hi = xs := by
  unfold cutV
  rw [h.1, h.2]; simp
theorem sl_tupW : SlR X rSlW := slImp sl_tupA fun x lo hi H Q ⟨a, xs, e1, h1, q⟩ => by
  refine ⟨a, xs, e1, SqT.of h1, fun h => ?_, fun h p hp => ?_⟩
  · exact q _ _ (Same.refl H) (by rw [cutV_whole h]; exact h1)
  · exact q _ _ (sNew (Same.refl H) hp) upd_same
theorem cutV_init (ys : List V) (v : V) : cutV (ys ++ [v]) none (some (-1)) = ys := by
  have e : HT.sIx (ys ++ [v]).length (ys ++ [v]).length (some (-1)) = ys.length := by
    simp [HT.sIx]; omega
  unfold cutV
  rw [e]
  simp [HT.sIx]
theorem ix_tupK {K : PySem.W.Frag} (h : X.K = K) : IxR X (rIxT K) := by
  subst h
  exact ix_tup
theorem pg_tupK {K : PySem.W.Frag} {es : List Expr} {k : Nat} {t : TGs} {pos : Pos} (n : Nat) (hK : X.K = K) (hc : X.calm = true) (h : PGs X es t)
    (hn : (assignEach es X.env).length = n := by rfl) (hst : (assignEach es X.env).findIdx? (·.1) = none := by rfl) : PG X (.Tuple es k pos) (gTup K n t) := by
  subst hK
  exact pg_tup hc h hn hst
end
end Kr

set_option Elab.async false
set_option linter.all false
set_option maxRecDepth 100000
set_option maxHeartbeats 2000000
/-! ### methods that Python itself calls: str(o), len(o), x in o -/
namespace Kr
open PySem PySem.Spec PyProof.Rows L2
section
variable {X : Cx} {k j : Nat} {C : Addr} {m : Str} {sp : Sp}
theorem runSp {A : Around} {E' : Value → Shared → Prop} {pins : List (Addr × Obj)} {σ : L2.St} {H : Hp} {s : Shared} {Q : VK} {us : List Value} {vs : List V} {f : Addr} {fd : FuncData} {ps : List Str} (F : FnOk X.prog X.w X.K X.mg X.base (CX X.prog X.w) k f fd ps sp) (hr : Room k A) (he : Env0 X.prog X.w X.K X.mg X.base A X.stack s H) (hb : Binds X.K fd ps [])
    (I : Inv X pins σ H s) (r : Vals vs us) (h : sp vs H Q E0) : wpAny (model X.prog X.w) A (call (.ref f) us) (EP X pins σ Q) E' s := by
  have hl : (us ++ []).length = ps.length := by rw [List.append_nil, ← r.length]; exact F.len _ _ _ _ h
  refine wpAny_call (codeAny_mono (F.run A X.stack s H ⟨us, []⟩ (us ++ []) vs Q E0 hr he (hb s us I.kIn hl) (by rw [List.append_nil]; exact r) h) fun r s' hq => ?_)
  cases r with
  | error e => exact False.elim (passL (X := X.nox) pins σ H s e s' (I.wish _) hq)
  | ok fl =>
    cases fl with
    | ret u => exact I.after hq
    | next => exact False.elim hq
    | brk => exact False.elim hq
    | cont => exact False.elim hq
/-- str(o) by an own __str__ -/
def rStrO (C : Addr) (sp : Sp) : List V → Hp → VK → Prop := fun xs H Q => ∃ a dx fs, xs = [.ref a] ∧ H a = some (.ins C dx fs) ∧ sp [.ref a] H (fun v H' => ∃ x, v = .str x ∧ Q (.str x) H') E0
theorem call_strO (c : KMet X.prog X.w X.K X.mg X.base k C "__str__" sp) (hr : Room j X.A) (hk : k + 2 ≤ j) : CallR X (.type "str") (rStrO C sp) := by
  intro pins s σ H xs us Q I r h
  obtain ⟨a, dx, fs, rfl, ea, q⟩ := h
  obtain ⟨u, rfl, ru⟩ := vals1 r
  obtain rfl : u = Value.ref a := ru
  obtain ⟨f, fd, ps, hc, hm, F, b⟩ := c.ex
  obtain ⟨mA, O, _, _, _, _⟩ := ins_get I.hok ea
  obtain ⟨od, J, _⟩ := O.look
  have hr2 : Room k X.A.in1.in1 := (hr.mono hk).in1.in1
  refine PySem.W.kso_call (by have := hr2.un; omega) I.kIn J hm.at_ hm.fn ?_
  refine wpAny_mono (runSp F hr2 I.env0.in1.in1 b I (vs := [.ref a]) (.cons rfl .nil) q) (fun r s' hq => ?_) fun _ _ z => z
  obtain ⟨v, H', I', rv, x, rfl, q'⟩ := hq
  obtain ⟨t, rfl⟩ := rv
  exact ⟨.str x, H', I', ⟨t, rfl⟩, q'⟩
/-- len(o) by an own __len__ -/
def rLenO (C : Addr) (sp : Sp) : List V → Hp → VK → Prop := fun xs H Q => ∃ a dx fs, xs = [.ref a] ∧ H a = some (.ins C dx fs) ∧ sp [.ref a] H (fun v H' => ∃ n : Int, v = .int n ∧ 0 ≤ n ∧ n < 2 ^ 63 ∧ Q (.int n) H') E0
theorem call_lenO (c : KMet X.prog X.w X.K X.mg X.base k C "__len__" sp) (hr : Room j X.A) (hk : k + 1 ≤ j) : CallR X (.builtin "len") (rLenO C sp) := by
  intro pins s σ H xs us Q I r h
  obtain ⟨a, dx, fs, rfl, ea, q⟩ := h
  obtain ⟨u, rfl, ru⟩ := vals1 r
  obtain rfl : u = Value.ref a := ru
  obtain ⟨f, fd, ps, hc, hm, F, b⟩ := c.ex
  obtain ⟨mA, O, _, _, _, _⟩ := ins_get I.hok ea
  obtain ⟨od, J, _⟩ := O.look
  have hr2 : Room k X.A.in1 := (hr.mono hk).in1
  refine Calls.call_function_entry kind_len plain_len entry_len (args_len1 _) ?_
  unfold Builtin.«len»
  refine wpAny_bind (m := oneArg "len" _) (wpAny_pure ?_)
  refine wpAny_bind (m := callSpecial? (.ref a) (Str.ofString "__len__")) (PySem.W.special_fn I.kIn J hm.at_ (beq_iff_eq.mp hm.fn) (wpAny_mono (runSp F hr2 I.env0.in1 b I (vs := [.ref a]) (.cons rfl .nil) q) (fun r s' hq => ?_) fun _ _ y => y))
  obtain ⟨v, H', I', rv, n, rfl, h0, h1, q'⟩ := hq
  obtain ⟨t, rfl⟩ := rv
  refine wpAny_bind (wpAny_holding (wpAny_pure ?_))
  refine wpAny_bind (wpAny_letGo ?_)
  show wpAny _ _ (if n < 0 then _ else _) _ _ _
  rw [if_neg (by omega)]
  show wpAny _ _ (if n ≥ 2 ^ 63 then _ else _) _ _ _
  rw [if_neg (by omega)]
  exact wpAny_bind (wpAny_mkInt (wpAny_pure ⟨_, rfl, ⟨.int n, H', I'.tok _, ⟨_, rfl⟩, q'⟩⟩))
/-- repr(o) by an own __repr__ -/
theorem call_reprO (c : KMet X.prog X.w X.K X.mg X.base k C "__repr__" sp) (hr : Room j X.A) (hk : k + 1 ≤ j) : CallR X (.builtin "repr") (rStrO C sp) := by
  intro pins s σ H xs us Q I r h
  obtain ⟨a, dx, fs, rfl, ea, q⟩ := h
  obtain ⟨u, rfl, ru⟩ := vals1 r
  obtain rfl : u = Value.ref a := ru
  obtain ⟨f, fd, ps, hc, hm, F, b⟩ := c.ex
  obtain ⟨mA, O, _, _, _, _⟩ := ins_get I.hok ea
  obtain ⟨od, J, _⟩ := O.look
  have hr2 : Room k X.A.in1 := (hr.mono hk).in1
  refine Calls.call_function_entry PySem.F.kind_repr PySem.F.plain_repr PySem.F.entry_repr (PySem.F.args_repr1 _) ?_
  unfold Builtin.«repr»
  refine wpAny_bind (m := oneArg "repr" _) (wpAny_pure ?_)
  refine wpAny_bind (wpAny_cRoomFor (by have := hr2.un; omega) ?_)
  refine wpAny_bind (wpAny_bind (J.type.here ((PySem.W.looks_findIn I.kIn hm.at_).here ?_)))
  show wpAny _ _ (if (some (Value.ref f)).isNone = true then _ else _) _ _ _
  rw [if_neg (by simp)]
  refine wpAny_bind (m := callSpecialIfBound? (.ref a) (Str.ofString "__repr__") _) (PySem.W.ifBound_K I.kIn J hm.at_ hm.fn (wpAny_mono (runSp F hr2 I.env0.in1 b I (vs := [.ref a]) (.cons rfl .nil) q) (fun r s' hq => ?_) fun _ _ y => y))
  obtain ⟨v, H', I', rv, x, rfl, q'⟩ := hq
  obtain ⟨t, rfl⟩ := rv
  refine wpAny_bind (wpAny_isInstance (typeIs_str _ _ _) isSubtype_str_str ?_)
  first
    | exact wpAny_pure ⟨_, rfl, ⟨.str x, H', I', ⟨t, rfl⟩, q'⟩⟩
    | (rw [if_pos rfl]; exact wpAny_pure ⟨_, rfl, ⟨.str x, H', I', ⟨t, rfl⟩, q'⟩⟩)
    | (simp only [if_true]; exact wpAny_pure ⟨_, rfl, ⟨.str x, H', I', ⟨t, rfl⟩, q'⟩⟩)
/-- x in o by an own __contains__ -/
def rInO (C : Addr) (sp : Sp) : R2 := fun x y H Q => ∃ a dx fs, y = .ref a ∧ H a = some (.ins C dx fs) ∧ sp [.ref a, x] H (fun v H' => ∃ b : Bool, v = .bl b ∧ Q (.bl b) H') E0
theorem op_inO (c : KMet X.prog X.w X.K X.mg X.base k C "__contains__" sp) (hr : Room j X.A) (hk : k ≤ j) : OpR X (compareOp .In) (rInO C sp) := by
  intro pins s σ H x y v u Q I rx ry h
  obtain ⟨a, dx, fs, rfl, ea, q⟩ := h
  obtain rfl : u = Value.ref a := ry
  obtain ⟨f, fd, ps, hc, hm, F, b⟩ := c.ex
  obtain ⟨mA, O, _, _, _, _⟩ := ins_get I.hok ea
  obtain ⟨od, J, _⟩ := O.look
  show wpAny _ _ (contains (.ref a) v >>= fun b => pure (Value.bool b)) _ _ _
  refine wpAny_bind ?_
  unfold contains
  refine wpAny_holding (wpAny_bind (wpAny_bind (J.type.here ((PySem.W.looks_findIn I.kIn hm.at_).here ?_))))
  rw [if_neg (by simp)]
  refine wpAny_bind (PySem.W.unlessNone_K I.kIn J hm.at_ hm.fn ?_)
  refine wpAny_mono (runSp F (hr.mono hk) I.env0 b I (vs := [.ref a, x]) (.cons rfl (.cons rx .nil)) q) (fun r s' hq => ?_) fun _ _ z => z
  obtain ⟨v2, H', I', rv, bb, rfl, q'⟩ := hq
  cases (show r = Value.bool bb from rv)
  refine wpAny_mono (wpAny_truthy_bool ?_) (fun r s' z => wpAny_pure z) fun _ _ z => z
  exact ⟨.bl bb, H', I', rfl, q'⟩
/-- str(x), x a text or an object of the class C -/
@[irreducible] def rStrR (C : Addr) (sp : Sp) : List V → Hp → VK → Prop := fun xs H Q => (∃ a : List Nat, xs = [.str (SX.S a)] ∧ Q (.str (SX.S a)) H) ∨ rStrO C sp xs H Q
theorem call_strR (c : KMet X.prog X.w X.K X.mg X.base k C "__str__" sp) (hr : Room j X.A) (hk : k + 2 ≤ j) : CallR X (.type "str") (rStrR C sp) := by
  intro pins s σ H xs us Q I r h
  unfold rStrR at h
  rcases h with ⟨a, e, q⟩ | h
  · exact SkE.call_str_str pins s σ H xs us Q I r ⟨_, e, q⟩
  · exact call_strO c hr hk pins s σ H xs us Q I r h
theorem walk_S {a : List Nat} : Walk (Its (SX.S a)) a.length (fun _ => True) (fun i H x H' => H' = H ∧ ∃ c, a[i]? = some c ∧ x = .str (SX.S [c])) :=
  ⟨fun i _ hi _ => by show i < _; simpa [SX.S] using hi, fun _ _ => by show _ ≤ a.length; simp [SX.S], fun i H x H' hi _ y => by
    obtain ⟨e, c, h1, h2⟩ := y
    refine ⟨e, c, ?_, h2⟩
    simpa [SX.S] using h1⟩
end
end Kr

set_option Elab.async false
set_option linter.all false
set_option maxRecDepth 100000
set_option maxHeartbeats 2000000
namespace Kr
open PySem PySem.Spec PyProof.Rows L2
open SX (S)
/-! ### what a text leads the reader to -/
/-- after n the reader stands at (gs, its) -/
def Lead (n : List Nat) (gs : List Grp) (its : List It) : Prop := ∀ t, rd false (n ++ t).length 0 (n ++ t) [] [] = rd false t.length n.length t gs its
theorem lead0 : Lead [] [] [] := fun t => by simp
theorem lead_read {n : List Nat} {its : List It} (h : Lead n [] its) : read false n = .inr its := by
  have := h []
  rw [List.append_nil] at this
  unfold read
  rw [this]
  simp [rd]
theorem Lead.step {n k : List Nat} {gs g2 : List Grp} {its i2 : List It} (h : Lead n gs its) (e : ∀ t, rd false (k ++ t).length n.length (k ++ t) gs its = rd false t.length (n.length + k.length) t g2 i2) : Lead (n ++ k) g2 i2 := fun t => by
  rw [List.append_assoc, h (k ++ t), e t, List.length_append]
theorem kl_brs0 {c : Nat} (t : List Nat) (h : c ∈ brs) : kl false (c :: t) = .inr 0 := by
  have all : ∀ c ∈ brs, c ∉ plk ∧ c ∉ sgk := by decide
  obtain ⟨h1, h2⟩ := all c h
  simp only [kl, if_neg h1]
  rw [if_neg (by simp; simpa using h2), if_pos h]
theorem Lead.bracket {n : List Nat} {c : Nat} {gs g2 : List Grp} {its i2 : List It} (h : Lead n gs its) (hc : c ∈ brs) (hb : brk c gs its = some (g2, i2)) : Lead (n ++ [c]) g2 i2 := h.step fun t => by
  show rd false (t.length + 1) n.length (c :: t) gs its = _
  simp only [rd, kl_brs0 t hc, hb]
  rfl
/-- a key as it is written -/
def wKey (k : List Nat) : Prop := (∃ c, c ∈ plk ∧ k = [c]) ∨ ∃ c d, c ∈ sgk ∧ d ∈ sgn ∧ k = [c, d]
theorem wKey.ok {k : List Nat} (h : wKey k) : kOk k := by
  have p1 : ∀ x ∈ plk, x ∈ sgn := by decide
  have p2 : ∀ x ∈ sgk, x ∈ sgn := by decide
  rcases h with ⟨c, hc, rfl⟩ | ⟨c, d, hc, hd, rfl⟩
  · exact ⟨by simp, by simp, by simp; exact p1 c hc⟩
  · exact ⟨by simp, by simp, by simp; exact ⟨p2 c hc, hd⟩⟩
theorem Lead.key {n k : List Nat} {gs : List Grp} {its : List It} (h : Lead n gs its) (hk : wKey k) : Lead (n ++ k) gs (its ++ [.key k]) := h.step fun t => by
  rcases hk with ⟨c, hc, rfl⟩ | ⟨c, d, hc, hd, rfl⟩
  · show rd false (t.length + 1) n.length (c :: t) gs its = _
    have e : kl false (c :: t) = .inr (0 + 1) := by simp only [kl, if_pos hc]
    simp only [rd, e]
    simp
  · show rd false (t.length + 1 + 1) n.length (c :: d :: t) gs its = _
    have a1 : ∀ c ∈ sgk, c ∉ plk ∧ c ≠ 64 := by decide
    obtain ⟨h1, h2⟩ := a1 c hc
    have e : kl false (c :: d :: t) = .inr (1 + 1) := by
      simp only [kl, if_neg h1]
      rw [if_pos (.inl hc), if_neg h2, if_pos hd]
    simp only [rd, e]
    simp
    exact rd_more false _ _ _ _ _ _ (by omega) (by omega)
/-! ### the marks of open brackets -/
def Grp.mk' (g : Grp) : Nat := if g.c = 40 then 40 else if g.f.isNone then 91 else 124
/-- the open brackets are well formed -/
def Gw : List Grp → Prop
  | [] => True
  | g :: r => ((g.c = 40 ∧ g.f = none) ∨ g.c = 91) ∧ Gw r
/-- how many keys stand in them -/
def Gk : List Grp → Nat
  | [] => 0
  | g :: r => (keysL g.o).length + (match g.f with | some f => (keysL f).length | none => 0) + Gk r
/-- what the law's text maker keeps: n so far, its open brackets gs, k keys -/
structure Mk (n : List Nat) (gs : List Grp) (its : List It) (k : Nat) : Prop where
  ld : Lead n gs its
  w : Gw gs
  k : Gk gs + (keysL its).length = k
  s : ∀ c ∈ n, c ∈ sgn
theorem mk0 : Mk [] [] [] 0 := ⟨lead0, trivial, by simp [Gk, keysL], by simp⟩
theorem Mk.key {n kk : List Nat} {gs : List Grp} {its : List It} {k : Nat} (h : Mk n gs its k) (hk : wKey kk) : Mk (n ++ kk) gs (its ++ [.key kk]) (k + 1) := by
  refine ⟨h.ld.key hk, h.w, ?_, fun c hc => ?_⟩
  · rw [keysL_app, keysL_one']
    have := h.k
    simp [It.keys]; omega
  · rcases List.mem_append.mp hc with hc | hc
    · exact h.s c hc
    · exact hk.ok.2.2 c hc
where
  keysL_one' {i : It} : keysL [i] = i.keys := by simp [keysL]
theorem Mk.opn {n : List Nat} {gs : List Grp} {its : List It} {k c : Nat} (h : Mk n gs its k) (hc : c = 40 ∨ c = 91) (h8 : gs.length < 8) : Mk (n ++ [c]) (⟨c, its, none⟩ :: gs) [] k := by
  refine ⟨h.ld.bracket (by rcases hc with rfl | rfl <;> decide) (by unfold brk; rw [if_pos hc, if_neg (by omega)]), ⟨?_, h.w⟩, ?_, fun x hx => ?_⟩
  · rcases hc with rfl | rfl
    · exact .inl ⟨rfl, rfl⟩
    · exact .inr rfl
  · have := h.k
    simp [Gk, keysL]; omega
  · rcases List.mem_append.mp hx with hx | hx
    · exact h.s x hx
    · simp at hx; subst hx
      rcases hc with rfl | rfl <;> decide
theorem keysOne (i : It) : keysL [i] = i.keys := by simp [keysL]
theorem sgn_app {n : List Nat} {c : Nat} (h : ∀ x ∈ n, x ∈ sgn) (hc : c ∈ sgn) : ∀ x ∈ n ++ [c], x ∈ sgn := fun x hx => by
  rcases List.mem_append.mp hx with hx | hx
  · exact h x hx
  · simp at hx; subst hx; exact hc
/-- closing the innermost: ( -/
theorem Mk.rep {n : List Nat} {g : Grp} {r : List Grp} {its : List It} {k : Nat} (h : Mk n (g :: r) its k) (hm : g.mk' = 40) (hi : its ≠ []) : Mk (n ++ [41]) r (g.o ++ [.rep its]) k := by
  have hg : g.c = 40 := by
    unfold Grp.mk' at hm
    split at hm
    · assumption
    · split at hm <;> cases hm
  have hf : g.f = none := by
    rcases h.w.1 with h1 | h1
    · exact h1.2
    · rw [hg] at h1; cases h1
  have hie : its.isEmpty = false := by cases its with | nil => exact absurd rfl hi | cons => rfl
  refine ⟨h.ld.bracket (by decide) (by unfold brk; rw [if_neg (by decide)]; simp only; rw [if_pos ⟨trivial, hg, hie⟩]), h.w.2, ?_, sgn_app h.s (by decide)⟩
  have := h.k
  simp only [Gk, hf] at this
  rw [keysL_app, keysOne]
  simp [It.keys]; omega
/-- .. [ by | -/
theorem Mk.bar {n : List Nat} {g : Grp} {r : List Grp} {its : List It} {k : Nat} (h : Mk n (g :: r) its k) (hm : g.mk' = 91) (hi : its ≠ []) : Mk (n ++ [124]) (⟨g.c, g.o, some its⟩ :: r) [] k ∧ (⟨g.c, g.o, some its⟩ : Grp).mk' = 124 := by
  have hg : g.c = 91 := by
    rcases h.w.1 with h1 | h1
    · unfold Grp.mk' at hm; rw [if_pos h1.1] at hm; cases hm
    · exact h1
  have hf : g.f.isNone = true := by
    unfold Grp.mk' at hm
    rw [if_neg (by rw [hg]; decide)] at hm
    split at hm
    · assumption
    · cases hm
  have hie : its.isEmpty = false := by cases its with | nil => exact absurd rfl hi | cons => rfl
  have hf' : g.f = none := by simpa using hf
  refine ⟨⟨h.ld.bracket (by decide) (by unfold brk; rw [if_neg (by decide)]; simp only; rw [if_neg (by intro z; cases z.1), if_pos ⟨trivial, hg, hf, hie⟩]), ⟨.inr hg, h.w.2⟩, ?_, sgn_app h.s (by decide)⟩, ?_⟩
  · have := h.k
    simp only [Gk, hf'] at this
    simp [Gk, keysL]; omega
  · unfold Grp.mk'
    simp [hg]
/-- .. | by ] -/
theorem Mk.cho {n : List Nat} {g : Grp} {r : List Grp} {its : List It} {k : Nat} (h : Mk n (g :: r) its k) (hm : g.mk' = 124) : ∃ f, g.f = some f ∧ Mk (n ++ [93]) r (g.o ++ [.cho f its]) k := by
  have hg : g.c = 91 := by
    rcases h.w.1 with h1 | h1
    · unfold Grp.mk' at hm; rw [if_pos h1.1] at hm; cases hm
    · exact h1
  cases hf : g.f with
  | none =>
    unfold Grp.mk' at hm
    rw [if_neg (by rw [hg]; decide), hf] at hm
    cases hm
  | some f =>
    refine ⟨f, rfl, h.ld.bracket (by decide) ?_, h.w.2, ?_, sgn_app h.s (by decide)⟩
    · unfold brk
      rw [if_neg (by decide)]
      simp only
      rw [if_neg (by intro z; cases z.1), if_neg (by intro z; cases z.1), if_pos ⟨trivial, hg⟩, hf]
    · have := h.k
      simp only [Gk, hf] at this
      rw [keysL_app, keysOne]
      simp [It.keys]; omega
theorem mk_cases (g : Grp) : g.mk' = 40 ∨ g.mk' = 91 ∨ g.mk' = 124 := by
  unfold Grp.mk'
  split
  · exact .inl rfl
  · split
    · exact .inr (.inl rfl)
    · exact .inr (.inr rfl)
/-! ### lists of texts as data -/
abbrev tV (k : List Nat) : V := .str (S k)
abbrev tD (k : List Nat) : PyData := .str (S k)
theorem dpTx {K : PySem.W.Frag} {H : Hp} : ∀ ks : List (List Nat), DpAll K H (ks.map tV) (ks.map tD)
  | [] => .nil
  | k :: ks => .cons (.str _) (dpTx ks)
theorem layTx : ∀ ks : List (List Nat), (∀ k ∈ ks, ∀ c ∈ k, c ∈ sgn) → PyData.canLayAll0 (ks.map tD) = true
  | [], _ => rfl
  | k :: ks, h => by
    show (PyData.canLay0 (tD k) && PyData.canLayAll0 (ks.map tD)) = true
    rw [layTx ks fun k hk => h k (by simp [hk])]
    have : PyData.canLay0 (tD k) = true := strOk_sgn (h k (by simp))
    rw [this]; rfl
theorem depTx : ∀ ks : List (List Nat), PyData.depthAll (ks.map tD) = 0
  | [] => rfl
  | k :: ks => by
    show max (PyData.depth (tD k)) (PyData.depthAll (ks.map tD)) = 0
    rw [depTx ks]; rfl
theorem shTx {ks : List (List Nat)} (h : ∀ k ∈ ks, ∀ c ∈ k, c ∈ sgn) : SeqAt.shaped (.list (ks.map tD)) = true := by
  unfold SeqAt.shaped
  rw [Bool.and_eq_true]
  refine ⟨layTx ks h, decide_eq_true ?_⟩
  show PyData.depthAll (ks.map tD) + 1 ≤ 64
  rw [depTx]; decide
theorem eqvL_nil (ds : List PyData) : PyData.eqv (.list ds) (.list []) = ds.isEmpty := by
  cases ds <;> rfl
theorem mk_sgn (g : Grp) : g.mk' ∈ sgn := by
  rcases mk_cases g with h | h | h <;> rw [h] <;> decide
end Kr

set_option Elab.async false
set_option linter.all false
set_option maxRecDepth 100000
set_option maxHeartbeats 2000000
namespace Kr
open PySem PySem.Spec PyProof.Rows L2
open SX (S)
/-! ### the law's trees: lists in the heap. F: the lists that stand still -/
mutual
def LTr (F : List Addr) (H : Hp) : V → It → Prop
  | v, .key s => v = tV s
  | v, .rep a => ∃ p e q xs, v = .ref p ∧ H p = some (.tup [tV [41], .ref e, .ref q]) ∧ e ∈ F ∧ H e = some (.lst []) ∧ q ∈ F ∧ H q = some (.lst xs) ∧ LTrs F H xs a
  | v, .cho a b => ∃ p q r xs ys, v = .ref p ∧ H p = some (.tup [tV [93], .ref q, .ref r]) ∧ q ∈ F ∧ H q = some (.lst xs) ∧ r ∈ F ∧ H r = some (.lst ys) ∧ LTrs F H xs a ∧ LTrs F H ys b
def LTrs (F : List Addr) (H : Hp) : List V → List It → Prop
  | xs, [] => xs = []
  | xs, i :: r => ∃ v ys, xs = v :: ys ∧ LTr F H v i ∧ LTrs F H ys r
end
/-- what stands at the addresses of L stays, and the tuples -/
structure Kl (L : List Addr) (H H' : Hp) : Prop where
  l : ∀ a ∈ L, ∀ o, H a = some o → H' a = some o
  t : Tk H H'
theorem Kl.refl {L : List Addr} {H : Hp} : Kl L H H := ⟨fun _ _ _ h => h, Tk.refl⟩
theorem Kl.trans {L : List Addr} {H H1 H2 : Hp} (a : Kl L H H1) (b : Kl L H1 H2) : Kl L H H2 := ⟨fun x hx o h => b.l x hx o (a.l x hx o h), a.t.trans b.t⟩
theorem Kl.same {L : List Addr} {H H' : Hp} (s : Same H H') : Kl L H H' := ⟨fun a _ o h => s a o h, Tk.same s⟩
theorem Kl.sub {L L' : List Addr} {H H' : Hp} (k : Kl L H H') (h : ∀ a ∈ L', a ∈ L) : Kl L' H H' := ⟨fun a ha o e => k.l a (h a ha) o e, k.t⟩
theorem Kl.new {L : List Addr} {H H' : Hp} {p : Addr} {o : HO} (k : Kl L H H') (h : H' p = none) : Kl L H (upd H' p o) := k.trans (Kl.same (sNew (Same.refl _) h))
theorem Kl.mut {L : List Addr} {H H' : Hp} {p : Addr} {o : HO} {ys : List V} (k : Kl L H H') (h : H' p = some (.lst ys)) (hp : p ∉ L) : Kl L H (upd H' p o) :=
  k.trans ⟨fun a ha o e => by
    have n : a ≠ p := fun z => hp (z ▸ ha)
    rw [upd_ne n]; exact e, Tk.refl.lst h⟩
mutual
theorem LTr.keep {F F' : List Addr} {H H' : Hp} (k : Kl F H H') (hF : ∀ a ∈ F, a ∈ F') : ∀ {v : V} (i : It), LTr F H v i → LTr F' H' v i
  | v, .key s, h => h
  | v, .rep a, h => by
    obtain ⟨p, e, q, xs, ev, h1, f1, h2, f2, h3, t⟩ := h
    exact ⟨p, e, q, xs, ev, k.t _ _ h1, hF _ f1, k.l _ f1 _ h2, hF _ f2, k.l _ f2 _ h3, LTrs.keep k hF a t⟩
  | v, .cho a b, h => by
    obtain ⟨p, q, r, xs, ys, ev, h1, f1, h2, f2, h3, t, u⟩ := h
    exact ⟨p, q, r, xs, ys, ev, k.t _ _ h1, hF _ f1, k.l _ f1 _ h2, hF _ f2, k.l _ f2 _ h3, LTrs.keep k hF a t, LTrs.keep k hF b u⟩
theorem LTrs.keep {F F' : List Addr} {H H' : Hp} (k : Kl F H H') (hF : ∀ a ∈ F, a ∈ F') : ∀ {xs : List V} (a : List It), LTrs F H xs a → LTrs F' H' xs a
  | xs, [], h => h
  | xs, i :: r, h => by
    obtain ⟨v, ys, e, h1, h2⟩ := h
    exact ⟨v, ys, e, LTr.keep k hF i h1, LTrs.keep k hF r h2⟩
end
theorem LTrs.len {F : List Addr} {H : Hp} : ∀ {xs : List V} {a : List It}, LTrs F H xs a → xs.length = a.length
  | xs, [], h => by have e : xs = [] := h; simp [e]
  | xs, i :: r, h => by
    obtain ⟨v, ys, rfl, _, h2⟩ := h
    simp [LTrs.len h2]
theorem LTrs.app {F : List Addr} {H : Hp} : ∀ {xs ys : List V} {a b : List It}, LTrs F H xs a → LTrs F H ys b → LTrs F H (xs ++ ys) (a ++ b)
  | xs, ys, [], b, h, h' => by have e : xs = [] := h; subst e; exact h'
  | xs, ys, i :: r, b, h, h' => by
    obtain ⟨v, zs, rfl, h1, h2⟩ := h
    exact ⟨v, zs ++ ys, rfl, h1, LTrs.app h2 h'⟩
theorem LTrs.one {F : List Addr} {H : Hp} {v : V} {i : It} (h : LTr F H v i) : LTrs F H [v] [i] := ⟨v, [], rfl, h, rfl⟩
theorem LTrs.at {F : List Addr} {H : Hp} : ∀ {xs : List V} {a : List It} {j : Nat} {v : V}, LTrs F H xs a → xs[j]? = some v → ∃ i, a[j]? = some i ∧ LTr F H v i
  | xs, [], j, v, h, e => by have e' : xs = [] := h; subst e'; simp at e
  | xs, i :: r, 0, v, h, e => by
    obtain ⟨v', ys, rfl, h1, h2⟩ := h
    simp at e
    subst e
    exact ⟨i, rfl, h1⟩
  | xs, i :: r, j + 1, v, h, e => by
    obtain ⟨v', ys, rfl, h1, h2⟩ := h
    simp at e
    obtain ⟨i', e1, t⟩ := LTrs.at h2 e
    exact ⟨i', by simpa using e1, t⟩
/-- the tree a of the law at the address p -/
def LtAt (H : Hp) (p : Addr) (a : List It) : Prop := ∃ F xs, H p = some (.lst xs) ∧ LTrs F H xs a
theorem LtAt.same {H H' : Hp} {p : Addr} {a : List It} (s : Same H H') (h : LtAt H p a) : LtAt H' p a := by
  obtain ⟨F, xs, e, t⟩ := h
  exact ⟨F, xs, s _ _ e, t.keep (Kl.same s) (fun _ h => h)⟩
/-- the law's stack: values, groups, its own lists -/
def LG (F : List Addr) (H : Hp) : List V → List Grp → List Addr → Prop
  | xs, [], M => xs = [] ∧ M = []
  | xs, g :: r, M => ∃ ys sp out fst zs M', xs = ys ++ [.ref sp] ∧ M = sp :: out :: M' ∧ H sp = some (.lst [tV [g.c], .ref out, .ref fst]) ∧ H out = some (.lst zs) ∧ LTrs F H zs g.o ∧ fst ∈ F ∧
      (match g.f with | none => H fst = some (.lst []) | some f => ∃ ws, H fst = some (.lst ws) ∧ LTrs F H ws f) ∧ LG F H ys r M'
theorem LG.keep {F F' : List Addr} {H H' : Hp} (hF : ∀ a ∈ F, a ∈ F') : ∀ {xs : List V} {M : List Addr} (gs : List Grp), Kl (M ++ F) H H' → LG F H xs gs M → LG F' H' xs gs M
  | xs, M, [], k, h => h
  | xs, M, g :: r, k, h => by
    obtain ⟨ys, sp, out, fst, zs, M', e1, rfl, h1, h2, t, f1, h3, hr⟩ := h
    have kF : Kl F H H' := k.sub (by intro a ha; simp [ha])
    refine ⟨ys, sp, out, fst, zs, M', e1, rfl, k.l _ (by simp) _ h1, k.l _ (by simp) _ h2, t.keep kF hF, hF _ f1, ?_, LG.keep hF r (k.sub (by intro a ha; simp at ha ⊢; rcases ha with h | h <;> simp [h])) hr⟩
    split at h3
    · exact kF.l _ f1 _ h3
    · obtain ⟨ws, e, u⟩ := h3
      exact ⟨ws, kF.l _ f1 _ e, u.keep kF hF⟩
theorem LG.len {F : List Addr} {H : Hp} : ∀ {xs : List V} {gs : List Grp} {M : List Addr}, LG F H xs gs M → xs.length = gs.length
  | xs, [], M, h => by simp [h.1]
  | xs, g :: r, M, h => by
    obtain ⟨ys, sp, out, fst, zs, M', rfl, _, _, _, _, _, _, hr⟩ := h
    simp [LG.len hr]
/-- the brackets stay well formed -/
theorem brk_w {c : Nat} {gs g2 : List Grp} {its i2 : List It} (h : brk c gs its = some (g2, i2)) (w : Gw gs) : Gw g2 := by
  unfold brk at h
  split at h
  · rename_i hc
    split at h
    · cases h
    · cases h
      rcases hc with rfl | rfl
      · exact ⟨.inl ⟨rfl, rfl⟩, w⟩
      · exact ⟨.inr rfl, w⟩
  · split at h
    · cases h
    · split at h
      · cases h; exact w.2
      · split at h
        · rename_i hc
          cases h
          exact ⟨.inr hc.2.1, w.2⟩
        · split at h
          · split at h
            · cases h; exact w.2
            · cases h
          · cases h
/-- the law's state while it reads -/
structure LS (H0 H : Hp) (F M : List Addr) (st cu : Addr) (gs : List Grp) (cur : List It) : Prop where
  nd : (st :: cu :: M).Nodup
  dj : ∀ a ∈ st :: cu :: M, a ∉ F
  nw : ∀ a, a ∈ st :: cu :: M ∨ a ∈ F → H0 a = none
  ex : ∀ a, a ∈ st :: cu :: M ∨ a ∈ F → ∃ o, H a = some o
  s : Same H0 H
  hs : ∃ xs, H st = some (.lst xs) ∧ LG F H xs gs M
  hc : ∃ xs, H cu = some (.lst xs) ∧ LTrs F H xs cur
theorem upd_ex {H : Hp} {p : Addr} {o : HO} {a : Addr} (h : ∃ u, H a = some u) : ∃ u, upd H p o a = some u := by
  by_cases e : a = p
  · exact ⟨o, by rw [e, upd_same]⟩
  · obtain ⟨u, h⟩ := h
    exact ⟨u, by rw [upd_ne e]; exact h⟩
section
variable {H0 H : Hp} {F M : List Addr} {st cu : Addr} {gs : List Grp} {cur : List It}
theorem LS.app {xs : List V} {v : V} {it : It} (L : LS H0 H F M st cu gs cur) (hx : H cu = some (.lst xs)) (hv : LTr F H v it) : LS H0 (upd H cu (.lst (xs ++ [v]))) F M st cu gs (cur ++ [it]) := by
  obtain ⟨nd, dj, nw, ex, s, ⟨ys, hs, lg⟩, ⟨zs, hc, lt⟩⟩ := L
  rw [hx] at hc
  cases hc
  have n1 : st ≠ cu := by simp at nd; exact fun z => nd.1.1 z
  have n2 : cu ∉ M := by simp at nd; exact nd.2.1
  have n3 : cu ∉ F := dj cu (by simp)
  have kF : Kl F H (upd H cu (.lst (xs ++ [v]))) := Kl.refl.mut hx n3
  refine ⟨nd, dj, nw, fun a ha => upd_ex (ex a ha), sMut s (nw cu (by simp)), ⟨ys, by rw [upd_ne n1]; exact hs, lg.keep (fun _ h => h) gs (Kl.refl.mut hx (by simp [n2, n3]))⟩, ⟨_, upd_same, LTrs.app (lt.keep kF fun _ h => h) (LTrs.one (hv.keep kF (fun _ h => h) it))⟩⟩
theorem LS.opn {xs : List V} {c : Nat} {fe sp cu2 : Addr} (L : LS H0 H F M st cu gs cur) (hx : H st = some (.lst xs)) (h1 : H fe = none) (h2 : upd H fe (.lst []) sp = none) (h3 : upd (upd (upd H fe (.lst [])) sp (.lst [tV [c], .ref cu, .ref fe])) st (.lst (xs ++ [.ref sp])) cu2 = none) :
    LS H0 (upd (upd (upd (upd H fe (.lst [])) sp (.lst [tV [c], .ref cu, .ref fe])) st (.lst (xs ++ [.ref sp]))) cu2 (.lst [])) (fe :: F) (sp :: cu :: M) st cu2 (⟨c, cur, none⟩ :: gs) [] := by
  obtain ⟨nd, dj, nw, ex, s, ⟨ys, hs, lg⟩, ⟨zs, hc, lt⟩⟩ := L
  rw [hx] at hs
  cases hs
  have e_sf : sp ≠ fe := fun z => by rw [z, upd_same] at h2; cases h2
  have h2' : H sp = none := by rw [upd_ne e_sf] at h2; exact h2
  have n_st_fe : st ≠ fe := ne_of_none hx h1
  have n_st_sp : st ≠ sp := ne_of_none hx h2'
  have n_c_st : cu2 ≠ st := fun z => by rw [z, upd_same] at h3; cases h3
  have h3a := h3
  rw [upd_ne n_c_st] at h3
  have n_c_sp : cu2 ≠ sp := fun z => by rw [z, upd_same] at h3; cases h3
  rw [upd_ne n_c_sp] at h3
  have n_c_fe : cu2 ≠ fe := fun z => by rw [z, upd_same] at h3; cases h3
  rw [upd_ne n_c_fe] at h3
  have st_s : Same H (upd (upd H fe (.lst [])) sp (.lst [tV [c], .ref cu, .ref fe])) := sNew (sNew (Same.refl _) h1) h2
  have hst2 := st_s _ _ hx
  have dst : st ∉ (cu :: M) ++ F := by
    intro m
    rcases List.mem_append.mp m with m | m
    · exact (List.nodup_cons.mp nd).1 m
    · exact dj st (by simp) m
  have k4 : Kl ((cu :: M) ++ F) H (upd (upd (upd (upd H fe (.lst [])) sp (.lst [tV [c], .ref cu, .ref fe])) st (.lst (xs ++ [.ref sp]))) cu2 (.lst [])) := ((Kl.same st_s).mut hst2 dst).new h3a
  have kF := k4.sub (L' := F) (by intro a ha; simp [ha])
  have nA : ∀ a, a ∈ st :: cu :: M ∨ a ∈ F → a ≠ fe ∧ a ≠ sp ∧ a ≠ cu2 := fun a ha => by
    obtain ⟨o, e⟩ := ex a ha
    exact ⟨ne_of_none e h1, ne_of_none e h2', ne_of_none e h3⟩
  have z1 : H0 fe = none := s.free h1
  have z2 : H0 sp = none := s.free h2'
  have z3 : H0 cu2 = none := s.free h3
  have ndm := (List.nodup_cons.mp nd)
  refine ⟨?_, ?_, ?_, ?_, ?_, ⟨_, by rw [upd_ne n_c_st.symm, upd_same], xs, sp, cu, fe, zs, M, rfl, rfl, ?_, k4.l cu (by simp) _ hc, lt.keep kF (by intro a ha; simp [ha]), by simp, ?_, lg.keep (by intro a ha; simp [ha]) gs (k4.sub (by intro a ha; simp at ha ⊢; rcases ha with h | h <;> simp [h]))⟩, ⟨[], upd_same, rfl⟩⟩
  · refine List.nodup_cons.mpr ⟨?_, List.nodup_cons.mpr ⟨?_, List.nodup_cons.mpr ⟨?_, ndm.2⟩⟩⟩
    · intro m
      rcases List.mem_cons.mp m with m | m
      · exact n_c_st m.symm
      · rcases List.mem_cons.mp m with m | m
        · exact n_st_sp m
        · exact ndm.1 m
    · intro m
      rcases List.mem_cons.mp m with m | m
      · exact n_c_sp m
      · exact (nA cu2 (.inl (List.mem_cons_of_mem _ m))).2.2 rfl
    · intro m
      exact (nA sp (.inl (List.mem_cons_of_mem _ m))).2.1 rfl
  · intro a ha m
    rcases List.mem_cons.mp m with rfl | m
    · rcases List.mem_cons.mp ha with e | ha
      · exact n_st_fe e.symm
      · rcases List.mem_cons.mp ha with e | ha
        · exact n_c_fe e.symm
        · rcases List.mem_cons.mp ha with e | ha
          · exact e_sf e.symm
          · exact (nA _ (.inl (List.mem_cons_of_mem _ ha))).1 rfl
    · have nn := nA a (.inr m)
      rcases List.mem_cons.mp ha with e | ha
      · exact dj st (by simp) (e ▸ m)
      · rcases List.mem_cons.mp ha with e | ha
        · exact nn.2.2 e
        · rcases List.mem_cons.mp ha with e | ha
          · exact nn.2.1 e
          · exact dj a (List.mem_cons_of_mem _ ha) m
  · intro a ha
    simp only [List.mem_cons] at ha
    rcases ha with (rfl | rfl | rfl | h) | rfl | h
    · exact nw _ (by simp)
    · exact z3
    · exact z2
    · exact nw a (.inl (by simp only [List.mem_cons]; exact .inr h))
    · exact z1
    · exact nw a (.inr h)
  · intro a ha
    simp only [List.mem_cons] at ha
    rcases ha with (rfl | rfl | rfl | h) | rfl | h
    · exact ⟨_, by rw [upd_ne n_c_st.symm, upd_same]⟩
    · exact ⟨_, upd_same⟩
    · exact ⟨_, by rw [upd_ne n_c_sp.symm, upd_ne n_st_sp.symm, upd_same]⟩
    · exact upd_ex (upd_ex (upd_ex (upd_ex (ex a (.inl (by simp only [List.mem_cons]; exact .inr h))))))
    · exact ⟨_, by rw [upd_ne n_c_fe.symm, upd_ne n_st_fe.symm, upd_ne e_sf.symm, upd_same]⟩
    · exact upd_ex (upd_ex (upd_ex (upd_ex (ex a (.inr h)))))
  · exact sNew (sMut (s.trans st_s) (nw st (by simp))) h3a
  · rw [upd_ne n_c_sp.symm, upd_ne n_st_sp.symm, upd_same]
  · show upd _ _ _ fe = _
    rw [upd_ne n_c_fe.symm, upd_ne n_st_fe.symm, upd_ne e_sf.symm, upd_same]
/-- the innermost group in the heap -/
theorem LS.top {g : Grp} {r : List Grp} (L : LS H0 H F M st cu (g :: r) cur) : ∃ ys sp out fst zs, H st = some (.lst (ys ++ [.ref sp])) ∧ H sp = some (.lst [tV [g.c], .ref out, .ref fst]) ∧ H out = some (.lst zs) ∧ zs.length = g.o.length ∧ ys.length = r.length := by
  obtain ⟨xs, hs, ys, sp, out, fst, zs, M', rfl, rfl, h1, h2, t, f1, h3, hr⟩ := L.hs
  exact ⟨ys, sp, out, fst, zs, hs, h1, h2, t.len, hr.len⟩
theorem app1_inj {α : Type} {a b : List α} {x y : α} (h : a ++ [x] = b ++ [y]) : a = b ∧ x = y := by
  have := List.append_inj' h rfl
  simpa using this
theorem LS.bar {g : Grp} {r : List Grp} {ys : List V} {sp out fst cu2 : Addr} (L : LS H0 H F M st cu (g :: r) cur) (hst : H st = some (.lst (ys ++ [.ref sp]))) (hsp : H sp = some (.lst [tV [g.c], .ref out, .ref fst])) (h2 : upd H sp (.lst [tV [g.c], .ref out, .ref cu]) cu2 = none) :
    LS H0 (upd (upd H sp (.lst [tV [g.c], .ref out, .ref cu])) cu2 (.lst [])) (cu :: F) M st cu2 (⟨g.c, g.o, some cur⟩ :: r) [] := by
  obtain ⟨nd, dj, nw, ex, s, ⟨xs, hs, lg⟩, ⟨ws, hc, lt⟩⟩ := L
  obtain ⟨ys', sp', out', fst', zs, M', e1, rfl, g1, g2, t, f1, g3, hr⟩ := lg
  rw [e1, hst] at hs
  have hs' : ys ++ [V.ref sp] = ys' ++ [.ref sp'] := by injection hs with hs; injection hs
  obtain ⟨rfl, e2⟩ := app1_inj hs'
  cases e2
  rw [hsp] at g1
  cases g1
  subst e1
  have n_c_sp : cu2 ≠ sp := fun z => by rw [z, upd_same] at h2; cases h2
  have h2' : H cu2 = none := by rw [upd_ne n_c_sp] at h2; exact h2
  have nA : ∀ a, a ∈ st :: cu :: sp :: out :: M' ∨ a ∈ F → a ≠ cu2 := fun a ha => by
    obtain ⟨o, e⟩ := ex a ha
    exact ne_of_none e h2'
  obtain ⟨d1, d2⟩ := List.nodup_cons.mp nd
  obtain ⟨d3, d4⟩ := List.nodup_cons.mp d2
  obtain ⟨d5, d6⟩ := List.nodup_cons.mp d4
  have n_st_sp : st ≠ sp := fun z => d1 (by simp [z])
  have n_cu_sp : cu ≠ sp := fun z => d3 (by simp [z])
  have n_out_sp : out ≠ sp := fun z => d5 (by simp [z])
  have spF : sp ∉ F := dj sp (by simp)
  have kk : Kl (st :: cu :: out :: M' ++ F) H (upd (upd H sp (.lst [tV [g.c], .ref out, .ref cu])) cu2 (.lst [])) := by
    refine (Kl.refl.mut hsp ?_).new h2
    intro m
    simp only [List.cons_append, List.mem_cons, List.mem_append] at m
    rcases m with m | m | m | m | m
    · exact n_st_sp m.symm
    · exact n_cu_sp m.symm
    · exact n_out_sp m.symm
    · exact d5 (by simp [m])
    · exact spF m
  have kF := kk.sub (L' := F) (by intro a ha; simp [ha])
  have hF : ∀ a ∈ F, a ∈ cu :: F := fun a ha => by simp [ha]
  refine ⟨?_, ?_, ?_, ?_, ?_, ⟨_, kk.l st (by simp) _ hst, ys, sp, out, cu, zs, M', rfl, rfl, ?_, kk.l out (by simp) _ g2, t.keep kF hF, by simp, ⟨ws, kk.l cu (by simp) _ hc, lt.keep kF hF⟩, hr.keep hF r (kk.sub (by intro a ha; simp at ha ⊢; rcases ha with h | h <;> simp [h]))⟩, ⟨[], upd_same, rfl⟩⟩
  · refine List.nodup_cons.mpr ⟨?_, List.nodup_cons.mpr ⟨?_, d4⟩⟩
    · intro m
      rcases List.mem_cons.mp m with m | m
      · exact nA st (by simp) m
      · exact d1 (List.mem_cons_of_mem _ m)
    · intro m
      exact nA cu2 (.inl (by simp only [List.mem_cons] at m ⊢; exact .inr (.inr m))) rfl
  · intro a ha m
    simp only [List.mem_cons] at ha m
    rcases m with rfl | m
    · rcases ha with e | e | e | e | e
      · exact d1 (by simp [e])
      · exact nA _ (by simp) e
      · exact n_cu_sp e
      · exact d3 (by simp [e])
      · exact d3 (by simp [e])
    · rcases ha with e | e | e | e | e
      · exact dj a (by simp [e]) m
      · exact nA a (.inr m) e
      · exact dj a (by simp [e]) m
      · exact dj a (by simp [e]) m
      · exact dj a (by simp [e]) m
  · intro a ha
    simp only [List.mem_cons] at ha
    rcases ha with (e | e | e) | e | e
    · exact nw a (by simp [e])
    · rw [e]; exact s.free h2'
    · exact nw a (.inl (by simp only [List.mem_cons]; exact .inr (.inr e)))
    · exact nw a (by simp [e])
    · exact nw a (.inr e)
  · intro a ha
    simp only [List.mem_cons] at ha
    rcases ha with (e | e | e) | e | e
    · exact upd_ex (upd_ex (ex a (by simp [e])))
    · exact ⟨_, by rw [e, upd_same]⟩
    · exact upd_ex (upd_ex (ex a (.inl (by simp only [List.mem_cons]; exact .inr (.inr e)))))
    · exact upd_ex (upd_ex (ex a (by simp [e])))
    · exact upd_ex (upd_ex (ex a (.inr e)))
  · exact sNew (sMut s (nw sp (by simp))) h2
  · rw [upd_ne n_c_sp.symm, upd_same]
theorem LS.cls {g : Grp} {r : List Grp} {ys zs : List V} {sp out fst tp : Addr} {x : Nat} {it : It} (L : LS H0 H F M st cu (g :: r) cur) (hst : H st = some (.lst (ys ++ [.ref sp]))) (hsp : H sp = some (.lst [tV [g.c], .ref out, .ref fst])) (hout : H out = some (.lst zs)) (h2 : upd H st (.lst ys) tp = none)
    (hit : (x = 41 ∧ g.f = none ∧ it = .rep cur) ∨ (x = 93 ∧ ∃ f, g.f = some f ∧ it = .cho f cur)) :
    ∃ M', LS H0 (upd (upd (upd H st (.lst ys)) tp (.tup [tV [x], .ref fst, .ref cu])) out (.lst (zs ++ [.ref tp]))) (cu :: F) M' st out r (g.o ++ [it]) := by
  obtain ⟨nd, dj, nw, ex, s, ⟨xs, hs, lg⟩, ⟨ws, hc, lt⟩⟩ := L
  obtain ⟨ys', sp', out', fst', zs', M', e1, rfl, g1, g2, t, f1, g3, hr⟩ := lg
  rw [e1, hst] at hs
  have hs' : ys ++ [V.ref sp] = ys' ++ [.ref sp'] := by injection hs with hs; injection hs
  obtain ⟨rfl, e2⟩ := app1_inj hs'
  cases e2
  rw [hsp] at g1
  cases g1
  rw [hout] at g2
  cases g2
  subst e1
  have n_t_st : tp ≠ st := fun z => by rw [z, upd_same] at h2; cases h2
  have h2' : H tp = none := by rw [upd_ne n_t_st] at h2; exact h2
  have nA : ∀ a, a ∈ st :: cu :: sp :: out :: M' ∨ a ∈ F → a ≠ tp := fun a ha => by
    obtain ⟨o, e⟩ := ex a ha
    exact ne_of_none e h2'
  obtain ⟨d1, d2⟩ := List.nodup_cons.mp nd
  obtain ⟨d3, d4⟩ := List.nodup_cons.mp d2
  obtain ⟨d5, d6⟩ := List.nodup_cons.mp d4
  obtain ⟨d7, d8⟩ := List.nodup_cons.mp d6
  have n_st_out : st ≠ out := fun z => d1 (by simp [z])
  have n_cu_out : cu ≠ out := fun z => d3 (by simp [z])
  have n_out_tp : out ≠ tp := nA out (by simp)
  have outF : out ∉ F := dj out (by simp)
  have hout2 : upd (upd H st (.lst ys)) tp (.tup [tV [x], .ref fst, .ref cu]) out = some (.lst zs) := by rw [upd_ne n_out_tp, upd_ne n_st_out.symm]; exact hout
  have kk : Kl (cu :: M' ++ F) H (upd (upd (upd H st (.lst ys)) tp (.tup [tV [x], .ref fst, .ref cu])) out (.lst (zs ++ [.ref tp]))) := by
    refine ((Kl.refl.mut hst ?_).new h2).mut hout2 ?_
    · intro m
      simp only [List.cons_append, List.mem_cons, List.mem_append] at m
      rcases m with m | m | m
      · exact d1 (by simp [m])
      · exact d1 (by simp [m])
      · exact dj st (by simp) m
    · intro m
      simp only [List.cons_append, List.mem_cons, List.mem_append] at m
      rcases m with m | m | m
      · exact n_cu_out m.symm
      · exact d7 m
      · exact outF m
  have kF := kk.sub (L' := F) (by intro a ha; simp [ha])
  have hF : ∀ a ∈ F, a ∈ cu :: F := fun a ha => by simp [ha]
  have htp : upd (upd (upd H st (.lst ys)) tp (.tup [tV [x], .ref fst, .ref cu])) out (.lst (zs ++ [.ref tp])) tp = some (.tup [tV [x], .ref fst, .ref cu]) := by rw [upd_ne n_out_tp.symm, upd_same]
  refine ⟨M', ?_, ?_, ?_, ?_, ?_, ⟨_, by rw [upd_ne n_st_out, upd_ne n_t_st.symm, upd_same], hr.keep hF r (kk.sub (by intro a ha; simp at ha ⊢; rcases ha with h | h <;> simp [h]))⟩, ⟨_, upd_same, LTrs.app (t.keep kF hF) (LTrs.one ?_)⟩⟩
  · refine List.nodup_cons.mpr ⟨?_, List.nodup_cons.mpr ⟨d7, d8⟩⟩
    intro m
    rcases List.mem_cons.mp m with m | m
    · exact n_st_out m
    · exact d1 (by simp [m])
  · intro a ha m
    simp only [List.mem_cons] at ha m
    rcases m with rfl | m
    · rcases ha with e | e | e
      · exact d1 (by simp [e])
      · exact n_cu_out e
      · exact d3 (by simp [e])
    · rcases ha with e | e | e
      · exact dj a (by simp [e]) m
      · exact dj a (by simp [e]) m
      · exact dj a (by simp [e]) m
  · intro a ha
    simp only [List.mem_cons] at ha
    rcases ha with (e | e | e) | e | e
    · exact nw a (by simp [e])
    · exact nw a (by simp [e])
    · exact nw a (by simp [e])
    · exact nw a (by simp [e])
    · exact nw a (.inr e)
  · intro a ha
    simp only [List.mem_cons] at ha
    rcases ha with (e | e | e) | e | e
    · exact upd_ex (upd_ex (upd_ex (ex a (by simp [e]))))
    · exact upd_ex (upd_ex (upd_ex (ex a (by simp [e]))))
    · exact upd_ex (upd_ex (upd_ex (ex a (by simp [e]))))
    · exact upd_ex (upd_ex (upd_ex (ex a (by simp [e]))))
    · exact upd_ex (upd_ex (upd_ex (ex a (.inr e))))
  · exact sMut (sNew (sMut s (nw st (by simp))) h2) (nw out (by simp))
  · have hcu := kk.l cu (by simp) _ hc
    rcases hit with ⟨rfl, ef, rfl⟩ | ⟨rfl, f', ef, rfl⟩
    · rw [ef] at g3
      exact ⟨tp, fst, cu, ws, rfl, htp, hF _ f1, kF.l _ f1 _ g3, by simp, hcu, lt.keep kF hF⟩
    · rw [ef] at g3
      obtain ⟨vs, g4, g5⟩ := g3
      exact ⟨tp, fst, cu, vs, ws, rfl, htp, hF _ f1, kF.l _ f1 _ g4, by simp, hcu, g5.keep kF hF, lt.keep kF hF⟩
end
theorem brk_opn {c : Nat} {gs g2 : List Grp} {its i2 : List It} (hc : c = 40 ∨ c = 91) (h : brk c gs its = some (g2, i2)) : g2 = ⟨c, its, none⟩ :: gs ∧ i2 = [] ∧ gs.length ≠ 8 := by
  unfold brk at h
  rw [if_pos hc] at h
  split at h
  · cases h
  · cases h; exact ⟨rfl, rfl, by assumption⟩
theorem brk_124 {gs g2 : List Grp} {its i2 : List It} (h : brk 124 gs its = some (g2, i2)) : ∃ g r, gs = g :: r ∧ g2 = ⟨g.c, g.o, some its⟩ :: r ∧ i2 = [] := by
  unfold brk at h
  rw [if_neg (by decide)] at h
  split at h
  · cases h
  · rename_i g r
    rw [if_neg (by intro z; cases z.1)] at h
    split at h
    · cases h; exact ⟨g, r, rfl, rfl, rfl⟩
    · rw [if_neg (by intro z; cases z.1)] at h
      cases h
theorem brk_41 {gs g2 : List Grp} {its i2 : List It} (h : brk 41 gs its = some (g2, i2)) : ∃ g r, gs = g :: r ∧ g.c = 40 ∧ g2 = r ∧ i2 = g.o ++ [.rep its] := by
  unfold brk at h
  rw [if_neg (by decide)] at h
  split at h
  · cases h
  · rename_i g r
    split at h
    · rename_i hc
      cases h; exact ⟨g, _, rfl, hc.2.1, rfl, rfl⟩
    · rw [if_neg (by intro z; cases z.1), if_neg (by intro z; cases z.1)] at h
      cases h
theorem brk_93 {gs g2 : List Grp} {its i2 : List It} (h : brk 93 gs its = some (g2, i2)) : ∃ g r f, gs = g :: r ∧ g.f = some f ∧ g2 = r ∧ i2 = g.o ++ [.cho f its] := by
  unfold brk at h
  rw [if_neg (by decide)] at h
  split at h
  · cases h
  · rename_i g r
    rw [if_neg (by intro z; cases z.1), if_neg (by intro z; cases z.1)] at h
    split at h
    · split at h
      · rename_i f hf
        cases h; exact ⟨g, _, f, rfl, hf, rfl, rfl⟩
      · cases h
    · cases h
/-! ### the law's trees as data -/
mutual
theorem LTr.dp {K : PySem.W.Frag} {F : List Addr} {H : Hp} : ∀ {v : V} (i : It), LTr F H v i → i.ok → ∃ d, Dp K H v d ∧ PyData.canLay0 d = true ∧ PyData.depth d ≤ 2 * i.dep
  | v, .key s, h, o => by
    have e : v = tV s := h
    subst e
    exact ⟨.str (S s), .str _, strOk_sgn o.2.2, by simp [PyData.depth]⟩
  | v, .rep a, h, o => by
    obtain ⟨p, e, q, xs, rfl, h1, _, h2, _, h3, t⟩ := h
    obtain ⟨ds, hd, hl, hc, hz⟩ := LTrs.dp (K := K) a t o
    refine ⟨.tuple [.str (S [41]), .list [], .list ds], .tup (SqT.of h1) (.cons (.str _) (.cons (.lst (SqL.of h2) .nil) (.cons (.lst (SqL.of h3) hd) .nil))), ?_, ?_⟩
    · show (PyData.canLay0 (.str (S [41])) && (PyData.canLay0 (.list []) && (PyData.canLayAll0 ds && true))) = true
      rw [hc]; decide +kernel
    · show max (PyData.depth (.str (S [41]))) (max (PyData.depthAll [] + 1) (max (PyData.depthAll ds + 1) 0)) + 1 ≤ _
      have e : PyData.depth (.str (S [41])) = 0 := rfl
      have e2 : PyData.depthAll [] = 0 := rfl
      simp [It.dep, e, e2]; omega
  | v, .cho a b, h, o => by
    obtain ⟨p, q, r, xs, ys, rfl, h1, _, h2, _, h3, t, u⟩ := h
    obtain ⟨ds, hd, hl, hc, hz⟩ := LTrs.dp (K := K) a t o.1
    obtain ⟨es, he, hl2, hc2, hz2⟩ := LTrs.dp (K := K) b u o.2
    refine ⟨.tuple [.str (S [93]), .list ds, .list es], .tup (SqT.of h1) (.cons (.str _) (.cons (.lst (SqL.of h2) hd) (.cons (.lst (SqL.of h3) he) .nil))), ?_, ?_⟩
    · show (PyData.canLay0 (.str (S [93])) && (PyData.canLayAll0 ds && (PyData.canLayAll0 es && true))) = true
      rw [hc, hc2]; decide +kernel
    · show max (PyData.depth (.str (S [93]))) (max (PyData.depthAll ds + 1) (max (PyData.depthAll es + 1) 0)) + 1 ≤ _
      have e : PyData.depth (.str (S [93])) = 0 := rfl
      simp [It.dep, e]; omega
theorem LTrs.dp {K : PySem.W.Frag} {F : List Addr} {H : Hp} : ∀ {xs : List V} (a : List It), LTrs F H xs a → okL a → ∃ ds, DpAll K H xs ds ∧ ds.length = a.length ∧ PyData.canLayAll0 ds = true ∧ PyData.depthAll ds ≤ 2 * depL a
  | xs, [], h, o => by
    have e : xs = [] := h
    subst e
    exact ⟨[], .nil, rfl, rfl, by simp [PyData.depthAll]⟩
  | xs, i :: r, h, o => by
    obtain ⟨v, ys, rfl, h1, h2⟩ := h
    obtain ⟨d, hd, hc, hz⟩ := LTr.dp (K := K) i h1 o.1
    obtain ⟨ds, hds, hl, hcs, hzs⟩ := LTrs.dp (K := K) r h2 o.2
    refine ⟨d :: ds, .cons hd hds, by simp [hl], ?_, ?_⟩
    · show (PyData.canLay0 d && PyData.canLayAll0 ds) = true
      rw [hc, hcs]; rfl
    · show max (PyData.depth d) (PyData.depthAll ds) ≤ _
      simp [depL]; omega
end
/-- a tree's list as data -/
theorem LtAt.dp {K : PySem.W.Frag} {H : Hp} {p : Addr} {a : List It} (h : LtAt H p a) (o : okL a) (hd : depL a ≤ 30) : ∃ ds, Dp K H (.ref p) (.list ds) ∧ SeqAt.shaped (.list ds) = true ∧ ds.isEmpty = a.isEmpty := by
  obtain ⟨F, xs, e, t⟩ := h
  obtain ⟨ds, h1, h2, h3, h4⟩ := t.dp (K := K) a o
  refine ⟨ds, .lst (SqL.of e) h1, ?_, ?_⟩
  · unfold SeqAt.shaped
    rw [Bool.and_eq_true]
    refine ⟨h3, decide_eq_true ?_⟩
    show PyData.depthAll ds + 1 ≤ 64
    omega
  · cases ds <;> cases a <;> simp at h2 <;> rfl
end Kr

set_option Elab.async false
set_option linter.all false
set_option maxRecDepth 100000
set_option maxHeartbeats 2000000
/-! ### enumerate(tuple) -/
namespace PySem
open Sem (wp)
open AutoSeq1 (wpAny_loadPart')
theorem kr_enum_newT (l : Addr) (items : Array Value) (n : Nat) (dct : Option Addr) (sl : Array (Option Value)) :
    Meets (Builtin.«enumerate.__new__» ⟨[.type "enumerate", .ref l], []⟩) (fun _ R s => s.heap.get? l = some { cls := .type "tuple", dict := dct, data := .seq items n, slots := sl } ∧
      R (.ok (.ret (.ref (s.heap.push { cls := .type "tuple_iterator", data := .fields #[.ref l, .int 0 0] }).objs.size)))
        { s with heap := (s.heap.push { cls := .type "tuple_iterator", data := .fields #[.ref l, .int 0 0] }).push { cls := .type "enumerate", data := .fields #[.none, .bool false, .ref s.heap.objs.size, rawInt 0, .none, .none] } }) :=
  .of_wp fun prog w A R s h => by
    obtain ⟨hp, g, d, tk, os⟩ := s; obtain ⟨hl, h⟩ := h
    have hsub := sub_enumerate
    have hL : Heap.IsTuple (Shared.heap ⟨hp, g, d, tk, os⟩) l items := ⟨_, hl, rfl, n, rfl⟩
    wp_walk using wpAny_loadPart' hl
    refine wpAny_stack_any fun st => wpAny_pure ?_
    split
    · rename_i c _ _ _ _ _
      cases (c == Value.type "enumerate")
      · wp_walk using wpAny_loadPart' hl, wpAny_pyIter_tuple hL
        exact ⟨_, rfl, h⟩
      · wp_walk using wpAny_loadPart' hl, wpAny_pyIter_tuple hL
        exact ⟨_, rfl, h⟩
    · wp_walk using wpAny_loadPart' hl, wpAny_pyIter_tuple hL
      exact ⟨_, rfl, h⟩
section
variable {prog : Program} {w : World} {A : Around} {E : Value → Shared → Prop} {s : Shared}
theorem kr_enumerate_tuple {l : Addr} {items : Array Value} {Q : Value → Shared → Prop} (hL : s.heap.IsTuple l items)
    (h : ∀ h', IsEnum h' (s.heap.objs.size + 1) s.heap.objs.size 0 .none → h'.IsTupleIter s.heap.objs.size l 0 → h'.objs.size = s.heap.objs.size + 2 →
      (∀ b o, s.heap.get? b = some o → h'.get? b = some o) → Q (.ref (s.heap.objs.size + 1)) { s with heap := h' }) :
    wpAny (model prog w) A (call (.type "enumerate") [.ref l]) Q E s := by
  obtain ⟨⟨c, dct, dt, sl⟩, hl, hc, n, hd⟩ := hL
  replace hc : c = .type "tuple" := hc
  replace hd : dt = .seq items n := hd
  subst hc hd
  refine callType_new F.called_enumerate (by decide) (F.typeCall_enumerate_1 _) (F.newCall_enumerate_1 _) (fun obj => F.args_object_init_2 obj _) F.entry_enumerate_new
    (kr_enum_newT l items n dct sl) ⟨hl, ?_⟩
  have hz : (s.heap.push { cls := .type "tuple_iterator", data := .fields #[.ref l, .int 0 0] }).objs.size = s.heap.objs.size + 1 := Heap.size_push ..
  show _ ∧ _
  rw [hz]
  have he : IsEnum ((s.heap.push { cls := .type "tuple_iterator", data := .fields #[.ref l, .int 0 0] }).push
      { cls := .type "enumerate", data := .fields #[.none, .bool false, .ref s.heap.objs.size, rawInt 0, .none, .none] }) (s.heap.objs.size + 1) s.heap.objs.size 0 .none := by
    have := Heap.get?_push_size (s.heap.push { cls := .type "tuple_iterator", data := .fields #[.ref l, .int 0 0] })
      (o := { cls := .type "enumerate", data := .fields #[.none, .bool false, .ref s.heap.objs.size, rawInt 0, .none, .none] }) rfl
    rw [hz] at this; exact this
  refine ⟨⟨_, he, rfl⟩, h _ he ⟨_, Heap.get?_push_of_some _ (Heap.get?_push_size _ rfl), rfl, rfl⟩ (by rw [Heap.size_push, hz]) fun b o x => Heap.get?_push_of_some _ (Heap.get?_push_of_some _ x)⟩
end
end PySem
namespace L2
open PySem PySem.Spec PyProof.Rows
def IteT (K : PySem.W.Frag) (a : Addr) : It :=
  ⟨fun i H => ∃ (xs : List V) (x : V), SqT K H a xs ∧ xs[i]? = some x, fun i H v H' => ∃ T x, v = .ref T ∧ H T = none ∧ H' = upd H T (.tup [.int (i : Nat), x]) ∧ ∀ xs, SqT K H a xs → xs[i]? = some x, fun i H => ∃ xs : List V, SqT K H a xs ∧ xs.length = i⟩
theorem turn_enumT {P : Program} {w : World} {K : PySem.W.Frag} {elts : List Expr} {kk : Nat} {tpos : Pos} (a e it : Addr) (hia : a ≠ it) (hea : a ≠ e) :
    Turn P w K (.Tuple elts kk tpos) (IteT K a) [e, it] e (fun i h => (∃ old, IsEnum h e it ((i : Nat) : Int) old) ∧ h.IsTupleIter it a i ∧ e ≠ it) where
  mem := by simp
  obj := fun i h st b hb => by
    obtain ⟨⟨old, he⟩, ⟨o, ho, hc, hd⟩, _⟩ := st
    have e' : b = e ∨ b = it := by simpa using hb
    rcases e' with z | z
    · rw [z]; exact ⟨_, he, fun v q => nomatch q⟩
    · rw [z]; exact ⟨o, ho, fun v q => by rw [hd] at q; cases q⟩
  keep := fun i h h' st k => let ⟨⟨old, he⟩, hi, hne⟩ := st; ⟨⟨old, k e (by simp) _ he⟩, hi.at fun o q => k it (by simp) o q, hne⟩
  item := by
    intro X hP hw hK hc i pins s σ H E I hf st hg
    subst hP hw hK
    obtain ⟨⟨old, he⟩, hit, hne⟩ := st
    obtain ⟨xs, x, hq, hx⟩ := hg
    obtain ⟨its, rv, p, hz⟩ := I.tuple hq
    obtain ⟨u, hu, ru⟩ := rv.get hx
    have hel : e < s.heap.objs.size := Heap.lt_size he
    have hil : it < s.heap.objs.size := by obtain ⟨_, q, _⟩ := hit; exact Heap.lt_size q
    have D := Draws.tuple (prog := X.prog) (w := X.w) (A := X.A.in1) (show X.A.in1.handled = none from I.ok.hd hc) it a hia its.toArray
    have hlt : i < its.toArray.size := by
      have : i < its.length := by
        rcases Nat.lt_or_ge i its.length with h | h
        · exact h
        · rw [List.getElem?_eq_none h] at hu; cases hu
      simpa using this
    refine wpAny_pyNext_enum_itemD D he ⟨hit, p⟩ hlt hne (by simp; exact ⟨hne, hea.symm⟩) fun v h' tk hv ho hit' hT hsz hk => ?_
    have ev : v = u := by
      have hv' : its.toArray[i]? = some v := hv
      have hu' : its.toArray[i]? = some u := by simpa using hu
      rw [hu'] at hv'; exact (Option.some.inj hv').symm
    subst ev
    refine ⟨_, rfl, wpAny_letOwnedTupleGo_enum (s := { s with heap := h', toks := tk + 1 }) ho fun h'' he' sb => ?_⟩
    have hT2 : h''.get? s.heap.objs.size = some { cls := .type "tuple", data := .seq #[.int i tk, v] } := (sb.2 _ (Nat.ne_of_gt hel)).trans hT
    have new : ObjOk X.prog X.w (upd H s.heap.objs.size (.tup [.int (i : Nat), x])) h'' s.heap.objs.size (.tup [.int (i : Nat), x]) :=
      ⟨by show 2 ≤ sizeLine; decide, [.int i tk, v], .cons ⟨_, rfl⟩ (.cons ru .nil), ⟨_, hT2, rfl, _, rfl⟩⟩
    have I1 : Inv X pins σ (upd H s.heap.objs.size (.tup [.int (i : Nat), x])) { s with heap := h'', toks := tk + 1 } :=
      I.turnedNew (ch := [e, it]) (fun b ob hb q => (sb.2 b (fun z => hb (by simp [z]))).trans (hk b ob (fun z => hb (by simp [z])) (fun z => hb (by simp [z])) q)) hf (Nat.le_refl _) new
    refine ⟨.ref s.heap.objs.size, _, I1, rfl, ⟨_, x, rfl, I.hok.fresh (Nat.le_refl _), rfl, fun ys hy => by rw [I.tuple_inj hy hq]; exact hx⟩, ⟨⟨v, ?_⟩, ?_, hne⟩, fun b hb => ?_⟩
    · have e1 : ((i + 1 : Nat) : Int) = (i : Int) + 1 := by omega
      rw [e1]; exact he'
    · exact hit'.1.at fun o q => (sb.2 it (Ne.symm hne)).trans q
    · have hb' : b < s.heap.objs.size := by
        have e' : b = e ∨ b = it := by simpa using hb
        rcases e' with z | z
        · rw [z]; exact hel
        · rw [z]; exact hil
      rw [upd_ne (Nat.ne_of_lt hb')]
      exact (hf b hb).1
  done := by
    intro X hP hw hK hc i pins s σ H E I hf st hg
    subst hP hw hK
    obtain ⟨⟨old, he⟩, hit, hne⟩ := st
    obtain ⟨xs, hq, hx⟩ := hg
    obtain ⟨its, rv, p, hz⟩ := I.tuple hq
    obtain ⟨f0, f1, f2, f3, f4, f5⟩ := hf it (by simp)
    have D := Draws.tuple (prog := X.prog) (w := X.w) (A := X.A.in1) (show X.A.in1.handled = none from I.ok.hd hc) it a hia its.toArray
    have hl : its.toArray.size = i := by rw [List.size_toArray, ← rv.length]; exact hx
    exact wpAny_pyNext_enum_endD D he (by rw [hl]; exact ⟨hit, p⟩) fun h' eb => ⟨rfl, I.turned (t' := s.toks) (fun b o hb q => eb b o hb q) f0 f1 f3 f4 f5⟩
  self := fun A i s Q E st h => let ⟨⟨_, he⟩, _⟩ := st; wpAny_pyIter_enum he h
def iEnumT (K : PySem.W.Frag) (ta : TA) : TI := fun σ H R => ta σ H fun vs H1 => ∃ a xs, vs = [.ref a] ∧ SqT K H1 a xs ∧ R (IteT K a) H1
theorem pi_enumT {X : Cx} {e : Expr} {ta : TA} {p pos tpos : Pos} {elts : List Expr} {kk : Nat} (hg : Gl X "enumerate") (hm : X.mg "enumerate" = none) (ha : PA X [e] ta) (hs : starEach [e] X.env = [(false, eval e X.env)] := by rfl) :
    PI X (.Tuple elts kk tpos) (.Call (.Name "enumerate" p) [e] [] pos) (iEnumT X.K ta) := by
  refine ⟨fun pins s σ H R I h => ?_⟩
  refine Call_ (ld_blt I hg hm boot_enumerate (PyProof.Rows.callWith_type1 (thn (ha.run pos pins s σ H _ I h) fun us s1 ⟨vs, H1, I1, r1, q1⟩ => ?_) hs rfl))
  obtain ⟨a, xs, ex, hq, q⟩ := q1
  subst ex
  cases r1 with
  | cons r rr =>
    cases rr
    cases r
    obtain ⟨its, rv, p', hz⟩ := I1.tuple hq
    have hal : a < s1.heap.objs.size := by obtain ⟨_, z, _⟩ := p'; exact Heap.lt_size z
    refine kr_enumerate_tuple p' fun h' he hit hsz hk => wpAny_pyIter_enum he ?_
    have I2 : Inv X pins σ H1 { s1 with heap := h' } := I1.kept (t' := s1.toks) hk
    refine ⟨s1.heap.objs.size + 1, [s1.heap.objs.size + 1, s1.heap.objs.size], _, _, H1, rfl, I2, turn_enumT a (s1.heap.objs.size + 1) s1.heap.objs.size (Nat.ne_of_lt hal) (Nat.ne_of_lt (Nat.lt_succ_of_lt hal)), ⟨⟨.none, he⟩, hit, Nat.succ_ne_self _⟩, fun b hb => ?_, q⟩
    have e' : b = s1.heap.objs.size + 1 ∨ b = s1.heap.objs.size := by simpa using hb
    have hle : s1.heap.objs.size ≤ b := by
      rcases e' with z | z
      · rw [z]; exact Nat.le_add_right _ _
      · rw [z]; exact Nat.le_refl _
    exact I1.fpOk hle (I1.hok.fresh hle)
/-- the walk: pairs of the place and the item -/
theorem walk_enumT {K : PySem.W.Frag} {a : Addr} {xs : List V} : Walk (IteT K a) xs.length (fun H => SqT K H a xs) (fun i H v H' => ∃ T x, v = .ref T ∧ H T = none ∧ H' = upd H T (.tup [.int (i : Nat), x]) ∧ xs[i]? = some x) :=
  ⟨fun i _ hi q => ⟨xs, xs[i], q, by simp [hi]⟩, fun _ q => ⟨xs, q, rfl⟩, fun _ _ _ _ _ q ⟨T, x, h1, h2, h3, h4⟩ => ⟨T, x, h1, h2, h3, h4 xs q⟩⟩
end L2

set_option Elab.async false
set_option linter.all false
set_option maxRecDepth 100000
set_option maxHeartbeats 2000000
namespace Kr
open PySem PySem.Spec PyProof.Rows L2
open SX (S)
/-! ### rows, plainly -/
abbrev Tg := Nat × Int
structure Row where
  k : List Nat
  s : List Nat
  o : Tg
  f : Tg
mutual
def It.lay : It → Nat → Nat → Tg → Tg → List Row
  | .key s, _, _, af, fa => [⟨s.take 1, s.drop 1, af, fa⟩]
  | .rep a, nu, re, af, _ => layL a nu (re + 1) (nu, re) af
  | .cho a b, nu, re, af, fa => layL a nu re af (if b.isEmpty then af else (nu + (keysL a).length, -1)) ++ layL b (nu + (keysL a).length) (re + repsL a) af fa
def layL : List It → Nat → Nat → Tg → Tg → List Row
  | [], _, _, _, _ => []
  | i :: r, nu, re, on, fa => i.lay nu re (if r.isEmpty then on else (nu + i.keys.length, -1)) fa ++ layL r (nu + i.keys.length) (re + i.reps) on fa
end
/-- the rows of the first items of a, the last one's target onward as it is in a -/
def layT (a : List It) (nu re : Nat) (on fa : Tg) (i : Nat) : List Row := (layL a nu re on fa).take (keysL (a.take i)).length
mutual
theorem lay_len : ∀ (i : It) (nu re : Nat) (af fa : Tg), (i.lay nu re af fa).length = i.keys.length
  | .key s, _, _, _, _ => rfl
  | .rep a, nu, re, af, fa => layL_len a _ _ _ _
  | .cho a b, nu, re, af, fa => by
    show (_ ++ _ : List Row).length = (_ ++ _ : List (List Nat)).length
    rw [List.length_append, List.length_append, layL_len a, layL_len b]
theorem layL_len : ∀ (a : List It) (nu re : Nat) (on fa : Tg), (layL a nu re on fa).length = (keysL a).length
  | [], _, _, _, _ => rfl
  | i :: r, nu, re, on, fa => by
    show (_ ++ _ : List Row).length = (_ ++ _ : List (List Nat)).length
    rw [List.length_append, List.length_append, lay_len i, layL_len r]
end
/-- what the i-th item of a gives -/
theorem layT_step {on fa : Tg} : ∀ {a : List It} {nu re i : Nat} {it : It}, a[i]? = some it →
    layT a nu re on fa (i + 1) = layT a nu re on fa i ++ it.lay (nu + (keysL (a.take i)).length) (re + repsL (a.take i)) (if i + 1 = a.length then on else (nu + (keysL (a.take i)).length + it.keys.length, -1)) fa
  | j :: r, nu, re, 0, it, h => by
    simp at h
    subst h
    show ((layL (j :: r) nu re on fa).take (keysL [j]).length) = _
    have e : (keysL [j]).length = (j.lay nu re (if r.isEmpty then on else (nu + j.keys.length, -1)) fa).length := by rw [lay_len]; simp [keysL]
    show List.take _ (j.lay nu re (if r.isEmpty then on else (nu + j.keys.length, -1)) fa ++ _) = _
    rw [e, List.take_left']
    · have e2 : layT (j :: r) nu re on fa 0 = [] := by simp [layT, keysL]
      rw [e2]
      simp [keysL, repsL]
    · rfl
  | j :: r, nu, re, i + 1, it, h => by
    have h' : r[i]? = some it := by simpa using h
    have ih := layT_step (a := r) (nu := nu + j.keys.length) (re := re + j.reps) (on := on) (fa := fa) h'
    have cut : ∀ n, layT (j :: r) nu re on fa (n + 1) = j.lay nu re (if r.isEmpty then on else (nu + j.keys.length, -1)) fa ++ layT r (nu + j.keys.length) (re + j.reps) on fa n := fun n => by
      show List.take _ (j.lay nu re (if r.isEmpty then on else (nu + j.keys.length, -1)) fa ++ layL r (nu + j.keys.length) (re + j.reps) on fa) = _
      have e : (keysL ((j :: r).take (n + 1))).length = (j.lay nu re (if r.isEmpty then on else (nu + j.keys.length, -1)) fa).length + (keysL (r.take n)).length := by
        rw [lay_len]; simp [keysL]
      rw [e, List.take_length_add_append]
      rfl
    rw [cut (i + 1), cut i, ih, List.append_assoc]
    have e1 : (keysL ((j :: r).take (i + 1))).length = j.keys.length + (keysL (r.take i)).length := by simp [keysL]
    have e2 : repsL ((j :: r).take (i + 1)) = j.reps + repsL (r.take i) := by simp [repsL]
    have e3 : (i + 1 + 1 = (j :: r).length) = (i + 1 = r.length) := by simp
    rw [e1, e2]
    simp only [e3]
    simp only [Nat.add_assoc]
theorem layT_zero {a : List It} {nu re : Nat} {on fa : Tg} : layT a nu re on fa 0 = [] := by simp [layT, keysL]
theorem layT_all {a : List It} {nu re : Nat} {on fa : Tg} : layT a nu re on fa a.length = layL a nu re on fa := by
  unfold layT
  rw [List.take_length, ← layL_len a nu re on fa, List.take_length]
/-! ### rows in the heap -/
def TgAt (H : Hp) (p : Addr) (t : Tg) : Prop := H p = some (.tup [.int (t.1 : Nat), .int t.2])
def RowV (H : Hp) (v : V) (r : Row) : Prop := ∃ (p o f : Addr), v = .ref p ∧ H p = some (.tup [tV r.k, tV r.s, .ref o, .ref f]) ∧ TgAt H o r.o ∧ TgAt H f r.f
def RowsV (H : Hp) (xs : List V) (rs : List Row) : Prop := Paired (RowV H) xs rs
theorem RowV.keep {H H' : Hp} {v : V} {r : Row} (k : Tk H H') (h : RowV H v r) : RowV H' v r := by
  obtain ⟨p, o, f, e, h1, h2, h3⟩ := h
  exact ⟨p, o, f, e, k _ _ h1, k _ _ h2, k _ _ h3⟩
theorem RowsV.keep {H H' : Hp} {xs : List V} {rs : List Row} (k : Tk H H') (h : RowsV H xs rs) : RowsV H' xs rs := Paired.mapP h fun _ _ z => z.keep k
theorem RowsV.len {H : Hp} {xs : List V} {rs : List Row} (h : RowsV H xs rs) : xs.length = rs.length := Paired.length h
theorem pairedApp {α β : Type} {R : α → β → Prop} {a b : List α} {c d : List β} (h : Paired R a c) (h' : Paired R b d) : Paired R (a ++ b) (c ++ d) := by
  induction h with
  | nil => exact h'
  | cons r _ ih => exact .cons r ih
theorem RowsV.app {H : Hp} {xs ys : List V} {rs qs : List Row} (h : RowsV H xs rs) (h' : RowsV H ys qs) : RowsV H (xs ++ ys) (rs ++ qs) := pairedApp h h'
/-- the rows rs as a list at p -/
def RowsAt (H : Hp) (p : Addr) (rs : List Row) : Prop := ∃ xs, H p = some (.lst xs) ∧ RowsV H xs rs
theorem RowsAt.same {H H' : Hp} {p : Addr} {rs : List Row} (s : Same H H') (h : RowsAt H p rs) : RowsAt H' p rs := by
  obtain ⟨xs, e, h⟩ := h
  exact ⟨xs, s _ _ e, h.keep (Tk.same s)⟩
/-- a row at the end of a list of rows -/
theorem RowsAt.snoc {H : Hp} {D t o f : Addr} {ys : List V} {rs : List Row} {r : Row} (hD : H D = some (.lst ys)) (hR : RowsV H ys rs) (ht : H t = none) (ho : TgAt H o r.o) (hf : TgAt H f r.f) :
    RowsAt (upd (upd H t (.tup [tV r.k, tV r.s, .ref o, .ref f])) D (.lst (ys ++ [.ref t]))) D (rs ++ [r]) := by
  have hD2 : upd H t (.tup [tV r.k, tV r.s, .ref o, .ref f]) D = some (.lst ys) := by rw [upd_ne (ne_of_none hD ht)]; exact hD
  have k1 : Tk H (upd (upd H t (.tup [tV r.k, tV r.s, .ref o, .ref f])) D (.lst (ys ++ [.ref t]))) := (Tk.refl.new ht).lst hD2
  refine ⟨_, upd_same, (hR.keep k1).app (.cons ⟨t, o, f, rfl, ?_, k1 _ _ ho, k1 _ _ hf⟩ .nil)⟩
  rw [upd_ne (ne_of_none hD ht).symm, upd_same]
/-- a list of rows at the end of another -/
theorem RowsAt.cat {H : Hp} {D l : Addr} {ys zs : List V} {rs qs : List Row} (hD : H D = some (.lst ys)) (hR : RowsV H ys rs) (hZ : RowsV H zs qs) : RowsAt (upd H D (.lst (ys ++ zs))) D (rs ++ qs) := by
  have k1 : Tk H (upd H D (.lst (ys ++ zs))) := Tk.refl.lst hD
  exact ⟨_, upd_same, (hR.keep k1).app (hZ.keep k1)⟩
theorem layT_le (a : List It) (nu re : Nat) (on fa : Tg) (i : Nat) : (layT a nu re on fa i).length ≤ (keysL a).length := by
  have e := layL_len a nu re on fa
  unfold layT
  rw [List.length_take]
  omega
def rowsM (its : List It) : List Row := layL its 0 0 ((keysL its).length, -1) ((keysL its).length + 1, -1)
end Kr

set_option Elab.async false
set_option linter.all false
set_option maxRecDepth 100000
set_option maxHeartbeats 2000000
namespace Kr
open PySem PySem.Spec PyProof.Rows L2
open SX (S)
/-! ### tactics: @hp looks things up in heaps, @cl closes a side condition, @wk walks -/
theorem Same.get {H H' : Hp} {a : Addr} {o : HO} (s : Same H H') (h : H a = some o) : H' a = some o := s a o h
theorem updGet {H : Hp} {p a : Addr} {o u : HO} (h : H a = some u) (n : a ≠ p) : upd H p o a = some u := by rw [upd_ne n]; exact h
theorem updNone {H : Hp} {p a : Addr} {o : HO} (h : upd H p o a = none) : a ≠ p ∧ H a = none := by
  by_cases e : a = p
  · rw [e, upd_same] at h; cases h
  · rw [upd_ne e] at h; exact ⟨e, h⟩
theorem neSN {H : Hp} {p a : Addr} (n : H p = none) (h : (H a).isSome = true) : a ≠ p := fun e => by rw [e, n] at h; cases h
theorem neNS {H : Hp} {p a : Addr} (n : H a = none) (h : (H p).isSome = true) : a ≠ p := fun e => by rw [← e, n] at h; cases h
theorem isS {H : Hp} {a : Addr} {u : HO} (h : H a = some u) : (H a).isSome = true := by rw [h]; rfl
theorem isSs {H H' : Hp} {a : Addr} (s : Same H H') (h : (H a).isSome = true) : (H' a).isSome = true := by
  obtain ⟨u, e⟩ := Option.isSome_iff_exists.mp h
  rw [s _ _ e]; rfl
theorem isSu {H : Hp} {a p : Addr} {o : HO} (h : (H a).isSome = true) : (upd H p o a).isSome = true := by
  by_cases e : a = p
  · rw [e, upd_same]; rfl
  · rw [upd_ne e]; exact h
theorem isSu0 {H : Hp} {p : Addr} {o : HO} : (upd H p o p).isSome = true := by rw [upd_same]; rfl
theorem Kp.get2 {H H' : Hp} {a b l : Addr} {o : HO} (k : Kp [b, l] H H') (h : H a = some o) (h1 : a ≠ b) (h2 : a ≠ l) : H' a = some o := k a o (by simp [h1, h2]) h
theorem neD {H : Hp} {p a : Addr} {u v : HO} (h : H a = some u) (h' : H p = some v) (n : u ≠ v) : a ≠ p := ne_of h h' n
theorem atIz {α : Type} {xs : List α} {i : Nat} {x : α} (h : xs[i]? = some x) : atI xs (0 + (i : Int)) = some x := by
  rw [Int.zero_add]; exact atI_nat h
theorem atIn {α : Type} {xs : List α} {i : Nat} {x : α} (h : xs[i]? = some x) : atI xs (i : Int) = some x := atI_nat h
structure Box (H : Hp) (b l : Addr) : Prop where
  ne : b ≠ l
  ex : ∃ (cs : List Int) (x y : Int), H b = some (.lst [.ref l, .int x, .int y]) ∧ H l = some (.lst (cs.map V.int)) ∧ 0 ≤ x ∧ 0 ≤ y ∧ y < 2147483647
theorem Box.new {H : Hp} {b l p : Addr} {o : HO} (B : Box H b l) (h : H p = none) : Box (upd H p o) b l := by
  obtain ⟨ne, cs, x, y, h1, h2, r⟩ := B
  exact ⟨ne, cs, x, y, by rw [upd_ne (ne_of_none h1 h)]; exact h1, by rw [upd_ne (ne_of_none h2 h)]; exact h2, r⟩
theorem Box.mut {H : Hp} {b l p : Addr} {o : HO} (B : Box H b l) (h1 : p ≠ b) (h2 : p ≠ l) : Box (upd H p o) b l := by
  obtain ⟨ne, cs, x, y, e1, e2, r⟩ := B
  exact ⟨ne, cs, x, y, by rw [upd_ne h1.symm]; exact e1, by rw [upd_ne h2.symm]; exact e2, r⟩
theorem Box.same {H H' : Hp} {b l : Addr} (B : Box H b l) (k : Same H H') : Box H' b l := by
  obtain ⟨ne, cs, x, y, e1, e2, r⟩ := B
  exact ⟨ne, cs, x, y, k _ _ e1, k _ _ e2, r⟩
theorem Box.sm {H H' : Hp} {b l : Addr} (k : Same H H') (B : Box H b l) : Box H' b l := B.same k
theorem Box.k1 {H H' : Hp} {b l x : Addr} (k : Kp [x] H H') (B : Box H b l) (n1 : b ≠ x) (n2 : l ≠ x) : Box H' b l := by
  obtain ⟨ne, cs, p, q, e1, e2, r⟩ := B
  exact ⟨ne, cs, p, q, k _ _ (by simp [n1]) e1, k _ _ (by simp [n2]) e2, r⟩
theorem Box.mt {H : Hp} {b l p : Addr} {o : HO} (B : Box H b l) (n1 : b ≠ p) (n2 : l ≠ p) : Box (upd H p o) b l := B.mut n1.symm n2.symm
theorem Box.isB {H : Hp} {b l : Addr} (B : Box H b l) : (H b).isSome = true := by
  obtain ⟨_, cs, x, y, e1, _⟩ := B
  rw [e1]; rfl
theorem Box.isL {H : Hp} {b l : Addr} (B : Box H b l) : (H l).isSome = true := by
  obtain ⟨_, cs, x, y, _, e1, _⟩ := B
  rw [e1]; rfl
theorem Box.isB' {H : Hp} {b l : Addr} (B : Box H b l) : (H b).isSome = true := B.isB
theorem isSk {H H' : Hp} {a : Addr} (k : ∃ S, Kp S H H' ∧ a ∉ S) (h : (H a).isSome = true) : (H' a).isSome = true := by
  obtain ⟨S, k, hn⟩ := k
  obtain ⟨u, e⟩ := Option.isSome_iff_exists.mp h
  rw [k _ _ hn e]; rfl
theorem Tk.sm {H H1 H2 : Hp} (s : Same H1 H2) (k : Tk H H1) : Tk H H2 := k.trans (Tk.same s)
theorem Tk.nw {H H1 : Hp} {p : Addr} {o : HO} (h : H1 p = none) (k : Tk H H1) : Tk H (upd H1 p o) := k.new h
theorem Tk.ls {H H1 : Hp} {p : Addr} {o : HO} {ys : List V} (h : H1 p = some (.lst ys)) (k : Tk H H1) : Tk H (upd H1 p o) := k.lst h
theorem Tk.bx {H H1 H2 : Hp} {b l : Addr} (s : Kp [b, l] H1 H2) (B : Box H1 b l) (k : Tk H H1) : Tk H H2 := k.trans (Tk.kp s fun p hp => by
  obtain ⟨_, cs, x, y, e1, e2, _⟩ := B
  rcases List.mem_cons.mp hp with rfl | hp
  · exact ⟨_, e1⟩
  · rcases List.mem_cons.mp hp with rfl | hp
    · exact ⟨_, e2⟩
    · cases hp)
theorem Tk.k1 {H H1 H2 : Hp} {x C dx : Addr} {fs : List (Str × V)} (s : Kp [x] H1 H2) (h : H1 x = some (.ins C dx fs)) (k : Tk H H1) : Tk H H2 := k.trans fun a xs e => s a _ (fun z => by
  rw [List.mem_singleton.mp z, h] at e; cases e) e
theorem Kp.get1 {H H' : Hp} {a b : Addr} {o : HO} (k : Kp [b] H H') (h : H a = some o) (h1 : a ≠ b) : H' a = some o := k a o (by simp [h1]) h
theorem updNon {H : Hp} {p a : Addr} {o : HO} (h : H a = none) (n : a ≠ p) : upd H p o a = none := by rw [upd_ne n]; exact h
theorem Same.tr {H H1 H2 : Hp} (s : Same H1 H2) (k : Same H H1) : Same H H2 := k.trans s
theorem Same.nw {H H1 : Hp} {p : Addr} {o : HO} (h : H1 p = none) (k : Same H H1) : Same H (upd H1 p o) := sNew k h
theorem Same.mu {H H1 : Hp} {p : Addr} {o : HO} (h : H p = none) (k : Same H H1) : Same H (upd H1 p o) := sMut k h
theorem ItsAt.kp {H H' : Hp} {p : Addr} {a : List It} (h : ItsAt H p a) (k : Tk H H') : ItsAt H' p a := h.keep k
theorem ItsAt.one {H : Hp} {p : Addr} {x : V} {it : It} (h : H p = some (.tup [x])) (t : Tr H x it) : ItsAt H p [it] := ⟨[x], h, Trs.one t⟩
theorem Tr.kp {H H' : Hp} {v : V} {i : It} (h : Tr H v i) (k : Tk H H') : Tr H' v i := Tr.keep k i h
theorem neTL {H : Hp} {p a : Addr} {xs ys : List V} (h : H a = some (.tup xs)) (h' : H p = some (.lst ys)) : a ≠ p := ne_of h h' (by intro z; cases z)
theorem neLT {H : Hp} {p a : Addr} {xs ys : List V} (h : H a = some (.lst xs)) (h' : H p = some (.tup ys)) : a ≠ p := ne_of h h' (by intro z; cases z)
theorem neTI {H : Hp} {p a C dx : Addr} {xs : List V} {fs : List (Str × V)} (h : H a = some (.tup xs)) (h' : H p = some (.ins C dx fs)) : a ≠ p := ne_of h h' (by intro z; cases z)
theorem neLI {H : Hp} {p a C dx : Addr} {xs : List V} {fs : List (Str × V)} (h : H a = some (.lst xs)) (h' : H p = some (.ins C dx fs)) : a ≠ p := ne_of h h' (by intro z; cases z)
theorem neIT {H : Hp} {p a C dx : Addr} {xs : List V} {fs : List (Str × V)} (h : H a = some (.ins C dx fs)) (h' : H p = some (.tup xs)) : a ≠ p := ne_of h h' (by intro z; cases z)
theorem neIL {H : Hp} {p a C dx : Addr} {xs : List V} {fs : List (Str × V)} (h : H a = some (.ins C dx fs)) (h' : H p = some (.lst xs)) : a ≠ p := ne_of h h' (by intro z; cases z)
theorem Kp.nw1 {H H1 : Hp} {x p : Addr} {o : HO} (h : H1 p = none) (k : Kp [x] H H1) : Kp [x] H (L2.upd H1 p o) := k.new h
theorem Kp.up1 {H H1 : Hp} {x : Addr} {o : HO} (k : Kp [x] H H1) : Kp [x] H (L2.upd H1 x o) := k.upd (by simp)
theorem Kp.tr1 {H H1 H2 : Hp} {x : Addr} (k2 : Kp [x] H1 H2) (k : Kp [x] H H1) : Kp [x] H H2 := k.trans k2
theorem Kp.sm1 {H H1 H2 : Hp} {x : Addr} (s : Same H1 H2) (k : Kp [x] H H1) : Kp [x] H H2 := k.trans (Kp.of_same s)
theorem Tk.kpl {H H1 H2 : Hp} {D : Addr} {ys : List V} (k : Kp [D] H1 H2) (h : H1 D = some (.lst ys)) (t : Tk H H1) : Tk H H2 := t.trans fun a xs e => k a _ (fun z => by
  rw [List.mem_singleton.mp z, h] at e; cases e) e
theorem eqvRefl {d : PyData} (h : d.canLay0 = true) : PyData.eqv d d = true := PySem.SeqAt.eqv_refl d h
def spLaw (K : PySem.W.Frag) : Sp := fun vs H Q _ => ∃ (a : Addr) (ns : List Int), vs = [.ref a] ∧ SqL K H a (ns.map V.int) ∧ ∀ H', Q (.bl true) H'
end Kr

set_option Elab.async false
set_option linter.all false
set_option maxRecDepth 100000
set_option maxHeartbeats 2000000
namespace Kr
open PySem PySem.Spec PyProof.Rows L2
open SX (S)
/-! ### spans of repeats, plainly -/
abbrev Spn := Nat × Int
mutual
def It.spans : It → Nat → List Spn
  | .key _, _ => []
  | .rep a, nu => (nu, (nu : Int) + ((keysL a).length : Nat) - 1) :: spansL a nu
  | .cho a b, nu => spansL a nu ++ spansL b (nu + (keysL a).length)
def spansL : List It → Nat → List Spn
  | [], _ => []
  | i :: r, nu => i.spans nu ++ spansL r (nu + i.keys.length)
end
theorem spansL_app : ∀ (a b : List It) (nu : Nat), spansL (a ++ b) nu = spansL a nu ++ spansL b (nu + (keysL a).length)
  | [], b, nu => by simp [spansL, keysL]
  | i :: r, b, nu => by simp [spansL, keysL, spansL_app r b, Nat.add_assoc]
theorem spansL_one (i : It) (nu : Nat) : spansL [i] nu = i.spans nu := by simp [spansL]
mutual
theorem spans_len : ∀ (i : It) (nu : Nat), (i.spans nu).length = i.reps
  | .key _, _ => rfl
  | .rep a, nu => by simp [It.spans, It.reps, spansL_len a]; omega
  | .cho a b, nu => by simp [It.spans, It.reps, spansL_len a, spansL_len b]
theorem spansL_len : ∀ (a : List It) (nu : Nat), (spansL a nu).length = repsL a
  | [], _ => rfl
  | i :: r, nu => by simp [spansL, repsL, spans_len i, spansL_len r]
end
def SpV (H : Hp) (v : V) (s : Spn) : Prop := ∃ p : Addr, v = .ref p ∧ H p = some (.tup [.int (s.1 : Nat), .int s.2])
theorem SpV.keep {H H' : Hp} {v : V} {s : Spn} (k : Tk H H') (h : SpV H v s) : SpV H' v s := by
  obtain ⟨p, e, h⟩ := h
  exact ⟨p, e, k _ _ h⟩
def SpsV (H : Hp) (xs : List V) (ss : List Spn) : Prop := Paired (SpV H) xs ss
theorem SpsV.keep {H H' : Hp} {xs : List V} {ss : List Spn} (k : Tk H H') (h : SpsV H xs ss) : SpsV H' xs ss := Paired.mapP h fun _ _ z => z.keep k
theorem SpsV.app {H : Hp} {xs ys : List V} {rs qs : List Spn} (h : SpsV H xs rs) (h' : SpsV H ys qs) : SpsV H (xs ++ ys) (rs ++ qs) := pairedApp h h'
/-! ### exits -/
abbrev Ext := Nat × Bool
def exF (n : Nat) (row : Row) (r : Int) : List Ext := (if row.f.2 = r then [(n, false)] else []) ++ (if row.o.2 = r then [(n, true)] else [])
def exitsM (rs : List Row) (r : Int) (n : Nat) : List Ext := match rs with
  | [] => []
  | row :: t => exF n row r ++ exitsM t r (n + 1)
theorem exitsM_app (r : Int) : ∀ (a b : List Row) (n : Nat), exitsM (a ++ b) r n = exitsM a r n ++ exitsM b r (n + a.length)
  | [], b, n => by simp [exitsM]
  | x :: a, b, n => by
    simp [exitsM, exitsM_app r a b]
    have e : n + 1 + a.length = n + (a.length + 1) := by omega
    rw [e]
theorem exitsM_snoc {rs : List Row} {r : Int} {i : Nat} {row : Row} (h : rs[i]? = some row) : exitsM (rs.take (i + 1)) r 0 = exitsM (rs.take i) r 0 ++ exF i row r := by
  have hi : i < rs.length := by
    rcases Nat.lt_or_ge i rs.length with c | c
    · exact c
    · rw [List.getElem?_eq_none_iff.mpr c] at h; cases h
  rw [List.take_add_one, h, exitsM_app]
  simp [exitsM, Nat.min_eq_left (Nat.le_of_lt hi)]
theorem exF_len (n : Nat) (row : Row) (r : Int) : (exF n row r).length ≤ 2 := by
  unfold exF
  split <;> split <;> simp
theorem exitsM_len (r : Int) : ∀ (rs : List Row) (n : Nat), (exitsM rs r n).length ≤ 2 * rs.length
  | [], n => by simp [exitsM]
  | x :: a, n => by
    have := exitsM_len r a (n + 1)
    have := exF_len n x r
    simp [exitsM]; omega
def ExV (H : Hp) (v : V) (e : Ext) : Prop := ∃ p : Addr, v = .ref p ∧ H p = some (.tup [.int (e.1 : Nat), .bl e.2])
theorem ExV.keep {H H' : Hp} {v : V} {s : Ext} (k : Tk H H') (h : ExV H v s) : ExV H' v s := by
  obtain ⟨p, e, h⟩ := h
  exact ⟨p, e, k _ _ h⟩
def ExsV (H : Hp) (xs : List V) (es : List Ext) : Prop := Paired (ExV H) xs es
theorem ExsV.keep {H H' : Hp} {xs : List V} {ss : List Ext} (k : Tk H H') (h : ExsV H xs ss) : ExsV H' xs ss := Paired.mapP h fun _ _ z => z.keep k
theorem ExsV.app {H : Hp} {xs ys : List V} {rs qs : List Ext} (h : ExsV H xs rs) (h' : ExsV H ys qs) : ExsV H (xs ++ ys) (rs ++ qs) := pairedApp h h'
/-! ### repeats -/
abbrev Rp := Spn × List Ext
def rpsM (its : List It) : List Rp := (List.range (repsL its)).map fun i => ((spansL its 0).getD i (0, 0), exitsM (rowsM its) (i : Nat) 0)
theorem rpsM_len (its : List It) : (rpsM its).length = repsL its := by simp [rpsM]
theorem rpsM_at {its : List It} {i : Nat} {s : Spn} (h : (spansL its 0)[i]? = some s) : (rpsM its)[i]? = some (s, exitsM (rowsM its) (i : Nat) 0) := by
  have hi : i < (spansL its 0).length := by
    rcases Nat.lt_or_ge i (spansL its 0).length with c | c
    · exact c
    · rw [List.getElem?_eq_none_iff.mpr c] at h; cases h
  rw [spansL_len] at hi
  unfold rpsM
  rw [List.getElem?_map, List.getElem?_range hi]
  simp [h]
def RpV (H : Hp) (v : V) (r : Rp) : Prop := ∃ (p t : Addr) (xs : List V), v = .ref p ∧ H p = some (.tup [.int (r.1.1 : Nat), .int r.1.2, .ref t]) ∧ H t = some (.tup xs) ∧ ExsV H xs r.2
theorem RpV.keep {H H' : Hp} {v : V} {r : Rp} (k : Tk H H') (h : RpV H v r) : RpV H' v r := by
  obtain ⟨p, t, xs, e, h1, h2, h3⟩ := h
  exact ⟨p, t, xs, e, k _ _ h1, k _ _ h2, h3.keep k⟩
def RpsAt (H : Hp) (l : Addr) (rs : List Rp) : Prop := ∃ xs, H l = some (.lst xs) ∧ Paired (RpV H) xs rs
theorem RpsAt.kp {H H' : Hp} {l : Addr} {rs : List Rp} (h : RpsAt H l rs) (k : Tk H H') (e : ∀ xs, H l = some (.lst xs) → H' l = some (.lst xs)) : RpsAt H' l rs := by
  obtain ⟨xs, h1, h2⟩ := h
  exact ⟨xs, e _ h1, Paired.mapP h2 fun _ _ z => z.keep k⟩
end Kr

set_option Elab.async false
set_option linter.all false
set_option maxRecDepth 100000
set_option maxHeartbeats 2000000
namespace Kr
open PySem PySem.Spec PyProof.Rows L2
open SX (S)
/-! ### spans while one reads -/
def gsp : List Grp → List Spn × Nat × List Nat
  | [] => ([], 0, [])
  | g :: r =>
    if g.c = 40 then ((gsp r).1 ++ spansL g.o (gsp r).2.1 ++ [((gsp r).2.1 + (keysL g.o).length, (((gsp r).2.1 + (keysL g.o).length : Nat) : Int))], (gsp r).2.1 + (keysL g.o).length, (gsp r).2.2 ++ [((gsp r).1 ++ spansL g.o (gsp r).2.1).length])
    else match g.f with
      | none => ((gsp r).1 ++ spansL g.o (gsp r).2.1, (gsp r).2.1 + (keysL g.o).length, (gsp r).2.2)
      | some f => ((gsp r).1 ++ spansL g.o (gsp r).2.1 ++ spansL f ((gsp r).2.1 + (keysL g.o).length), (gsp r).2.1 + (keysL g.o).length + (keysL f).length, (gsp r).2.2)
/-- the spans so far, the number of keys so far -/
def spSo (gs : List Grp) (cur : List It) : List Spn := (gsp gs).1 ++ spansL cur (gsp gs).2.1
def nuSo (gs : List Grp) (cur : List It) : Nat := (gsp gs).2.1 + (keysL cur).length
theorem so_key (gs : List Grp) (cur : List It) (k : List Nat) : spSo gs (cur ++ [.key k]) = spSo gs cur ∧ nuSo gs (cur ++ [.key k]) = nuSo gs cur + 1 := by
  unfold spSo nuSo
  rw [spansL_app, keysL_app]
  simp [spansL, It.spans, keysL, It.keys]
  omega
theorem so_rep (gs : List Grp) (cur : List It) : spSo (⟨40, cur, none⟩ :: gs) [] = spSo gs cur ++ [(nuSo gs cur, (nuSo gs cur : Int))] ∧ nuSo (⟨40, cur, none⟩ :: gs) [] = nuSo gs cur ∧ (gsp (⟨40, cur, none⟩ :: gs)).2.2 = (gsp gs).2.2 ++ [(spSo gs cur).length] := by
  simp [spSo, nuSo, gsp, spansL, keysL]
theorem so_cho (gs : List Grp) (cur : List It) : spSo (⟨91, cur, none⟩ :: gs) [] = spSo gs cur ∧ nuSo (⟨91, cur, none⟩ :: gs) [] = nuSo gs cur ∧ (gsp (⟨91, cur, none⟩ :: gs)).2.2 = (gsp gs).2.2 := by
  simp [spSo, nuSo, gsp, spansL, keysL]
theorem so_bar {g : Grp} (r : List Grp) (cur : List It) (hc : g.c = 91) (hf : g.f = none) : spSo (⟨g.c, g.o, some cur⟩ :: r) [] = spSo (g :: r) cur ∧ nuSo (⟨g.c, g.o, some cur⟩ :: r) [] = nuSo (g :: r) cur ∧ (gsp (⟨g.c, g.o, some cur⟩ :: r)).2.2 = (gsp (g :: r)).2.2 := by
  simp [spSo, nuSo, gsp, spansL, keysL, hc, hf]
theorem so_end {g : Grp} (r : List Grp) (cur f : List It) (hc : g.c = 91) (hf : g.f = some f) : spSo r (g.o ++ [.cho f cur]) = spSo (g :: r) cur ∧ nuSo r (g.o ++ [.cho f cur]) = nuSo (g :: r) cur ∧ (gsp r).2.2 = (gsp (g :: r)).2.2 := by
  simp [spSo, nuSo, gsp, spansL, keysL, hc, hf, spansL_app, keysL_app, It.spans, It.keys, Nat.add_assoc]
theorem so_close {g : Grp} (r : List Grp) (cur : List It) (hc : g.c = 40) : ∃ (A B : List Spn) (m : Nat) (z : Int), spSo (g :: r) cur = A ++ (m, z) :: B ∧ (gsp (g :: r)).2.2 = (gsp r).2.2 ++ [A.length] ∧ spSo r (g.o ++ [.rep cur]) = A ++ (m, (nuSo (g :: r) cur : Int) - 1) :: B ∧ nuSo r (g.o ++ [.rep cur]) = nuSo (g :: r) cur := by
  refine ⟨(gsp r).1 ++ spansL g.o (gsp r).2.1, spansL cur ((gsp r).2.1 + (keysL g.o).length), (gsp r).2.1 + (keysL g.o).length, (((gsp r).2.1 + (keysL g.o).length : Nat) : Int), by simp [spSo, gsp, hc], by simp [gsp, hc], ?_, ?_⟩
  · simp [spSo, nuSo, gsp, hc, spansL_app, It.spans, spansL]
  · simp [nuSo, gsp, hc, keysL_app, It.keys, keysL, Nat.add_assoc]
theorem brk_124' {gs g2 : List Grp} {its i2 : List It} (h : brk 124 gs its = some (g2, i2)) : ∃ g r, gs = g :: r ∧ g2 = ⟨g.c, g.o, some its⟩ :: r ∧ i2 = [] ∧ g.c = 91 ∧ g.f = none := by
  unfold brk at h
  rw [if_neg (by decide)] at h
  split at h
  · cases h
  · rename_i g r
    rw [if_neg (by intro z; cases z.1)] at h
    split at h
    · rename_i hc
      cases h
      exact ⟨g, r, rfl, rfl, rfl, hc.2.1, by simpa using hc.2.2.1⟩
    · rw [if_neg (by intro z; cases z.1)] at h
      cases h
theorem rd_top {ca : Bool} {n m : Nat} {gs : List Grp} {its r : List It} (h : rd ca m n [] gs its = .inr r) : gs = [] ∧ its = r := by
  rw [rd_nil] at h
  cases gs with
  | nil => cases h; exact ⟨rfl, rfl⟩
  | cons g t => cases h
theorem gsp_w : ∀ gs : List Grp, (gsp gs).2.2.length ≤ gs.length
  | [] => by simp [gsp]
  | g :: r => by
    have := gsp_w r
    simp only [gsp]
    split
    · simp; omega
    · split <;> simp <;> omega
theorem gsp_l : ∀ gs : List Grp, (gsp gs).1.length ≤ Gz gs + gs.length
  | [] => by simp [gsp, Gz]
  | g :: r => by
    have := gsp_l r
    have := repsL_sz g.o
    simp only [gsp, Gz]
    split
    · simp [spansL_len]; omega
    · split
      · rename_i h; simp [spansL_len]; omega
      · rename_i f h
        have := repsL_sz f
        rw [h]
        simp [spansL_len]; omega
theorem so_len {i : Nat} {gs : List Grp} {cur : List It} (o : RdOk i gs cur) : (spSo gs cur).length ≤ i + 8 ∧ (gsp gs).2.2.length ≤ 8 := by
  have h1 := gsp_l gs
  have h2 := gsp_w gs
  have h3 := o.z
  have h4 := o.d
  have h5 := repsL_sz cur
  unfold spSo
  simp [spansL_len]; omega
/-! ### spans as lists -/
def LsV (H : Hp) (p : Addr) (s : Spn) : Prop := H p = some (.lst [.int (s.1 : Nat), .int s.2])
structure LsAt (H0 H : Hp) (sl wl : Addr) (ss : List Spn) (W : List Nat) (ps : List Addr) : Prop where
  s : Same H0 H
  f1 : H0 sl = none
  f2 : H0 wl = none
  ne : sl ≠ wl
  hs : H sl = some (.lst (ps.map V.ref))
  hw : H wl = some (.lst (W.map fun i => V.int (i : Nat)))
  nd : ps.Nodup
  nin : ∀ p ∈ ps, p ≠ sl ∧ p ≠ wl ∧ H0 p = none
  pv : Paired (LsV H) ps ss
theorem pairedMem {α β : Type} {R : α → β → Prop} {a : List α} {b : List β} (h : Paired R a b) : ∀ p ∈ a, ∃ y, R p y := by
  induction h with
  | nil => intro p hp; cases hp
  | cons r _ ih =>
    intro p hp
    rcases List.mem_cons.mp hp with rfl | hp
    · exact ⟨_, r⟩
    · exact ih p hp
theorem pairedImp {α β : Type} {R R' : α → β → Prop} {a : List α} {b : List β} (h : Paired R a b) : (∀ p ∈ a, ∀ y, R p y → R' p y) → Paired R' a b := by
  induction h with
  | nil => intro _; exact .nil
  | cons r _ ih => exact fun k => .cons (k _ (by simp) _ r) (ih fun p hp y z => k p (by simp [hp]) y z)
theorem pairedSet {α β : Type} {R : α → β → Prop} : ∀ {A B : List β} {ps : List α} {s : β}, Paired R ps (A ++ s :: B) → ∃ p, ps[A.length]? = some p ∧ R p s ∧ ∀ (R' : α → β → Prop) (s' : β), ps.Nodup → (∀ q ∈ ps, ∀ y, q ≠ p → R q y → R' q y) → R' p s' → Paired R' ps (A ++ s' :: B)
  | [], B, ps, s, h => by
    cases h with
    | cons r t =>
      rename_i p ps'
      refine ⟨p, rfl, r, fun R' s' nd hk hp => .cons hp ?_⟩
      have hn : p ∉ ps' := (List.nodup_cons.mp nd).1
      exact pairedImp t fun q hq y z => hk q (by simp [hq]) y (fun e => hn (e ▸ hq)) z
  | a :: A, B, ps, s, h => by
    cases h with
    | cons r t =>
      rename_i q ps'
      obtain ⟨p, hp, hr, hk⟩ := pairedSet t
      refine ⟨p, by simpa using hp, hr, fun R' s' nd k1 k2 => .cons (k1 _ (by simp) _ ?_ r) (hk R' s' (List.nodup_cons.mp nd).2 (fun q hq y => k1 q (by simp [hq]) y) k2)⟩
      intro e
      subst e
      exact (List.nodup_cons.mp nd).1 (List.mem_of_getElem? hp)
theorem LsAt.new {H0 H : Hp} {sl wl : Addr} {ss : List Spn} {W : List Nat} {ps : List Addr} (L : LsAt H0 H sl wl ss W ps) {q : Addr} {m : Nat} (hq : upd H wl (.lst ((W ++ [ss.length]).map fun i => V.int (i : Nat))) q = none) :
    LsAt H0 (upd (upd (upd H wl (.lst ((W ++ [ss.length]).map fun i => V.int (i : Nat)))) q (.lst [.int (m : Nat), .int (m : Nat)])) sl (.lst ((ps ++ [q]).map V.ref))) sl wl (ss ++ [(m, (m : Int))]) (W ++ [ss.length]) (ps ++ [q]) := by
  obtain ⟨s, f1, f2, ne, hs, hw, nd, nin, pv⟩ := L
  obtain ⟨q1, q2⟩ := updNone hq
  have q3 : q ≠ sl := (ne_of_none hs q2).symm
  have q4 : q ∉ ps := fun z => by
    obtain ⟨y, e⟩ := pairedMem pv q z
    have e' : H q = some _ := e
    rw [q2] at e'; cases e'
  refine ⟨sMut (sNew (sMut s f2) hq) f1, f1, f2, ne, upd_same, ?_, ?_, ?_, ?_⟩
  · rw [upd_ne ne.symm, upd_ne q1.symm, upd_same]
  · rw [List.nodup_append]
    refine ⟨nd, by simp, ?_⟩
    intro a ha b hb
    simp at hb
    subst hb
    exact fun e => q4 (e ▸ ha)
  · intro p hp
    rcases List.mem_append.mp hp with h | h
    · exact nin p h
    · simp at h
      subst h
      exact ⟨q3, q1, s.free q2⟩
  · refine pairedApp ?_ (.cons ?_ .nil)
    · refine pairedImp pv fun p hp y r => ?_
      obtain ⟨n1, n2, _⟩ := nin p hp
      have n3 : p ≠ q := fun e => q4 (e ▸ hp)
      show upd _ _ _ _ = _
      rw [upd_ne n1, upd_ne n3, upd_ne n2]; exact r
    · show upd _ _ _ _ = _
      rw [upd_ne q3, upd_same]
theorem LsAt.close {H0 H : Hp} {sl wl : Addr} {A B : List Spn} {m : Nat} {z z' : Int} {W : List Nat} {ps : List Addr} (L : LsAt H0 H sl wl (A ++ (m, z) :: B) (W ++ [A.length]) ps) :
    ∃ p, ps[A.length]? = some p ∧ H p = some (.lst [.int (m : Nat), .int z]) ∧ p ≠ sl ∧ p ≠ wl ∧ LsAt H0 (upd (upd H wl (.lst (W.map fun i => V.int (i : Nat)))) p (.lst [.int (m : Nat), .int z'])) sl wl (A ++ (m, z') :: B) W ps := by
  obtain ⟨s, f1, f2, ne, hs, hw, nd, nin, pv⟩ := L
  obtain ⟨p, hp, hr, k⟩ := pairedSet pv
  obtain ⟨n1, n2, n3⟩ := nin p (List.mem_of_getElem? hp)
  refine ⟨p, hp, hr, n1, n2, sMut (sMut s f2) n3, f1, f2, ne, ?_, ?_, nd, nin, k _ _ nd (fun q hq y hne hy => ?_) ?_⟩
  · rw [upd_ne n1.symm, upd_ne ne]; exact hs
  · rw [upd_ne n2.symm, upd_same]
  · show upd _ _ _ _ = _
    rw [upd_ne hne, upd_ne (nin q hq).2.1]; exact hy
  · exact upd_same
end Kr

set_option Elab.async false
set_option linter.all false
set_option maxRecDepth 100000
set_option maxHeartbeats 2000000
namespace Kr
open PySem PySem.Spec PyProof.Rows L2
open SX (S)
/-! ### repr of texts -/
def rpr (a : List Nat) : List Nat := (reprText (S a)).cps.toList
theorem rpr_S (a : List Nat) : reprText (S a) = S (rpr a) := (SX.S_tl _).symm
theorem rpr_len {a : List Nat} (h : ∀ c ∈ a, c ∈ sgn) : (rpr a).length ≤ 10 * a.length + 2 := by
  have all : ∀ c ∈ sgn, c < 16 ^ 8 := by decide
  have := StrLaws.reprText_len (S a) (fun c hc => all c (h c (by simpa [S] using hc)))
  rw [rpr_S, SX.S_len, SX.S_len] at this
  exact this
section
variable {X : Cx}
def rReprS : List V → Hp → VK → Prop := fun xs H Q => ∃ a : List Nat, xs = [.str (S a)] ∧ (∀ c ∈ a, c ∈ sgn) ∧ a.length ≤ 1000 ∧ Q (.str (S (rpr a))) H
theorem call_reprS : CallR X (.builtin "repr") rReprS := by
  intro pins s σ H xs us Q I r h
  obtain ⟨a, rfl, ha, hl, q⟩ := h
  obtain ⟨u, rfl, t, rfl⟩ := vals1 r
  have hz : (reprText (S a)).length ≤ sizeLine := by
    rw [rpr_S, SX.S_len]
    exact leSz (by have := rpr_len ha; omega)
  exact PySem.P.repr_of_str ⟨.str _, H, I.tok _, ⟨_, rfl⟩, by rw [rpr_S]; exact q⟩ hz
end
end Kr

set_option Elab.async false
set_option linter.all false
set_option maxRecDepth 100000
set_option maxHeartbeats 2000000
/-! ### fields with a width -/
namespace Kr
open PySem PySem.Spec PyProof.Rows L2
open SX (S)
open Builtin Builtin.Float Builtin.Str
def f3 : FormatSpec := { fill := 32, align := 62, width := some 3 }
def f4 : FormatSpec := { fill := 32, align := 60, width := some 4 }
theorem f3_ok : parseFormatSpec ([62, 51] : List Nat) "int" 62 = .ok f3 := by rfl
theorem f4_ok : parseFormatSpec ([60, 52] : List Nat) "str" 60 = .ok f4 := by rfl
section
variable {prog : Program} {w : World} {A : Around} {E : Value → Shared → Prop} {s : Shared} {t : Tok}
theorem fmt3 {a : Int} {Q : Value → Shared → Prop} (h0 : a.natAbs.log2 < 1920) (hL : (intSpecText f3 a).length ≤ sizeLine) (h : ∀ t' k, Q (.str (intSpecText f3 a) t') { s with toks := k }) :
    wpAny (model prog w) A (formatField (.int a t) (S [62, 51])) Q E s := by
  refine PySem.W.KXf.field_int (spec' := S [62, 51]) rfl (by decide) (by decide) (fun u => ?_) h
  apply PySem.W.KPc.meets_of
  intro p' w' A' s' R' E' hq
  unfold Builtin.«int.__format__»
  refine wpAny_bind (wpAny_of_eq (a := (_, _)) rfl ?_)
  refine wpAny_bind (wpAny_of_eq (a := _) rfl ?_)
  show wpAny _ _ (if (Value.str (S [62, 51]) u == Value.none) = true then _ else _) _ _ _
  rw [if_neg (by intro z; cases z)]
  refine wpAny_bind (wpAny_typeNameOf (T := "str") (typeIs_str _ _ _) (by decide) fun _ => ?_)
  refine wpAny_bind (wpAny_of_eq (a := some _) rfl ?_)
  show wpAny _ _ (if ((S [62, 51]).length == 0) = true then _ else _) _ _ _
  rw [if_neg (by decide)]
  show wpAny _ _ (if (((S [62, 51]).cps.toList.drop 1).any (· ≥ 128) || _) = true then _ else _) _ _ _
  rw [if_neg (by decide)]
  refine wpAny_bind (wpAny_typeNameOfCut_int ?_)
  rw [show (S [62, 51]).cps.toList = [62, 51] from rfl, f3_ok]
  dsimp only
  rw [if_pos (by decide)]
  show wpAny _ _ (do let r ← Builtin.overDigitLimit? a; _) _ _ _
  refine wpAny_bind (wpAny_of_eq (PyProof.Rows.overDigitLimit_small h0) ?_)
  refine PySem.W.KXf.ret_text ?_ ?_ hq
  · unfold intSpecText intField'
    rfl
  · unfold intSpecText intField' at hL
    exact hL
theorem fmt4 {l : List Nat} {Q : Value → Shared → Prop} (hl : l.length ≤ 3) (h : ∀ t' k, Q (.str (S (l ++ List.replicate (4 - l.length) 32)) t') { s with toks := k }) :
    wpAny (model prog w) A (formatField (.str (S l) t) (S [60, 52])) Q E s := by
  refine PySem.W.KXf.field_str (spec' := S [60, 52]) (x' := S l) rfl rfl (by decide) (by decide) (fun u => ?_) h
  apply PySem.W.KPc.meets_of
  intro p' w' A' s' R' E' hq
  unfold Builtin.«str.__format__»
  refine wpAny_bind (wpAny_of_eq (a := (_, _, _)) rfl ?_)
  refine wpAny_bind (wpAny_of_eq (a := some _) rfl ?_)
  show wpAny _ _ (if ((S [60, 52]).length == 0) = true then _ else _) _ _ _
  rw [if_neg (by decide)]
  show wpAny _ _ (if (((S [60, 52]).cps.toList.drop 1).any (· ≥ 128) || _) = true then _ else _) _ _ _
  rw [if_neg (by decide)]
  refine wpAny_bind (PySem.W.KXf.cut_str ?_)
  have e : (do
      let f ← parseFormatSpec (S [60, 52]).cps.toList "str" 60
      let f := if f.type.isNone && (S [60, 52]).cps.back? == some 0 then { f with type := some 0 } else f
      if tooLong (f.width.getD 0) then return none
      return some (← strField (S l) f "str") : Except String (Option (Option Str))) = .ok (some (some (S (l ++ List.replicate (4 - l.length) 32)))) := by
    rw [show (S [60, 52]).cps.toList = [60, 52] from rfl, f4_ok]
    have hp : strField (S l) f4 "str" = .ok (some (S (l ++ List.replicate (4 - l.length) 32))) := by
      match l, hl with
      | [], _ => rfl
      | [_], _ => rfl
      | [_, _], _ => rfl
      | [_, _, _], _ => rfl
    show (do
      if tooLong 4 then return none
      return some (← strField (S l) f4 "str") : Except String (Option (Option Str))) = _
    rw [hp]
    rfl
  dsimp only at e ⊢
  rw [e]
  refine PySem.W.KXf.ret_text rfl ?_ hq
  rw [SX.S_len]
  refine leSz ?_
  simp
  omega
end
/-- a number below a hundred in 3 columns from the right -/
def r3 (n : Nat) : List Nat := if n < 10 then [32, 32, 48 + n] else [32, 48 + n / 10, 48 + n % 10]
theorem r3_ok : ∀ n : Fin 100, intSpecText f3 (n.val : Int) = S (r3 n.val) := by decide +kernel
section
variable {X : Cx}
/-- {i:>3} -/
def tFmt3 (te : TE) : TE := fun σ H Q => te σ H fun x H1 => ∃ n : Nat, x = .int (n : Int) ∧ n < 100 ∧ Q (.str (S (r3 n))) H1
theorem pe_fmt3 {e : Expr} {te : TE} {x : Str} {j : Nat} {p1 p2 pos : Pos} (hx : x = S [62, 51]) (he : PE X e te) : PE X (.FormattedValue e (-1) (some (.JoinedStr [.Constant (.str x) j p1] p2)) pos) (tFmt3 te) := by
  subst hx
  refine ⟨fun pins s σ H Q I h => ?_⟩
  refine wpAny_FormattedValue_spec (thn (he.run pins s σ H _ I h) fun v s1 hv => ?_)
  obtain ⟨x, H1, I1, r1, n, rfl, hn, q⟩ := hv
  obtain ⟨t, rfl⟩ := r1
  refine wpAny_JoinedStr_one (Calls.Constant_str ⟨_, _, rfl, ?_⟩)
  have e := r3_ok ⟨n, hn⟩
  dsimp only at e
  refine fmt3 ?_ ?_ fun t' k => ?_
  · have : n.log2 ≤ n := Nat.log2_le_self n
    show n.log2 < 1920
    omega
  · rw [e, SX.S_len]
    unfold r3
    split <;> exact leSz (by simp)
  · rw [e]
    exact ⟨.str (S (r3 n)), H1, I1.tok _, ⟨_, rfl⟩, q⟩
/-- {x:<4} -/
def tFmt4 (te : TE) : TE := fun σ H Q => te σ H fun x H1 => ∃ l : List Nat, x = .str (S l) ∧ l.length ≤ 3 ∧ Q (.str (S (l ++ List.replicate (4 - l.length) 32))) H1
theorem pe_fmt4 {e : Expr} {te : TE} {x : Str} {j : Nat} {p1 p2 pos : Pos} (hx : x = S [60, 52]) (he : PE X e te) : PE X (.FormattedValue e (-1) (some (.JoinedStr [.Constant (.str x) j p1] p2)) pos) (tFmt4 te) := by
  subst hx
  refine ⟨fun pins s σ H Q I h => ?_⟩
  refine wpAny_FormattedValue_spec (thn (he.run pins s σ H _ I h) fun v s1 hv => ?_)
  obtain ⟨x, H1, I1, r1, l, rfl, hl, q⟩ := hv
  obtain ⟨t, rfl⟩ := r1
  refine wpAny_JoinedStr_one (Calls.Constant_str ⟨_, _, rfl, ?_⟩)
  exact fmt4 hl fun t' k => ⟨.str (S (l ++ List.replicate (4 - l.length) 32)), H1, I1.tok _, ⟨_, rfl⟩, q⟩
end
end Kr

set_option Elab.async false
set_option linter.all false
set_option maxRecDepth 100000
set_option maxHeartbeats 2000000
/-! ### where a token is out: loops, stores, replace -/
namespace Kr
open PySem PySem.Spec PyProof.Rows L2
open SX (S)
section
variable {X : Cx}
theorem one {α : Type} {M : Model} {A : Around} {s : Shared} {t : Sem α} {Q : α → Shared → Prop} {E : Value → Shared → Prop} (h1 : 1 ≤ s.toks) (h : wpAny M A t Q E s) : wpAny M A t (fun a s' => 1 ≤ s'.toks ∧ Q a s') E s :=
  wpAny_mono (wpAny_toks_of h1 h) (fun _ _ z => z) fun _ _ z => z.2
theorem pst_forT {tg iter : Expr} {body : List Stmt} {wi : TI} {g : TG} {tb : TS} {pos : Pos} (hp : PassesOwn (model X.prog X.w) X.A X.env X.xe) (hc : X.calm = true) (hi : PI X tg iter wi) (hg : PG X tg g) (hb : PSsT X body tb)
    (hs : ∀ x, foldedSetIterable iter X.env x = pure x := by intro _; rfl) : PST X (.For tg iter body [] pos) (tFor wi g tb) := by
  intro pins s σ H D h0 I h
  refine wpAny_For (thn (one h0 (hi.run pins s σ H _ I h)) fun v s1 ⟨k1, h1⟩ => thn (one k1 h1) fun itv s2 ⟨k2, h2⟩ => ?_) hs
  obtain ⟨it, fp, tn, J, H2, e, I2, T, st2, f2, W, ⟨m0, w0⟩, turn⟩ := h2
  subst e
  have fr : ∀ {H' : Hp}, (∀ b ∈ fp, H' b = none) → ∀ b ∈ fp, FpOk X pins H' b := fun hn b hb => ⟨hn b hb, (f2 b hb).2⟩
  refine codeAny_forLoop_any (fun n s' => ∃ i σ' H', 1 ≤ s'.toks ∧ Inv X pins σ' H' s' ∧ tn i s'.heap ∧ (∀ b ∈ fp, H' b = none) ∧ W i n σ' H') ?_ m0 ⟨0, σ, H2, k2, I2, st2, fun b hb => (f2 b hb).1, w0⟩
  rintro n s3 ⟨i, σ3, H3, k3, I3, st3, fr3, w3⟩
  rcases turn i n σ3 H3 w3 with ⟨stop, qn⟩ | ⟨go, N, hN, step⟩
  · refine wpAny_passesOwn hp (thn (T.done X rfl rfl rfl hc i pins s3 σ3 H3 X.xe I3 (fr fr3) st3 stop) fun r s4 ⟨hr, I4⟩ => ?_)
    subst hr
    exact wpAny_execs_nil ⟨σ3, H3, I4, qn⟩
  · refine wpAny_passesOwn hp (thn (one k3 (T.item X rfl rfl rfl hc i pins s3 σ3 H3 X.xe I3 (fr fr3) st3 go)) fun r s4 ⟨k4, u, hr, h4⟩ => ?_)
    subst hr
    refine wpAny_passesOwn hp (thn (one k4 h4) fun _ s5 ⟨k5, x, H5, I5, r5, y5, st5, fr5⟩ => ?_)
    have I5' := I5.pinned (fr fr5) (T.obj _ _ st5)
    refine wpAny_passesOwn hp (thn (one k5 (hg.run _ s5 σ3 H5 x u _ I5' r5 (step x H5 y5))) fun _ s6 ⟨k6, σ6, H6, I6, q6⟩ => ?_)
    refine wpAny_passesOwn hp (thn (one k6 (hb _ s6 σ6 H6 _ k6 I6 q6)) fun f s7 ⟨k7, q7⟩ => ?_)
    have again : ∀ {σ7 : L2.St} {H7 : Hp}, Inv X (pins ++ pinsAt fp s5.heap) σ7 H7 s7 → N σ7 H7 → ∃ m, m < n ∧ ∃ i σ' H', 1 ≤ s7.toks ∧ Inv X pins σ' H' s7 ∧ tn i s7.heap ∧ (∀ b ∈ fp, H' b = none) ∧ W i m σ' H' := fun {σ7 H7} I7 n7 => by
      obtain ⟨m', hm, w7⟩ := hN σ7 H7 n7
      refine ⟨m', hm, i + 1, σ7, H7, k7, I7.unpinned, T.keep _ _ _ st5 fun b hb o e => (I7.pin (b, o) (List.mem_append_right _ (List.mem_append_right _ (mem_pinsAt hb e)))).1, fun b hb => ?_, w7⟩
      obtain ⟨o, e, d⟩ := T.obj _ _ st5 b hb
      exact (I7.pin (b, o) (List.mem_append_right _ (List.mem_append_right _ (mem_pinsAt hb e)))).2.1
    cases f with
    | next => obtain ⟨σ7, H7, I7, n7⟩ := q7; exact again I7 n7
    | cont => obtain ⟨σ7, H7, I7, n7⟩ := q7; exact again I7 n7
    | brk => obtain ⟨σ7, H7, I7, q7⟩ := q7; exact ⟨σ7, H7, I7.unpinned, q7⟩
    | ret v => obtain ⟨x7, σ7, H7, I7, r7, q7⟩ := q7; exact ⟨x7, σ7, H7, I7.unpinned, r7, q7⟩
theorem pst_set {i : Nat} {x : Str} {e : Expr} {te : TE} {pos pos' : Pos} (hN : X.N.Nodup) (hi : X.N[i]? = some x) (hx : Loc X.env.scope x) (he : PET X e te) (hs : swapsWith e (some (.Name x pos')) pos.line X.env = pure false := by rfl) (hf : X.fn x = true ∨ X.env.scope.names.lookup x = some .local := by first | exact .inl rfl | exact .inr rfl | assumption) :
    PST X (.Assign [.Name x pos'] e pos) (tAsg te (gName i)) := by
  intro pins s σ H D h0 I h
  refine wpAny_Assign_Name (thn (he pins s σ H _ h0 I h) fun v s1 ⟨y, H1, I1, r1, q1⟩ => ?_) hs
  exact store_ok I1 hN hi hx r1 (fun s2 I2 => ⟨_, H1, I2, q1⟩) hf
end
/-! e.replace(y, z), texts written out -/
theorem replace_S (x y z : List Nat) (hy : 1 ≤ y.length) : Txt.replace (S x) (S y) (S z) = S (StrLaws.replL y z x) := by
  have e := StrLaws.replace_list (x := S x) (y := S y) (z := S z) (by rw [SX.S_len]; exact hy)
  generalize Txt.replace (S x) (S y) (S z) = r at e ⊢
  obtain ⟨⟨a⟩⟩ := r
  simp only [S] at e ⊢
  rw [e]
def tReplS (to : TE) (y z : List Nat) : TE := fun σ H Q => to σ H fun v H1 => ∃ x : List Nat, v = .str (S x) ∧ x.length ≤ 100000 ∧ Q (.str (S (StrLaws.replL y z x))) H1
theorem pet_replS {X : Cx} {o : Expr} {to : TE} {y z : Str} {j k : Nat} {c0 c1 apos pos : Pos} (ly lz : List Nat) (ho : PE X o to) (ey : y = S ly := by decide +kernel) (ez : z = S lz := by decide +kernel) (h1 : 1 ≤ ly.length := by decide) (h2 : lz.length ≤ 10 := by decide) (hyz : (y == z) = false := by decide)
    (hst : starEach [.Constant (.str y) j c0, .Constant (.str z) k c1] X.env = [(false, eval (.Constant (.str y) j c0) X.env), (false, eval (.Constant (.str z) k c1) X.env)] := by rfl)
    (hba : attributeBase o "replace" X.env (eval o X.env) = eval o X.env := by rfl) (hli : (apos.endLine == pos.line) = true := by rfl) :
    PET X (.Call (.Attribute o "replace" apos) [.Constant (.str y) j c0, .Constant (.str z) k c1] [] pos) (tReplS to ly lz) := by
  subst ey ez
  intro pins s σ H Q h0 I h
  refine PySem.Call_method2 hba hst hli (thn (one h0 (ho.run pins s σ H _ I h)) fun v s1 ⟨hk, v', H1, I1, r1, x, e1, hb, q⟩ => ?_)
  subst e1
  obtain ⟨tx, e2⟩ := r1
  subst e2
  refine ⟨"str", _, PySem.F.plainAttrs_str, PySem.F.slot_str_replace, PySem.F.type_str_replace, typeIs_str _ _ _, (fun _ e => nomatch e), Calls.callWith_builtin rfl (Calls.evalArgs_plain (Calls.spliced_cons ?_))⟩
  refine Calls.Constant_str (Calls.spliced_cons (Calls.Constant_str (Calls.spliced_nil ?_)))
  refine PySem.SC.replace (by show s1.toks ≠ 0; omega) (by show s1.toks + 1 ≠ 0; omega) (by show s1.toks ≠ s1.toks + 1; omega) hyz ?_ fun t' k => ⟨.str (Txt.replace (S x) (S ly) (S lz)), H1, I1.tok k, ⟨t', rfl⟩, ?_⟩
  · rw [SX.S_len, SX.S_len]
    have : (x.length + 1) * lz.length ≤ (x.length + 1) * 10 := Nat.mul_le_mul_left _ h2
    omega
  · rw [replace_S _ _ _ h1]
    exact q
theorem okT {P : Program} {w : World} {K : PySem.W.Frag} {mg : Str → Option Value} {base : Heap} {x qual : Str} {params : Arguments} {body : List Stmt} {scope : Scope} {dvs : List V} {kws : List (Str × V)} {f : Addr} {fd : FuncData} {CX : CXT} {N ps : List Str} {k : Nat} {sp : Sp}
    (F : FunD K x qual params body scope dvs kws f fd) (Sc : FnScope N ps scope) (hnc : ∀ y ∈ scope.names, y.2 ≠ .cell) (hps : 1 ≤ ps.length) (len : ∀ vs H Q E, sp vs H Q E → vs.length = ps.length)
    (hbody : ∀ (cdv : Value) (A : Around) (outer : List Env) (s : Shared) (H : Hp) (vs : List V) (Q : VK) (E : XK), Room k (A.deeper (envOfC qual scope s.heap.objs.size f cdv)) → sp vs H Q E →
      ∃ t, PSsT (cxOf CX P w K mg base N qual scope f cdv A outer s H E) body t ∧ t { nx := fun _ H' => Q .non H', rt := Q } (start N vs) H) : FnOk P w K mg base CX (k + 1) f fd ps sp := by
  obtain ⟨oc, od, dV, kV, doc, pm, an, cdv, ct, osl, rfl, lk, hcd, _, _⟩ := F.ex
  exact fn_ofT lk hcd Sc hnc hps len fun A outer s H vs Q E hr hsp => hbody cdv A outer s H vs Q E hr hsp
/-! text * number -/
theorem mulS (a : List Nat) (n : Int) : Txt.mul (S a) n = S (List.replicate n.toNat a).flatten := by
  unfold Txt.mul
  by_cases h1 : n < 1
  · rw [if_pos h1, show n.toNat = 0 by omega]; rfl
  · rw [if_neg h1]
    by_cases h2 : (n == 1 || (S a).length == 0) = true
    · rw [if_pos h2]
      rw [SX.S_len] at h2
      simp only [Bool.or_eq_true, beq_iff_eq, List.length_eq_zero_iff] at h2
      rcases h2 with rfl | rfl
      · simp
      · simp
    · rw [if_neg h2]
      have key : ∀ (k : Nat) (acc : Array Nat), (List.replicate k (S a).cps).foldl (· ++ ·) acc = acc ++ ((List.replicate k a).flatten).toArray := by
        intro k
        induction k with
        | zero => intro acc; simp
        | succ k ih =>
          intro acc
          rw [List.replicate_succ, List.foldl_cons, ih, List.replicate_succ, List.flatten_cons]
          show acc ++ (S a).cps ++ _ = _
          rw [Array.append_assoc]
          congr 1
          simp [S]
      rw [key]
      simp [S]
def rMulS : R2 := fun x y H Q => ∃ (a : List Nat) (n : Int), x = .str (S a) ∧ y = .int n ∧ -1000000000 < n ∧ n < 1000000000 ∧ a.length * n.toNat ≤ 100000 ∧ Q (.str (S (List.replicate n.toNat a).flatten)) H
theorem op_mulS {X : Cx} : OpR X (binaryOp .Mult) rMulS := by
  intro pins s σ H x y v u Q I rx ry h
  obtain ⟨a, n, rfl, rfl, h1, h2, h3, q⟩ := h
  obtain ⟨t, rfl⟩ := rx
  obtain ⟨t2, rfl⟩ := ry
  refine PySem.SB.mul ⟨?_, fun g1 g2 => ?_, fun g1 g2 => ?_⟩ fun t' k => ?_
  · simp only [Bool.or_eq_false_iff, decide_eq_false_iff_not]
    omega
  · rw [SX.S_len]
    have hn : 0 < n := by omega
    have hl : (a.length : Int) * n ≤ 100000 := by
      have e : n = (n.toNat : Int) := by omega
      rw [e]
      rw [← Int.natCast_mul]; exact Int.ofNat_le.mpr h3
    intro z
    have := Int.lt_of_lt_of_le z (Int.le_refl _)
    have z2 := (Int.ediv_lt_iff_lt_mul hn).mp z
    omega
  · rw [SX.S_len]
    unfold PySem.Builtin.Str.tooLong
    exact decide_eq_false (by have := leSz h3; omega)
  · rw [mulS]
    exact ⟨.str (S (List.replicate n.toNat a).flatten), H, I.tok _, ⟨_, rfl⟩, q⟩
/-! f-strings over lists of code points -/
def tJsS : List TE → List Nat → L2.St → Hp → (List Nat → Hp → Prop) → Prop
  | [], acc, _, H, Q => Q acc H
  | t :: ts, acc, σ, H, Q => t σ H fun x H1 => ∃ y : List Nat, x = .str (S y) ∧ (acc ++ y).length ≤ 100000 ∧ tJsS ts (acc ++ y) σ H1 Q
theorem pj_runS {X : Cx} {pins : List (Addr × Obj)} {σ : L2.St} {es : List Expr} {ts : List TE} (h : PJ X es ts) : ∀ (acc : List Nat) (s : Shared) (H : Hp) (Q : List Nat → Hp → Prop) (R : Str → Shared → Prop), acc.length ≤ 100000 → Inv X pins σ H s → tJsS ts acc σ H Q →
    (∀ out s1 H1, out.length ≤ 100000 → Inv X pins σ H1 s1 → Q out H1 → R (S out) s1) → Joins (model X.prog X.w) X.A X.xe (evalEach es X.env) (S acc) R s := by
  induction h with
  | nil =>
    intro acc s H Q R hz I q k
    have e0 : evalEach [] X.env = [] := by first | rfl | simp [evalEach]
    rw [e0]
    exact k acc s H hz I q
  | @cons e t es ts he r ih =>
    intro acc s H Q R hz I q k
    have e0 : evalEach (e :: es) X.env = eval e X.env :: evalEach es X.env := by first | rfl | simp [evalEach]
    rw [e0]
    refine thn (he.run pins s σ H _ I q) fun v s1 hv => ?_
    obtain ⟨x, H1, I1, r1, y, rfl, hy, q1⟩ := hv
    obtain ⟨tk, rfl⟩ := r1
    refine ⟨S y, tk, rfl, by rw [SX.S_cat, SX.S_len]; exact leSz hy, ?_⟩
    rw [SX.S_cat]
    exact ih (acc ++ y) s1 H1 Q R hy I1 q1 k
theorem pe_joinedS {X : Cx} {v1 v2 : Expr} {rest : List Expr} {ts : List TE} {pos : Pos} (h : PJ X (v1 :: v2 :: rest) ts) : PE X (.JoinedStr (v1 :: v2 :: rest) pos) (fun σ H Q => tJsS ts [] σ H fun out H1 => Q (.str (S out)) H1) := by
  refine ⟨fun pins s σ H Q I q => ?_⟩
  exact wpAny_JoinedStr (pj_runS h [] s H (fun out H1 => Q (.str (S out)) H1) _ (Nat.zero_le _) I q fun out s1 H1 hz I1 q1 => ⟨by rw [SX.S_len]; exact leSz hz, .str (S out), H1, I1.tok _, ⟨_, rfl⟩, q1⟩)
/-! str(n) below a hundred -/
def dg (n : Nat) : List Nat := if n < 10 then [48 + n] else [48 + n / 10, 48 + n % 10]
theorem dg_ok : ∀ n : Fin 100, (Str.ofString (toString (n.val : Int))) = S (dg n.val) := by decide +kernel
def rStrI : List V → Hp → VK → Prop := fun xs H Q => ∃ n : Nat, xs = [.int (n : Int)] ∧ n < 100 ∧ Q (.str (S (dg n))) H
theorem call_strI {X : Cx} : CallR X (.type "str") rStrI := callImp call_str_int fun xs H Q ⟨n, e, hn, q⟩ => by
  refine ⟨n, e, ?_, ?_⟩
  · have : n.log2 ≤ n := Nat.log2_le_self n
    show n.log2 < 1920
    omega
  · have e := dg_ok ⟨n, hn⟩
    dsimp only at e
    rw [e]; exact q
theorem r3_dg (n : Nat) : (List.replicate (3 - (dg n).length) [32]).flatten ++ dg n = r3 n := by
  unfold dg r3
  split <;> rfl
theorem dg_len (n : Nat) : 1 ≤ (dg n).length ∧ (dg n).length ≤ 2 := by
  unfold dg
  split <;> simp
theorem rep1 (n c : Nat) : (List.replicate n [c]).flatten = List.replicate n c := by
  induction n with
  | zero => rfl
  | succ n ih => rw [List.replicate_succ, List.flatten_cons, ih, List.replicate_succ]; rfl
end Kr

set_option Elab.async false
set_option linter.all false
set_option maxRecDepth 100000
set_option maxHeartbeats 2000000
/-! ### making that may raise; own operators -/
namespace Kr
open PySem PySem.Spec PyProof.Rows L2
section
variable {X : Cx} {k j : Nat} {x : Str} {C : Addr} {sp : Sp} {dvs : List V} {e : Expr} {es : List Expr} {t : TA} {p pos : Pos} {W : WX}
theorem mkAt {CX : CXT} {f : Addr} {fd : FuncData} {ps : List Str} {ds : List Value} {E : XK} {pins : List (Addr × Obj)} {σ : L2.St} {H : Hp} {s : Shared} {Q : VK} {us : List Value} {vs : List V} (M : L2.Mk X.K C f) (F : FnOk X.prog X.w X.K X.mg X.base CX k f fd ps sp) (hr : Room (k + 1) X.A) (hb : Binds X.K fd ps ds) (hd : Vals dvs ds)
    (hx : PassesAt CX X σ E) (I : Inv X pins σ H s) (r : Vals vs us)
    (h : ∀ x dx, H x = none → H dx = none → dx ≠ x → sp (.ref x :: (vs ++ dvs)) (upd (upd H dx (.own x)) x (.ins C dx [])) (fun v H2 => v = .non ∧ Q (.ref x) H2) E) :
    wpAny (model X.prog X.w) X.A (call (.ref C) us) (EP X pins σ Q) X.xe s := by
  have hq := h (s.heap.objs.size + 1) s.heap.objs.size (I.hok.fresh (Nat.le_succ _)) (I.hok.fresh (Nat.le_refl _)) (Nat.ne_of_lt (Nat.lt_succ_self _))
  have I2 := Inv.made (C := C) I
  have r2 : Vals (V.ref (s.heap.objs.size + 1) :: (vs ++ dvs)) (Value.ref (s.heap.objs.size + 1) :: (us ++ ds)) := .cons rfl (r.append hd)
  have hl : (Value.ref (s.heap.objs.size + 1) :: us ++ ds).length = ps.length := by
    have e := r2.length
    rw [F.len _ _ _ _ hq] at e
    exact e.symm
  refine wpAny_call (make_map (f := f) I.kIn M.makes M.init (beq_iff_eq.mp M.fn) (codeAny_mono (F.run _ X.stack _ _ ⟨Value.ref (s.heap.objs.size + 1) :: us, []⟩ (Value.ref (s.heap.objs.size + 1) :: (us ++ ds)) _ _ E (hr.make C us [])
    (I2.env0.make C us []) (hb _ (Value.ref (s.heap.objs.size + 1) :: us) I2.kIn hl) r2 hq) fun r s' hq' => ?_))
  cases r with
  | error e => exact hx pins _ _ e s' I2 hq'
  | ok fl =>
    cases fl with
    | ret u =>
      obtain ⟨v, H', I3, rv, ev, q3⟩ := I2.after hq'
      subst ev
      exact ⟨rv, ⟨V.ref (s.heap.objs.size + 1), H', I3, rfl, q3⟩⟩
    | next => exact False.elim hq'
    | brk => exact False.elim hq'
    | cont => exact False.elim hq'
def tMakeX (C : Addr) (sp : Sp) (dvs : List V) (E : L2.St → XK) (t : TA) : TE := fun σ H Q => t σ H fun vs H1 => ∀ x dx, H1 x = none → H1 dx = none → dx ≠ x → sp (.ref x :: (vs ++ dvs)) (upd (upd H1 dx (.own x)) x (.ins C dx [])) (fun v H2 => v = .non ∧ Q (.ref x) H2) (E σ)
theorem kmapx (c : KMap X.prog X.w X.K X.mg X.base k x C sp dvs) (tk : Takes X W) (hr : Room j X.A) (hk : k + 1 ≤ j) (hg : Gl X x) (ha : PA X (e :: es) t)
    (h3 : (x == ("__debug__" : Str)) = false := by decide) (h4 : starEach (e :: es) X.env = (false, eval e X.env) :: starEach es X.env := by rfl) (h5 : (backTo pos (starEach es X.env)).any (·.1) = false := by rfl) :
    PE X (.Call (.Name x p) (e :: es) [] pos) (tMakeX C sp dvs (WE W) t) := by
  obtain ⟨f, fd, ps, ds, M, F, hm, b, d⟩ := c.ex
  refine ⟨fun pins s σ H Q I h => ?_⟩
  refine wpAny_Call_Name_kw (ld_glob I hg hm ?_ h3)
  refine PySem.W.callWith_K (h₀ := X.base) I.ok.mod.kin M.kp (thn (ha.run pos pins s σ H _ I h) fun us s1 ⟨vs, H1, I1, r, q⟩ => ⟨I1.kIn, ?_⟩) h4 h5
  exact mkAt M F (hr.mono hk) b d (passAt tk σ) I1 r q
def tMakeVX (C : Addr) (sp : Sp) (dvs : List V) (E : L2.St → XK) (tf : TE) (t : TA) : TE := fun σ H Q => tf σ H fun v H1 => v = .ref C ∧ tMakeX C sp dvs E t σ H1 Q
theorem kmapVx {y : Str} {tf : TE} (c : KMap X.prog X.w X.K X.mg X.base k y C sp dvs) (tk : Takes X W) (hr : Room j X.A) (hk : k + 1 ≤ j) (hf : PE X (.Name x p) tf) (ha : PA X (e :: es) t)
    (h4 : starEach (e :: es) X.env = (false, eval e X.env) :: starEach es X.env := by rfl) (h5 : (backTo pos (starEach es X.env)).any (·.1) = false := by rfl) :
    PE X (.Call (.Name x p) (e :: es) [] pos) (tMakeVX C sp dvs (WE W) tf t) := by
  obtain ⟨f, fd, ps, ds, M, F, hm, b, d⟩ := c.ex
  refine ⟨fun pins s σ H Q I h => ?_⟩
  refine wpAny_Call_Name_kw (thn (hf.run pins s σ H _ I h) fun u s1 hh => ?_)
  obtain ⟨v, H1, I1, rv, rfl, q⟩ := hh
  obtain rfl : u = Value.ref C := rv
  refine PySem.W.callWith_K (h₀ := X.base) I.ok.mod.kin M.kp (thn (ha.run pos pins s1 σ H1 _ I1 q) fun us s2 hq => ?_) h4 h5
  obtain ⟨vs, H2, I2, r, q2⟩ := hq
  exact ⟨I2.kIn, mkAt M F (hr.mono hk) b d (passAt tk σ) I2 r q2⟩
end
/-! o + o, o * n, n * o -/
section
variable {X : Cx} {k j : Nat} {C : Addr} {sp : Sp} {a b : Expr} {ta tb : TE} {pos : Pos} {W : WX}
theorem cmpB {P : Value → Shared → Prop} {z : V} {v : Value} {s' : Shared} (r : RelV z v) (h : P v s') : PySem.W.CmpBack P v s' := by
  cases z with
  | non => cases (show v = Value.none from r); exact h
  | bl b => cases (show v = Value.bool b from r); exact h
  | int i => obtain ⟨t, rfl⟩ := r; exact h
  | str x => obtain ⟨t, rfl⟩ := r; exact h
  | byt x => obtain ⟨t, rfl⟩ := r; exact h
  | flt x => obtain ⟨t, rfl⟩ := r; exact h
  | ref a => cases (show v = Value.ref a from r); exact h
  | ty n => cases (show v = Value.type n from r); exact h
theorem dMul : PySem.dunder "mul" = ("__mul__" : Str) := by decide +kernel
theorem dRmul : PySem.dunderR "mul" = ("__rmul__" : Str) := by decide +kernel
def tOO (C : Addr) (sp : Sp) (E : L2.St → XK) (ta tb : TE) : TE := fun σ H Q => ta σ H fun x H1 => tb σ H1 fun y H2 => ∃ p q dx fs dy gs, x = .ref p ∧ y = .ref q ∧ H2 p = some (.ins C dx fs) ∧ H2 q = some (.ins C dy gs) ∧ sp [.ref p, .ref q] H2 Q (E σ)
theorem pe_OO {op : Operator} (c : KMet X.prog X.w X.K X.mg X.base k C (PySem.dunder op.info.2) sp) (hs : PySem.W.selfFirst X.K C = true) (tk : Takes X W) (hr : Room j X.A) (hk : k ≤ j) (ha : PE X a ta) (hb : PE X b tb) :
    PE X (.BinOp a op b pos) (tOO C sp (WE W) ta tb) := by
  obtain ⟨f, fd, ps, hc, hm, F, bi⟩ := c.ex
  refine ⟨fun pins s σ H Q I h => ?_⟩
  refine wpAny_BinOp (thn (ha.run pins s σ H _ I h) fun v s1 ⟨x, H1, I1, r1, q1⟩ => ?_)
  refine thn (hb.run pins s1 σ H1 _ I1 q1) fun u s2 ⟨y, H2, I2, r2, p, q, dx, fs, dy, gs, ex, ey, hp, hq, q2⟩ => ?_
  subst ex ey
  obtain rfl : v = Value.ref p := r1
  obtain rfl : u = Value.ref q := r2
  obtain ⟨mA, O, _, _, _, _⟩ := ins_get I2.hok hp
  obtain ⟨od, J, _⟩ := O.look
  obtain ⟨mB, O2, _, _, _, _⟩ := ins_get I2.hok hq
  obtain ⟨od2, J2, _⟩ := O2.look
  obtain ⟨m, hF⟩ := I2.fr
  refine PySem.W.binop_K hF I2.ok.mod.kin J J2.type hs hm.at_ hm.fn ?_
  refine wpAny_mono (run_fnSD (dvs := []) (ds := []) (E := WE W) (vs := [.ref p, .ref q]) F (hr.mono hk) bi .nil (passAt tk σ) I2 (.cons rfl (.cons rfl .nil)) (by simpa using q2)) (fun w s' z => ?_) fun _ _ x => x
  obtain ⟨z', H', I', rz, qz⟩ := z
  exact cmpB rz ⟨z', H', I', rz, qz⟩
/-- what a class says of * with ints -/
structure IntMul (K : PySem.W.Frag) (C : Addr) : Prop where
  sf : PySem.W.selfFirst K C = true
  s1 : PySem.W.subIn K (.type "int") (.ref C) = some false
  s2 : PySem.W.subIn K (.ref C) (.type "int") = some false
def tOI (C : Addr) (sp : Sp) (E : L2.St → XK) (ta tb : TE) : TE := fun σ H Q => ta σ H fun x H1 => tb σ H1 fun y H2 => ∃ p n dx fs, x = .ref p ∧ y = .int n ∧ H2 p = some (.ins C dx fs) ∧ sp [.ref p, .int n] H2 Q (E σ)
theorem pe_OI (c : KMet X.prog X.w X.K X.mg X.base k C "__mul__" sp) (c2 : ∃ g : Addr, PySem.W.findIn X.K (.ref C) "__rmul__" = some (some (.ref g))) (hs : IntMul X.K C) (tk : Takes X W) (hr : Room j X.A) (hk : k ≤ j) (ha : PE X a ta) (hb : PE X b tb) :
    PE X (.BinOp a .Mult b pos) (tOI C sp (WE W) ta tb) := by
  obtain ⟨f, fd, ps, hc, hm, F, bi⟩ := c.ex
  obtain ⟨g, hg⟩ := c2
  refine ⟨fun pins s σ H Q I h => ?_⟩
  refine wpAny_BinOp (thn (ha.run pins s σ H _ I h) fun v s1 ⟨x, H1, I1, r1, q1⟩ => ?_)
  refine thn (hb.run pins s1 σ H1 _ I1 q1) fun u s2 ⟨y, H2, I2, r2, p, n, dx, fs, ex, ey, hp, q2⟩ => ?_
  subst ex ey
  obtain rfl : v = Value.ref p := r1
  obtain ⟨tn, rfl⟩ := r2
  obtain ⟨mA, O, _, _, _, _⟩ := ins_get I2.hok hp
  obtain ⟨od, J, _⟩ := O.look
  obtain ⟨cd, hcd, hm0⟩ := PySem.W.any_some hs.sf
  obtain ⟨rest, hmr⟩ : ∃ rest, cd.mro = .ref C :: rest := by
    cases q : cd.mro with
    | nil => rw [q] at hm0; cases hm0
    | cons a r => rw [q] at hm0; exact ⟨r, by rw [List.head?_cons] at hm0; cases (beq_iff_eq.mp hm0); rfl⟩
  have KX := I2.kIn
  have h1 : PySem.W.findIn X.K (.ref C) (PySem.dunder "mul") = some (some (.ref f)) := by rw [dMul]; exact hm.at_
  have h2 : PySem.W.findIn X.K (.ref C) (PySem.dunderR "mul") = some (some (.ref g)) := by rw [dRmul]; exact hg
  unfold binaryOp
  refine wpAny_holding (wpAny_bind ?_)
  show wpAny _ _ (binaryOp1 "mul" (.ref p) (.int n tn)) _ _ _
  unfold binaryOp1
  refine wpAny_bind (J.type.here (wpAny_bind (wpAny_typeOf (typeIs_int _ n tn) (wpAny_bind ((PySem.W.fills_K KX hcd hmr h1).here ?_)))))
  rw [if_neg (by intro z; cases z)]
  refine wpAny_bind (wpAny_of_eq PySem.F.fills_int_mul ?_)
  simp only [Bool.and_self, if_true]
  refine wpAny_bind ((PySem.W.looks_subIn KX hs.s1).here ?_)
  simp only [Bool.false_eq_true, if_false, Bool.not_false, Bool.and_self, if_true]
  have np : PySem.W.Looks (model X.prog X.w) s2.heap (numberSlotInPython (.ref C) "mul") true := by
    intro A' Q' E' s' kk q'
    unfold numberSlotInPython
    refine wpAny_bind (PySem.W.looks_findIn KX h1 A' _ E' s' kk ?_)
    refine wpAny_bind (wpAny_pure ?_)
    refine wpAny_bind (PySem.W.looks_findIn KX h2 A' _ E' s' kk ?_)
    refine wpAny_bind (wpAny_pure ?_)
    simp only [Bool.or_self, if_true]
    exact wpAny_pure q'
  refine wpAny_bind (np.here ?_)
  simp only [if_true]
  refine wpAny_bind (m := numberSlotInPython (.type "int") "mul") (wpAny_pure ?_)
  simp only [Bool.not_false, if_true]
  refine wpAny_bind (wpAny_of_eq PySem.F.slot_int_rmul.lookup ?_)
  refine wpAny_bind (m := tryMethod (.ref p) _ _) ?_
  unfold tryMethod
  refine wpAny_bind (PySem.W.special_fn KX J h1 (beq_iff_eq.mp hm.fn) (wpAny_mono (run_fnSD (dvs := []) (ds := []) (E := WE W) (vs := [.ref p, .int n]) F (hr.mono hk) bi .nil (passAt tk σ) I2 (.cons rfl (.cons ⟨tn, rfl⟩ .nil)) (by simpa using q2)) (fun v s' z => ?_) fun _ _ x => x))
  obtain ⟨z', H', I', rz, qz⟩ := z
  have hv : PySem.W.CmpBack (EP X pins σ Q) v s' := cmpB rz ⟨z', H', I', rz, qz⟩
  cases v <;> first | exact hv.elim | exact wpAny_pure (wpAny_pure (wpAny_pure hv))
def tIO (C : Addr) (sp : Sp) (E : L2.St → XK) (ta tb : TE) : TE := fun σ H Q => ta σ H fun x H1 => tb σ H1 fun y H2 => ∃ p n dx fs, x = .int n ∧ y = .ref p ∧ H2 p = some (.ins C dx fs) ∧ sp [.ref p, .int n] H2 Q (E σ)
theorem int_mul_obj (n : Int) (t : Tok) (l C dx : Addr) :
    Meets (Builtin.«int.__mul__» ⟨[.int n t, .ref l], []⟩) (fun _ R s => s.heap.get? l = some (PySem.W.instObj C dx) ∧ R (.ok (.ret Value.notImplemented)) s) :=
  .of_wp fun prog w A R s h => by
    obtain ⟨hp, g, d, tk, os⟩ := s
    obtain ⟨hl, h⟩ := h
    unfold PySem.W.instObj at hl
    wp_walk
    exact ⟨_, rfl, h⟩
theorem pe_IO (c : KMet X.prog X.w X.K X.mg X.base k C "__rmul__" sp) (c2 : ∃ g : Addr, PySem.W.findIn X.K (.ref C) "__mul__" = some (some (.ref g))) (hs : IntMul X.K C) (tk : Takes X W) (hr : Room j X.A) (hk : k ≤ j) (ha : PE X a ta) (hb : PE X b tb) :
    PE X (.BinOp a .Mult b pos) (tIO C sp (WE W) ta tb) := by
  obtain ⟨f, fd, ps, hc, hm, F, bi⟩ := c.ex
  obtain ⟨g, hg⟩ := c2
  refine ⟨fun pins s σ H Q I h => ?_⟩
  refine wpAny_BinOp (thn (ha.run pins s σ H _ I h) fun v s1 ⟨x, H1, I1, r1, q1⟩ => ?_)
  refine thn (hb.run pins s1 σ H1 _ I1 q1) fun u s2 ⟨y, H2, I2, r2, p, n, dx, fs, ex, ey, hp, q2⟩ => ?_
  subst ex ey
  obtain rfl : u = Value.ref p := r2
  obtain ⟨tn, rfl⟩ := r1
  obtain ⟨mA, O, _, _, _, _⟩ := ins_get I2.hok hp
  obtain ⟨od, J, _⟩ := O.look
  obtain ⟨cd, hcd, hm0⟩ := PySem.W.any_some hs.sf
  obtain ⟨rest, hmr⟩ : ∃ rest, cd.mro = .ref C :: rest := by
    cases q : cd.mro with
    | nil => rw [q] at hm0; cases hm0
    | cons a r => rw [q] at hm0; exact ⟨r, by rw [List.head?_cons] at hm0; cases (beq_iff_eq.mp hm0); rfl⟩
  have KX := I2.kIn
  have h1 : PySem.W.findIn X.K (.ref C) (PySem.dunder "mul") = some (some (.ref g)) := by rw [dMul]; exact hg
  have h2 : PySem.W.findIn X.K (.ref C) (PySem.dunderR "mul") = some (some (.ref f)) := by rw [dRmul]; exact hm.at_
  unfold binaryOp
  refine wpAny_holding (wpAny_bind ?_)
  show wpAny _ _ (binaryOp1 "mul" (.int n tn) (.ref p)) _ _ _
  unfold binaryOp1
  refine wpAny_bind (wpAny_typeOf (typeIs_int _ n tn) (wpAny_bind (J.type.here (wpAny_bind (wpAny_of_eq PySem.F.fills_int_mul ?_)))))
  rw [if_neg (by intro z; cases z)]
  refine wpAny_bind ((PySem.W.fills_K KX hcd hmr h1).here ?_)
  simp only [Bool.and_self, if_true]
  refine wpAny_bind ((PySem.W.looks_subIn KX hs.s2).here ?_)
  simp only [Bool.false_eq_true, if_false, Bool.not_false, Bool.and_self, if_true]
  refine wpAny_bind (m := numberSlotInPython (.type "int") "mul") (wpAny_pure ?_)
  simp only [Bool.false_eq_true, if_false]
  refine wpAny_bind (wpAny_tryMethod_declines (typeIs_int _ n tn) PySem.F.slot_int_mul (call_meets PySem.F.slot_int_mul (typeIs_int _ n tn) PySem.F.entry_int_mul (PySem.F.args_int_mul_2 _ _) (int_mul_obj n tn p C dx) ⟨O.obj, rfl, ?_⟩))
  simp only [Bool.false_eq_true, if_false, Bool.not_false, Bool.and_self, if_true]
  refine wpAny_bind (m := tryMethod (.ref p) _ _) ?_
  unfold tryMethod
  refine wpAny_bind (PySem.W.special_fn KX J h2 (beq_iff_eq.mp hm.fn) (wpAny_mono (run_fnSD (dvs := []) (ds := []) (E := WE W) (vs := [.ref p, .int n]) F (hr.mono hk) bi .nil (passAt tk σ) I2 (.cons rfl (.cons ⟨tn, rfl⟩ .nil)) (by simpa using q2)) (fun v s' z => ?_) fun _ _ x => x))
  obtain ⟨z', H', I', rz, qz⟩ := z
  have hv : PySem.W.CmpBack (EP X pins σ Q) v s' := cmpB rz ⟨z', H', I', rz, qz⟩
  cases v <;> first | exact hv.elim | exact wpAny_pure (wpAny_bind (wpAny_rule (wpAny_pure (wpAny_pure hv))))
end
theorem _root_.Kr.KMet.fnd {P : Program} {w : World} {K : PySem.W.Frag} {mg : Str → Option Value} {base : Heap} {k : Nat} {C : Addr} {m : Str} {sp : Sp} (c : KMet P w K mg base k C m sp) : ∃ g : Addr, PySem.W.findIn K (.ref C) m = some (some (.ref g)) := by
  obtain ⟨f, fd, ps, hc, hm, F, bi⟩ := c.ex
  exact ⟨f, hm.at_⟩
/-! C.f, a number -/
structure KCv (K : PySem.W.Frag) (C : Addr) (f : Str) (i : Int) : Prop where
  rd : ClX.CRead K C (.type "type")
  ex : ∃ u, ClX.CVal K C (.type "type") f (.int i) u
theorem kcv {X : Cx} {C : Addr} {f : Str} {i : Int} {e : Expr} {pos : Pos} (c : KCv X.K C f i) (he : PE X e (tC (.ref C))) (hb : attributeBase e f X.env (eval e X.env) = eval e X.env := by rfl) : PE X (.Attribute e f pos) (tC (.int i)) := by
  obtain ⟨u, k⟩ := c.ex
  exact ⟨fun pins s σ H Q I h => (ClX.pe_cval he hb).run pins s σ H Q I ⟨C, _, .int i, u, rfl, c.rd, k, h⟩⟩
def cvB (K : PySem.W.Frag) (C f : Str) (i : Int) : Bool := PySem.W.readsIn K (He.ga K C) (.type "type") && (He.eqO (PySem.W.specialIn K (.ref (He.ga K C)) "__getattribute__") (some (some (.builtin "type.__getattribute__"))) && (match PySem.W.findCls K (.ref (He.ga K C)) (.type "type") f with
  | some (.val (.int j _)) => decide (j = i)
  | _ => false))
theorem cvB_ok {K : PySem.W.Frag} {C f : Str} {i : Int} (h : cvB K C f i = true) : KCv K (He.ga K C) f i := by
  obtain ⟨h1, h⟩ := He.ba h
  obtain ⟨h2, h3⟩ := He.ba h
  refine ⟨⟨h1, He.eqO_ok h2⟩, ?_⟩
  split at h3
  · rename_i j t e
    have := of_decide_eq_true h3
    subst this
    exact ⟨_, e, ⟨t, rfl⟩⟩
  · cases h3
def imB (K : PySem.W.Frag) (C : Str) : Bool := PySem.W.selfFirst K (He.ga K C) && (decide (PySem.W.subIn K (.type "int") (.ref (He.ga K C)) = some false) && decide (PySem.W.subIn K (.ref (He.ga K C)) (.type "int") = some false))
theorem imB_ok {K : PySem.W.Frag} {C : Str} (h : imB K C = true) : IntMul K (He.ga K C) := by
  obtain ⟨h1, h⟩ := He.ba h
  obtain ⟨h2, h3⟩ := He.ba h
  exact ⟨h1, of_decide_eq_true h2, of_decide_eq_true h3⟩
end Kr

set_option Elab.async false
set_option linter.all false
set_option maxRecDepth 100000
set_option maxHeartbeats 2000000
/-! ### several except clauses, with names or without -/
namespace Kr
open PySem PySem.Spec PyProof.Rows L2
abbrev Cls1 := Value × Option Nat × (Addr → Value → Option Addr → TS)
def endsAt (i : Nat) (D : Ends) : Ends := { nx := fun σ' H' => D.nx (σ'.set i none) H', rt := D.rt, bk := fun σ' H' => D.bk (σ'.set i none) H', ct := fun σ' H' => D.ct (σ'.set i none) H' }
def wMy (K : PySem.W.Frag) (Wout : WX) (D : Ends) : List Cls1 → WX
  | [] => Wout
  | (c, o, ts) :: r => fun cls d σ H => ∃ b, PySem.W.exmOne K cls c = some b ∧ (b = true → ∀ a, H a = none → (match o with
      | none => ts a cls d D σ H
      | some i => ts a cls d (endsAt i D) (σ.set i (some (.ref a))) H)) ∧ (b = false → wMy K Wout D r cls d σ H)
inductive HdMy (X : Cx) : List ExceptHandler → List Cls1 → Prop
  | nil : HdMy X [] []
  | plain {x : Str} {c : Value} {ts : Addr → Value → Option Addr → TS} {b₀ : Stmt} {suite : List Stmt} {np pos' : Pos} {hds : List ExceptHandler} {l : List Cls1} (hc : Names X x c)
      (hsu : ∀ (a : Addr) (oe : Obj) (cls : Value) (d : Option Addr) (pn : List (Addr × Obj)), Zc cls d oe → (∃ vs, oe.data = .fields vs) → PSs (X.suite a ((a, oe) :: pn)) (b₀ :: suite) (ts a cls d)) (r : HdMy X hds l) :
      HdMy X (.ExceptHandler (some (.Name x np)) none (b₀ :: suite) pos' :: hds) ((c, none, ts) :: l)
  | named {x n : Str} {i : Nat} {c : Value} {ts : Addr → Value → Option Addr → TS} {b₀ : Stmt} {suite : List Stmt} {np pos' : Pos} {hds : List ExceptHandler} {l : List Cls1} (hc : Names X x c) (hi : X.N[i]? = some n) (hln : X.env.kindOf n = some .local)
      (hsu : ∀ (a : Addr) (oe : Obj) (cls : Value) (d : Option Addr) (pn : List (Addr × Obj)), Zc cls d oe → (∃ vs, oe.data = .fields vs) → PSs (X.suite a ((a, oe) :: pn)) (b₀ :: suite) (ts a cls d)) (r : HdMy X hds l) :
      HdMy X (.ExceptHandler (some (.Name x np)) (some n) (b₀ :: suite) pos' :: hds) ((c, some i, ts) :: l)
section
variable {X : Cx} {body : List Stmt} {h₀ : ExceptHandler} {hds : List ExceptHandler} {l : List Cls1} {pos : Pos} {tb : WX → TS} {Wout : WX}
theorem ps_tryMy (hs : X.stack = X.env :: X.outer) (hf : X.env.frame = some X.env.locals) (hN : X.N.Nodup) (tk : Takes X Wout)
    (hb : ∀ (W : WX) (pn : List (Addr × Obj)) (xe : Value → Shared → Prop), Takes (X.tr pn xe) W → PassesOwn (model X.prog X.w) X.A X.env xe → PSs (X.tr pn xe) body (tb W))
    (hh : HdMy X (h₀ :: hds) l) : PS X (.Try body (h₀ :: hds) [] [] pos) (fun D σ H => tb (wMy X.K Wout D l) D σ H) := by
  refine ⟨fun pins s σ H D I h => ?_⟩
  have ok := I.ok
  have hfr : X.A.frames = some (X.env :: X.outer) := by rw [ok.frames, hs]
  refine wpAny_Try_except ?_
  refine wpAny_mono ((hb (wMy X.K Wout D l) (X.pn ++ pins) (fun e s₁ => wpAny (model X.prog X.w) X.A (noteFrame e X.env) (fun _ s₂ => wpAny (model X.prog X.w) X.A (setFlight e none) (fun _ s₃ =>
    wpAny (model X.prog X.w) X.A (handleBy e X.env (h₀ :: hds)) (SP X pins D) X.xe s₃) X.xe s₂) X.xe s₁) (fun u s' xx => ?_) PassesOwn.looking).run [] s σ H D (I.toTry _) h) (fun f s1 hsp => ?_) (fun e s1 he => he)
  · obtain ⟨a, B, sI, pins', σ', H', cls, d, rfl, J', nb, up, sky, na, os, ag, w⟩ := xx
    have J : Inv X pins σ' H' sI := J'.ofTry ok
    have sky' : Sky B (X.env :: X.outer) a (Zc cls d) X.env.locals s'.heap := by rw [← hs]; exact sky
    show wpAny (model X.prog X.w) X.A (noteFrame (.ref a) X.env) _ _ _
    refine Sky.land Zc.steady hfr hf sky' fun h3 fl3 up3 => ?_
    have J3 : Inv X pins σ' H' { s' with heap := h3 } := J.landed nb fl3.1 (up.trans up3) os ag
    obtain ⟨oe3, vs3, he3, hz3, hd3⟩ := fl3.there
    have notFr : ∀ {h : Heap} {o : Obj} {vs : Array Value}, h.FunFrames B (X.env :: X.outer) → h.get? a = some o → o.data = .fields vs → a ∉ frs (X.env :: X.outer) := fun {h o vs} ff e dd hm => by
      obtain ⟨_, o', e', hnf⟩ := ff.mem hm
      rw [e] at e'; cases e'
      exact hnf _ dd
    have nfr := notFr fl3.2.2.1 he3 hd3
    have nL : a ≠ X.env.locals := fun z => nfr (List.mem_filterMap.mpr ⟨X.env, List.mem_cons_self, by rw [hf, z]⟩)
    have nF : a ∉ X.fs := fun hm => by
      obtain ⟨e, he, q⟩ := List.mem_filterMap.mp hm
      exact nfr (List.mem_filterMap.mpr ⟨e, List.mem_cons_of_mem _ he, q⟩)
    have S3 := J3.suite he3 hd3 na nL nF
    have test : ∀ {x : Str} {c : Value} {np : Pos}, Names X x c → ∀ {Q : Value → Shared → Prop} {E : Value → Shared → Prop}, Q c { s' with heap := h3 } → wpAny (model X.prog X.w) (X.A.mark (some (.ref a))) (eval (.Name x np) X.env) Q E { s' with heap := h3 } := fun {x c np} hc {Q E} q => by
      obtain ⟨hg, hdbg, hm | ⟨hm, hv, hnn⟩⟩ := hc
      · exact ld_glob (X := X.suite a ((a, oe3) :: (X.pn ++ pins))) S3 hg hm q hdbg
      · exact ld_blt (X := X.suite a ((a, oe3) :: (X.pn ++ pins))) S3 hg hm hv q hnn hdbg
    have LT : PySem.W.Looks (model X.prog X.w) h3 (typeOf (.ref a)) cls := fun A Q E s k q => wpAny_typeOf_ref (k _ _ he3) (by rw [hz3.1]; exact q)
    have go : ∀ {hds' : List ExceptHandler} {l' : List Cls1}, HdMy X hds' l' → wMy X.K Wout D l' cls d σ' H' →
        wpAny (model X.prog X.w) X.A (handleBy (.ref a) X.env hds') (SP X pins D) X.xe { s' with heap := h3 } := by
      intro hds' l' hk
      induction hk with
      | nil =>
        intro w
        refine wpAny_handleBy_nil ?_
        obtain ⟨k1, k2, k3, oe, vs, T, oT, ts', he, hz, hd, h1, hr⟩ := id fl3
        unfold PySem.passOn
        refine wpAny_bind (wpAny_field he hd h1 ?_)
        rw [if_neg (show ¬ ((Value.ref T == Value.none) = true) from by simp)]
        have fin : wpAny (model X.prog X.w) X.A (setFlight (.ref a) X.env.frame) (fun _ s4 => wpAny (model X.prog X.w) X.A (throw (.ref a) : Sem Flow) (SP X pins D) X.xe s4) X.xe { s' with heap := h3 } := by
          rw [hf]
          refine HandSPX.setFlight_upZ fl3 fun h4 hh4 up4 => wpAny_throw (tk _ _ ?_)
          exact ⟨a, B, sI, pins, σ', H', cls, d, rfl, J, nb, (up.trans up3).trans up4, .inr (.inr (by rw [hs]; exact hh4)), na, os, ag, w⟩
        first
          | exact wpAny_bind (wpAny_pure (wpAny_bind fin))
          | exact wpAny_bind fin
      | @plain x c ts b₀ suite np pos' hds2 l2 hc hsu r ih =>
        intro w
        obtain ⟨b, hb1, hyes, hno⟩ := w
        refine wpAny_handleBy_cons (codeAny_handlers_test ?_) (by intro q; cases q)
        have LM := PySem.W.exm_one (M := model X.prog X.w) (J3.kIn) LT hb1
        refine test hc (LM.here ?_)
        cases b with
        | true =>
          refine codeAny_handlers_suite ?_
          refine HandSPX.lands_againZ fl3 fun h4 fl4 up4 => ?_
          have J4 : Inv X pins σ' H' { s' with heap := h4 } := J.landed nb fl4.1 ((up.trans up3).trans up4) os ag
          obtain ⟨oe4, vs4, he4, hz4, hd4⟩ := fl4.there
          have S4 := J4.suite he4 hd4 na nL nF
          refine wpAny_mono ((hsu a oe4 cls d (X.pn ++ pins) hz4 ⟨_, hd4⟩).run [] _ _ H' _ S4 (hyes rfl a na)) (fun f s6 hsp => ?_) (fun _ _ z => False.elim z)
          cases f with
          | next => obtain ⟨σ6, H6, S6, q6⟩ := hsp; exact ⟨_, _, S6.unsuite ok, q6⟩
          | brk => obtain ⟨σ6, H6, S6, q6⟩ := hsp; exact ⟨_, _, S6.unsuite ok, q6⟩
          | cont => obtain ⟨σ6, H6, S6, q6⟩ := hsp; exact ⟨_, _, S6.unsuite ok, q6⟩
          | ret u => obtain ⟨v6, σ6, H6, S6, r6, q6⟩ := hsp; exact ⟨_, _, _, S6.unsuite ok, r6, q6⟩
        | false =>
          show wpAny _ X.A (handleBy (.ref a) X.env hds2) _ _ _
          exact ih (hno rfl)
      | @named x n i c ts b₀ suite np pos' hds2 l2 hc hi hln hsu r ih =>
        intro w
        have hloc : Loc X.env.scope n := .inl hln
        obtain ⟨b, hb1, hyes, hno⟩ := w
        refine wpAny_handleBy_cons (codeAny_handlers_test ?_) (by intro q; cases q)
        have LM := PySem.W.exm_one (M := model X.prog X.w) (J3.kIn) LT hb1
        refine test hc (LM.here ?_)
        cases b with
        | true =>
          refine codeAny_handlers_suite_as ?_
          refine HandSPX.lands_againZ fl3 fun h4 fl4 up4 => ?_
          have J4 : Inv X pins σ' H' { s' with heap := h4 } := J.landed nb fl4.1 ((up.trans up3).trans up4) os ag
          obtain ⟨oe4, vs4, he4, hz4, hd4⟩ := fl4.there
          have S4 := J4.suite he4 hd4 na nL nF
          refine store_ok (X := X.suite a ((a, oe4) :: (X.pn ++ pins))) (v := .ref a) S4 hN hi hloc rfl (fun s5 S5 => ?_) (.inr hln)
          refine wpAny_mono ((hsu a oe4 cls d (X.pn ++ pins) hz4 ⟨_, hd4⟩).run [] s5 _ H' _ S5 (hyes rfl a na)) (fun f s6 hsp => ?_) (fun _ _ z => False.elim z)
          have end_ : ∀ {σ6 : L2.St} {H6 : Hp} {Q : Shared → Prop}, Inv (X.suite a ((a, oe4) :: (X.pn ++ pins))) [] σ6 H6 s6 → (∀ s7, Inv X pins (σ6.set i none) H6 s7 → Q s7) →
              wpAny (model X.prog X.w) X.A (do bindName X.env n .none; unbindBehindTheSuite X.env n pos') (fun _ s7 => Q s7) X.xe s6 := fun {σ6 H6 Q} S6 hq => gone_ok (S6.unsuite ok) hN hi hln hq
          cases f with
          | next => obtain ⟨σ6, H6, S6, q6⟩ := hsp; exact end_ S6 fun s7 J7 => ⟨_, _, J7, q6⟩
          | brk => obtain ⟨σ6, H6, S6, q6⟩ := hsp; exact end_ S6 fun s7 J7 => ⟨_, _, J7, q6⟩
          | cont => obtain ⟨σ6, H6, S6, q6⟩ := hsp; exact end_ S6 fun s7 J7 => ⟨_, _, J7, q6⟩
          | ret u => obtain ⟨v6, σ6, H6, S6, r6, q6⟩ := hsp; exact end_ S6 fun s7 J7 => ⟨_, _, _, J7, r6, q6⟩
        | false =>
          show wpAny _ X.A (handleBy (.ref a) X.env hds2) _ _ _
          exact ih (hno rfl)
    exact go hh w
  · cases f with
    | next => obtain ⟨σ', H', J', q⟩ := hsp; exact wpAny_execs_nil ⟨σ', H', J'.ofTry ok, q⟩
    | brk => obtain ⟨σ', H', J', q⟩ := hsp; exact ⟨σ', H', J'.ofTry ok, q⟩
    | cont => obtain ⟨σ', H', J', q⟩ := hsp; exact ⟨σ', H', J'.ofTry ok, q⟩
    | ret u => obtain ⟨v, σ', H', J', r, q⟩ := hsp; exact ⟨v, σ', H', J'.ofTry ok, r, q⟩
end
end Kr

set_option Elab.async false
set_option linter.all false
set_option maxRecDepth 100000
set_option maxHeartbeats 2000000
/-! ### def f(*v, c = ..): called with any positional values, c given by its name or left out -/
namespace Kr
open PySem PySem.Spec PyProof.Rows L2
/-- what a def with a star parameter and one keyword-only parameter promises; sp: of [c, the tuple] -/
structure KSt (P : Program) (w : World) (K : PySem.W.Frag) (mg : Str → Option Value) (base : Heap) (k : Nat) (x ck : Str) (sp : Sp) (dv : V) : Prop where
  ex : ∃ f : Addr, mg x = some (.ref f) ∧ PySem.W.keepIn K (.ref f) = true ∧
    (∀ (A : Around) (outer : List Env) (s : Shared) (H : Hp) (us : List Value) (rest : List V) (Q : VK) (E : XK), Room k A → Env0 P w K mg base A outer s H → Vals rest us → rest.length ≤ sizeLine → (∀ p, H p = none → sp [dv, V.ref p] (upd H p (.tup rest)) Q E) →
      codeAny (model P w) A (.call (.ref f) ⟨us, []⟩) (CR (CX P w) outer P w H s Q E) s) ∧
    (∀ (A : Around) (outer : List Env) (s : Shared) (H : Hp) (us : List Value) (rest : List V) (c : V) (u : Value) (Q : VK) (E : XK), Room k A → Env0 P w K mg base A outer s H → Vals rest us → RelV c u → rest.length ≤ sizeLine → (∀ p, H p = none → sp [c, V.ref p] (upd H p (.tup rest)) Q E) →
      codeAny (model P w) A (.call (.ref f) ⟨us, [(ck, u)]⟩) (CR (CX P w) outer P w H s Q E) s)
theorem kst_of {P : Program} {w : World} {K : PySem.W.Frag} {mg : Str → Option Value} {base : Heap} {k : Nat} {x ck pv : Str} {params : Arguments} {body : List Stmt} {scope : Scope} {dv : V} {f : Addr} {fd : FuncData} {N : List Str} {sp : Sp} (F : FunD K x x params body scope [] [(ck, dv)] f fd) (hm : mg x = some (.ref f)) (Sc : FnScope N [ck, pv] scope)
    (hb : ∀ (D : Addr) (doc pm : Value) (an : Option Addr) (cdv ct : Value) (rest : List Value) (u : Value), bindArgs (PySem.W.fnOf x x params body scope .none (.ref D) doc pm an cdv ct) ⟨rest, [(ck, u)]⟩ = (newTuple rest >>= fun t => pure [(ck, u), (pv, t)]))
    (hd : ∀ (D : Addr) (doc pm : Value) (an : Option Addr) (cdv ct : Value) (rest : List Value) (u : Value), ∃ (β γ : Type) (k1 : Option Value → Sem β) (k2 : β → Sem γ) (k3 : γ → Sem (List (Str × Value))) (a : β), bindArgs (PySem.W.fnOf x x params body scope .none (.ref D) doc pm an cdv ct) ⟨rest, []⟩ = ((nsGet D ck >>= k1) >>= k2) >>= k3 ∧ k1 (some u) = pure a ∧
      (k2 a >>= k3) = (newTuple rest >>= fun t => pure [(ck, u), (pv, t)]))
    (hbody : ∀ (cdv : Value) (A : Around) (outer : List Env) (s : Shared) (H : Hp) (vs : List V) (Q : VK) (E : XK), Room k (A.deeper (envOfC x scope s.heap.objs.size f cdv)) → sp vs H Q E →
      ∃ t, PSs (cxOf (CX P w) P w K mg base N x scope f cdv A outer s H E) body t ∧ t { nx := fun _ H' => Q .non H', rt := Q } (start N vs) H) : KSt P w K mg base (k + 1) x ck sp dv := by
  obtain ⟨oc, od, dV, kV, doc, pm, an, cdv, ct, osl, rfl, lk, hcd, hD, hK⟩ := F.ex
  have hdV : dV = .none := by
    rcases hD with ⟨_, e⟩ | ⟨e, _⟩
    · exact e
    · exact absurd rfl e
  subst hdV
  rcases hK with e | ⟨D, rfl, hq⟩
  · cases e
  obtain ⟨u0, hu0, ru0⟩ := hq (ck, dv) (by simp)
  have core : ∀ (A : Around) (outer : List Env) (s : Shared) (H : Hp) (us : List Value) (rest : List V) (c : V) (u : Value) (Q : VK) (E : XK) (args : Args), Room (k + 1) A → Env0 P w K mg base A outer s H → Vals rest us → RelV c u → rest.length ≤ sizeLine → (∀ p, H p = none → sp [c, V.ref p] (upd H p (.tup rest)) Q E) →
      (∀ (M : Model) (A' : Around) (Ex : Value → Shared → Prop) (Q' : List (Str × Value) → Shared → Prop), wpAny M A' (newTuple us >>= fun t => pure [(ck, u), (pv, t)]) Q' Ex s → wpAny M A' (bindArgs (PySem.W.fnOf x x params body scope .none (.ref D) doc pm an cdv ct) args) Q' Ex s) →
      codeAny (model P w) A (.call (.ref f) args) (CR (CX P w) outer P w H s Q E) s := by
    intro A outer s H us rest c u Q E args hr e0 r rc hz hsp hbi
    have hn : H s.heap.objs.size = none := e0.hok.fresh (Nat.le_refl _)
    have hl2 : us.length ≤ sizeLine := by rw [← r.length]; exact hz
    refine StX.run_bnd lk hcd Sc hr e0 (G := fun xs H2 => ∃ p, H p = none ∧ xs = [c, V.ref p] ∧ H2 = upd H p (.tup rest)) (fun A' Ex Q' h => ?_) fun s2 H2 xs ⟨p, hp, ex, eH⟩ hr' => ?_
    · refine hbi _ _ _ _ (wpAny_bind (wpAny_newTuple (wpAny_pure ?_) hl2))
      have new : ObjOk P w (upd H s.heap.objs.size (.tup rest)) (s.heap.push ({ cls := .type "tuple", data := .seq us.toArray } : Obj)) s.heap.objs.size (.tup rest) := ⟨hz, us, r, ⟨_, Heap.get?_push_size _ rfl, rfl, _, rfl⟩⟩
      have un := StX.un_laid (fs := frs outer) (s := s) (o := ({ cls := .type "tuple", data := .seq us.toArray } : Obj)) (u := .tup rest) hn
      exact h _ _ [c, V.ref s.heap.objs.size] [u, Value.ref s.heap.objs.size] (StX.env0_laid e0 new) un rfl (fun e s' => StX.cxUp outer s H _ _ E e s' un (fun b o q => Heap.get?_push_of_some _ q) rfl) (.cons rc (.cons rfl .nil)) rfl ⟨_, hn, rfl, rfl⟩
    · subst ex eH
      exact hbody cdv A outer s2 _ _ Q E hr' (hsp p hp)
  refine ⟨f, hm, F.kp, fun A outer s H us rest Q E hr e0 r hz hsp => ?_, fun A outer s H us rest c u Q E hr e0 r rc hz hsp => ?_⟩
  · refine core A outer s H us rest dv u0 Q E _ hr e0 r ru0 hz hsp fun M A' Ex Q' hw => ?_
    obtain ⟨β, γ, k1, k2, k3, a, e1, e2, e3⟩ := hd D doc pm an cdv ct us u0
    rw [e1, bind_assoc]
    have KX : K.In s.heap := e0.mod.kin.keeps fun b o e => (e0.bs b o e).1
    refine wpAny_bind (((PySem.W.looks_nsIn KX hu0).andThen (PySem.W.Looks.of_pure e2)).here ?_)
    rw [e3]
    exact hw
  · refine core A outer s H us rest c u Q E _ hr e0 r rc hz hsp fun M A' Ex Q' hw => ?_
    rw [hb]
    exact hw
section
variable {X : Cx} {k j : Nat} {x ck : Str} {sp : Sp} {dv : V} {e : Expr} {es : List Expr} {t : TA} {p pos : Pos} {W : WX}
theorem runSt {E : XK} {pins : List (Addr × Obj)} {σ : L2.St} {H : Hp} {s : Shared} {Q : VK} {args : Args} {f : Addr} (hx : PassesAt (CX X.prog X.w) X σ E) (I : Inv X pins σ H s) (h : codeAny (model X.prog X.w) X.A (.call (.ref f) args) (CR (CX X.prog X.w) X.stack X.prog X.w H s Q E) s) :
    wpAny (model X.prog X.w) X.A (call (.ref f) args.pos args.kw) (EP X pins σ Q) X.xe s := by
  refine wpAny_call (codeAny_mono h fun r s' hq => ?_)
  cases r with
  | error er => exact hx _ H s er s' I hq
  | ok fl =>
    cases fl with
    | ret u => exact I.after hq
    | next => exact False.elim hq
    | brk => exact False.elim hq
    | cont => exact False.elim hq
def tSt (sp : Sp) (dv : V) (E : L2.St → XK) (t : TA) : TE := fun σ H Q => t σ H fun vs H1 => vs.length ≤ sizeLine ∧ ∀ p, H1 p = none → sp [dv, V.ref p] (upd H1 p (.tup vs)) Q (E σ)
theorem kst (c : KSt X.prog X.w X.K X.mg X.base k x ck sp dv) (tk : Takes X W) (hr : Room j X.A) (hk : k ≤ j) (hg : Gl X x) (ha : PA X (e :: es) t) (hdb : (x == ("__debug__" : Str)) = false := by decide)
    (he : starEach (e :: es) X.env = (false, eval e X.env) :: starEach es X.env := by rfl) (hpl : (backTo pos (starEach es X.env)).any (·.1) = false := by rfl) : PE X (.Call (.Name x p) (e :: es) [] pos) (tSt sp dv (WE W) t) := by
  obtain ⟨f, hm, kp, h1, h2⟩ := c.ex
  refine ⟨fun pins s σ H Q I h => ?_⟩
  refine wpAny_Call_Name_kw (ld_glob I hg hm ?_ hdb)
  refine PySem.W.callWith_K (h₀ := X.base) I.ok.mod.kin kp (thn (ha.run pos pins s σ H _ I h) fun us s1 ⟨vs, H1, I1, r, hz, q⟩ => ⟨I1.kIn, ?_⟩) he hpl
  exact runSt (args := ⟨us, []⟩) (passAt tk σ) I1 (h1 X.A X.stack s1 H1 us vs Q _ (hr.mono hk) I1.env0 r hz q)
theorem kst0 (c : KSt X.prog X.w X.K X.mg X.base k x ck sp dv) (tk : Takes X W) (hr : Room j X.A) (hk : k ≤ j) (hg : Gl X x) (hdb : (x == ("__debug__" : Str)) = false := by decide) : PE X (.Call (.Name x p) [] [] pos) (tSt sp dv (WE W) tNil) := by
  obtain ⟨f, hm, kp, h1, h2⟩ := c.ex
  refine ⟨fun pins s σ H Q I h => ?_⟩
  refine wpAny_Call_Name_kw (ld_glob I hg hm ?_ hdb)
  exact PySem.W.callWith_K0 I.kIn kp (runSt (args := ⟨[], []⟩) (passAt tk σ) I (h1 X.A X.stack s H [] [] Q _ (hr.mono hk) I.env0 .nil h.1 h.2))
def tStK (sp : Sp) (E : L2.St → XK) (t : TA) (tk : TA) : TE := fun σ H Q => t σ H fun vs H1 => tk σ H1 fun zs H2 => ∃ c, zs = [c] ∧ vs.length ≤ sizeLine ∧ ∀ p, H2 p = none → sp [c, V.ref p] (upd H2 p (.tup vs)) Q (E σ)
theorem kstK {kws : List Keyword} {tw : TA} (c : KSt X.prog X.w X.K X.mg X.base k x ck sp dv) (tk : Takes X W) (hr : Room j X.A) (hk : k ≤ j) (hg : Gl X x) (ha : PA X (e :: es) t) (hkw : PK X kws tw)
    (hall : (backToKw pos (keywordEach kws X.env)).all (·.1.isSome) = true := by rfl) (hks : (backToKw pos (keywordEach kws X.env)).filterMap (·.1) = [ck] := by rfl) (hdb : (x == ("__debug__" : Str)) = false := by decide)
    (he : starEach (e :: es) X.env = (false, eval e X.env) :: starEach es X.env := by rfl) (hpl : ((backTo pos (starEach (e :: es) X.env)).any (·.1) || (backToKw pos (keywordEach kws X.env)).any (·.1.isNone)) = false := by rfl) :
    PE X (.Call (.Name x p) (e :: es) kws pos) (tStK sp (WE W) t tw) := by
  obtain ⟨f, hm, kp, h1, h2⟩ := c.ex
  refine ⟨fun pins s σ H Q I h => ?_⟩
  refine wpAny_Call_Name_kw (ld_glob I hg hm ?_ hdb)
  refine PySem.W.callWith_KW (h₀ := X.base) I.ok.mod.kin kp hall (thn (ha.run pos pins s σ H _ I h) fun us s1 ⟨vs, H1, I1, r, q⟩ => ?_) hpl he
  refine thn (hkw.run pos pins s1 σ H1 _ I1 q) fun ws s2 ⟨zs, H2, I2, rz, c, ec, hz, q2⟩ => ⟨I2.kIn, ?_⟩
  rw [hks]
  subst ec
  cases rz with
  | cons rc rr =>
    cases rr
    exact runSt (args := ⟨us, [(ck, _)]⟩) (passAt tk σ) I2 (h2 X.A X.stack s2 H2 us vs _ _ Q _ (hr.mono hk) I2.env0 r rc hz q2)
theorem kstK0 {kws : List Keyword} {tw : TA} (c : KSt X.prog X.w X.K X.mg X.base k x ck sp dv) (tk : Takes X W) (hr : Room j X.A) (hk : k ≤ j) (hg : Gl X x) (hkw : PK X kws tw)
    (hall : (backToKw pos (keywordEach kws X.env)).all (·.1.isSome) = true := by rfl) (hks : (backToKw pos (keywordEach kws X.env)).filterMap (·.1) = [ck] := by rfl) (hdb : (x == ("__debug__" : Str)) = false := by decide)
    (hpl : ((backTo pos (starEach [] X.env)).any (·.1) || (backToKw pos (keywordEach kws X.env)).any (·.1.isNone)) = false := by rfl) :
    PE X (.Call (.Name x p) [] kws pos) (tStK sp (WE W) tNil tw) := by
  obtain ⟨f, hm, kp, h1, h2⟩ := c.ex
  refine ⟨fun pins s σ H Q I h => ?_⟩
  refine wpAny_Call_Name_kw (ld_glob I hg hm ?_ hdb)
  refine PySem.W.callWith_KW0 (h₀ := X.base) I.ok.mod.kin kp hall ?_ hpl
  refine thn (hkw.run pos pins s σ H _ I h) fun ws s2 ⟨zs, H2, I2, rz, c, ec, hz, q2⟩ => ⟨I2.kIn, ?_⟩
  rw [hks]
  subst ec
  cases rz with
  | cons rc rr =>
    cases rr
    exact runSt (args := ⟨[], [(ck, _)]⟩) (passAt tk σ) I2 (h2 X.A X.stack s2 H2 [] [] _ _ Q _ (hr.mono hk) I2.env0 .nil rc hz q2)
end
end Kr

set_option Elab.async false
set_option linter.all false
set_option maxRecDepth 100000
set_option maxHeartbeats 2000000
/-! ### [c for c in text if p c] -/
namespace Kr
open PySem PySem.Spec PyProof.Rows L2
open SX (S)
abbrev oneV (c : Nat) : V := .str (S [c])
theorem filter_tk {p : Nat → Bool} {a : List Nat} {i c : Nat} (h : a[i]? = some c) : (a.take (i + 1)).filter p = (a.take i).filter p ++ if p c then [c] else [] := by
  have e : a.take (i + 1) = a.take i ++ [c] := by rw [List.take_succ, h]; rfl
  rw [e, List.filter_append]
  congr 1
  by_cases q : p c
  · simp [q]
  · simp [q]
theorem lcF {a : List Nat} {p : Nat → Bool} {i : Nat} {tt : TT} {vs : List Nat} {σ : L2.St} {H1 : Hp} {D : Addr} {Qd : Hp → Prop} (hl : a.length ≤ 1000) (hD : H1 D = none)
    (ht : ∀ (c : Nat) (H2 : Hp) (R : Bool → Hp → Prop), c ∈ a → Same H1 H2 → R (p c) H2 → tt ((wipe σ vs).set i (some (oneV c))) H2 R) (hw : ∀ v, wipe ((wipe σ vs).set i v) vs = wipe σ vs) (hv : ∀ v, ((wipe σ vs).set i v)[i]? = some v)
    (hd : ∀ H2, Same H1 H2 → H2 D = some (.lst ((a.filter p).map oneV)) → Qd H2) :
    ∃ W : Nat → Nat → Hp → Prop, (∃ m, W 0 m (upd H1 D (.lst []))) ∧ ∀ j m H, W j m H →
      ((Its (S a)).stop j H ∧ Qd H) ∨ ((Its (S a)).go j H ∧ ∃ Nx : Hp → Prop, (∀ H', Nx H' → ∃ m', m' < m ∧ W (j + 1) m' H') ∧ ∀ x H', (Its (S a)).yld j H x H' → gName i x (wipe σ vs) H' fun σ2 H2 => wipe σ2 vs = wipe σ vs ∧ tt σ2 H2 fun b H3 =>
        if b = true then tVar i σ2 H3 fun y H4 => ∃ acc, H4 D = some (.lst acc) ∧ acc.length < sizeLine ∧ Nx (upd H4 D (.lst (acc ++ [y]))) else Nx H3) := by
  refine lc_it walk_S (fun j H2 => H2 D = some (.lst (((a.take j).filter p).map oneV)) ∧ Same H1 H2) ?_ (fun _ _ _ _ => trivial) ?_ ?_
  · exact ⟨upd_same, sNew (Same.refl _) hD⟩
  · rintro j x H2 H3 hj ⟨h1, s1⟩ ⟨rfl, c, hc, rfl⟩
    have ef := filter_tk (p := p) hc
    have hfl : ((a.take j).filter p).length ≤ 1000 := Nat.le_trans (List.length_filter_le _ _) (by rw [List.length_take]; omega)
    refine ⟨hw _, ht c _ _ (List.mem_of_getElem? hc) s1 ?_⟩
    refine if2 (fun b => ?_) (fun b => ?_)
    · refine ⟨_, hv _, _, h1, ?_, ?_, sMut s1 hD⟩
      · rw [List.length_map]; exact ltSz (by omega)
      · rw [upd_same, ef, b]; simp
    · refine ⟨?_, s1⟩
      rw [ef, b]; simpa using h1
  · rintro H2 ⟨h1, s1⟩
    rw [List.take_length] at h1
    exact hd H2 s1 h1
/-- "".join of one-sign texts -/
theorem ones (a : List Nat) : (a.map fun c => [c]).flatten = a := by
  induction a with
  | nil => rfl
  | cons c a ih => simp [ih]
theorem onesV (a : List Nat) : a.map oneV = (a.map fun c => [c]).map fun y => V.str (S y) := by rw [List.map_map]; rfl
theorem pairAt {α β : Type} {R : α → β → Prop} {a : List α} {b : List β} (h : Paired R a b) : ∀ {i : Nat} {x : α}, a[i]? = some x → ∃ y, b[i]? = some y ∧ R x y := by
  induction h with
  | nil => intro i x e; simp at e
  | cons r _ ih =>
    intro i x e
    cases i with
    | zero => simp at e; subst e; exact ⟨_, rfl, r⟩
    | succ i =>
      obtain ⟨y, h1, h2⟩ := ih (i := i) (x := x) (by simpa using e)
      exact ⟨y, by simpa using h1, h2⟩
theorem sIns {H : Hp} {x dx C : Addr} (hx : H x = none) (hd : H dx = none) (nd : dx ≠ x) : Same H (upd (upd H dx (.own x)) x (.ins C dx [])) := fun b o h => by
  rw [upd_ne (ne_of_none h hx), upd_ne (ne_of_none h hd)]; exact h
theorem sKp {H H1 H2 : Hp} {x : Addr} (s : Same H H1) (k : Kp [x] H1 H2) (hx : H x = none) : Same H H2 := fun b o h => k b o (by simp; exact ne_of_none h hx) (s b o h)
end Kr

set_option Elab.async false
set_option linter.all false
set_option maxRecDepth 100000
set_option maxHeartbeats 2000000
/-! ### reading seen as a machine of brackets; texts cut into parts -/
namespace Kr
open PySem PySem.Spec PyProof.Rows L2
open SX (S)
/-- the place of the first fault from i on, or none; gs: the marks of the open brackets, em: nothing stands in the innermost one yet, pe: the first half of a key that waits for its sign -/
def sc (ca : Bool) : Nat → List Nat → List Nat → Bool → Option Nat → Option Nat
  | i, [], _, _, some _ => some i
  | i, [], gs, _, none => if gs.isEmpty then none else some i
  | i, d :: t, gs, em, some c => if d ∈ (if c = 64 then ltr else sgn) then sc ca (i + 1) t gs false none else some i
  | i, c :: t, gs, em, none =>
    if c ∈ plk then sc ca (i + 1) t gs false none
    else if c ∈ sgk ∨ (ca = true ∧ c = 64) then sc ca (i + 1) t gs em (some c)
    else if c = 40 ∨ c = 91 then (if gs.length = 8 then some i else sc ca (i + 1) t (c :: gs) true none)
    else match gs with
      | [] => some i
      | g :: r => if c = 41 ∧ g = 40 ∧ em = false then sc ca (i + 1) t r false none
        else if c = 124 ∧ g = 91 ∧ em = false then sc ca (i + 1) t (124 :: r) em none
        else if c = 93 ∧ g = 124 then sc ca (i + 1) t r false none else some i
theorem sc_cons (ca : Bool) (i c : Nat) (t gs : List Nat) (em : Bool) : sc ca i (c :: t) gs em none = (
    if c ∈ plk then sc ca (i + 1) t gs false none
    else if c ∈ sgk ∨ (ca = true ∧ c = 64) then sc ca (i + 1) t gs em (some c)
    else if c = 40 ∨ c = 91 then (if gs.length = 8 then some i else sc ca (i + 1) t (c :: gs) true none)
    else match gs with
      | [] => some i
      | g :: r => if c = 41 ∧ g = 40 ∧ em = false then sc ca (i + 1) t r false none
        else if c = 124 ∧ g = 91 ∧ em = false then sc ca (i + 1) t (124 :: r) em none
        else if c = 93 ∧ g = 124 then sc ca (i + 1) t r false none else some i) := by
  cases gs <;> rfl
theorem sc_pend (ca : Bool) (i c d : Nat) (t gs : List Nat) (em : Bool) : sc ca i (d :: t) gs em (some c) = if d ∈ (if c = 64 then ltr else sgn) then sc ca (i + 1) t gs false none else some i := by
  cases gs <;> rfl
theorem plk_not {ca : Bool} {c : Nat} (h : c ∈ plk) : ¬ (c ∈ sgk ∨ (ca = true ∧ c = 64)) := by
  have : ∀ c ∈ plk, c ∉ sgk ∧ c ≠ 64 := by decide
  obtain ⟨a, b⟩ := this c h
  rintro (z | ⟨_, z⟩)
  · exact a z
  · exact b z
theorem sc_two (ca : Bool) (i c d : Nat) (t gs : List Nat) (em : Bool) (h : c ∈ sgk ∨ (ca = true ∧ c = 64)) : sc ca i (c :: d :: t) gs em none = if d ∈ (if c = 64 then ltr else sgn) then sc ca (i + 2) t gs false none else some (i + 1) := by
  rw [sc_cons, if_neg (fun z => plk_not (ca := ca) z h), if_pos h, sc_pend]
theorem sc_end (ca : Bool) (i c : Nat) (gs : List Nat) (em : Bool) (h : c ∈ sgk ∨ (ca = true ∧ c = 64)) : sc ca i [c] gs em none = some (i + 1) := by
  rw [sc_cons, if_neg (fun z => plk_not (ca := ca) z h), if_pos h]
  cases gs <;> rfl
/-- reading tells what the machine tells -/
def EmOk (gs : List Grp) (its : List It) (em : Bool) : Prop := match gs with
  | [] => True
  | g :: _ => g.mk' = 124 ∨ em = its.isEmpty
theorem rd_sc (ca : Bool) : ∀ (f i : Nat) (t : List Nat) (gs : List Grp) (its : List It) (em : Bool), t.length ≤ f → Gw gs → EmOk gs its em →
    (∀ k, rd ca f i t gs its = .inl k → sc ca i t (gs.map Grp.mk') em none = some k) ∧ (∀ r, rd ca f i t gs its = .inr r → sc ca i t (gs.map Grp.mk') em none = none)
  | f, i, [], gs, its, em, _, _, _ => by
    have e : rd ca f i [] gs its = if gs.isEmpty then .inr its else .inl i := by cases f <;> rfl
    rw [e]
    cases gs with
    | nil =>
      refine ⟨fun k h => ?_, fun r h => rfl⟩
      simp at h
    | cons g r =>
      refine ⟨fun k h => ?_, fun r h => ?_⟩
      · simp at h
        subst h
        rfl
      · simp at h
  | f + 1, i, c :: t, gs, its, em, hf, hw, he => by
    have hf' : t.length ≤ f := by simpa using hf
    rw [rd]
    by_cases h1 : c ∈ plk
    · have ek : kl ca (c :: t) = .inr 1 := by simp only [kl]; rw [if_pos h1]
      rw [ek, sc_cons, if_pos h1]
      simp only
      have hk : EmOk gs (its ++ [.key (c :: t.take 0)]) false := by
        cases gs with
        | nil => trivial
        | cons g r => exact .inr (by simp)
      exact rd_sc ca f (i + 1) (t.drop 0) gs _ false (by simpa using hf') hw hk
    · by_cases h2 : c ∈ sgk ∨ (ca = true ∧ c = 64)
      · cases t with
        | nil =>
          have ek : kl ca [c] = .inl 1 := by simp only [kl]; rw [if_neg h1, if_pos h2]
          rw [ek, sc_end _ _ _ _ _ h2]
          exact ⟨fun k h => by cases h; rfl, fun r h => by cases h⟩
        | cons d t =>
          rw [sc_two _ _ _ _ _ _ _ h2]
          by_cases h3 : d ∈ (if c = 64 then ltr else sgn)
          · have ek : kl ca (c :: d :: t) = .inr 2 := by simp only [kl]; rw [if_neg h1, if_pos h2, if_pos h3]
            rw [ek, if_pos h3]
            simp only
            have hk : EmOk gs (its ++ [.key (c :: (d :: t).take 1)]) false := by
              cases gs with
              | nil => trivial
              | cons g r => exact .inr (by simp)
            exact rd_sc ca f (i + 2) ((d :: t).drop 1) gs _ false (by simp at hf' ⊢; omega) hw hk
          · have ek : kl ca (c :: d :: t) = .inl 1 := by simp only [kl]; rw [if_neg h1, if_pos h2, if_neg h3]
            rw [ek, if_neg h3]
            exact ⟨fun k h => by cases h; rfl, fun r h => by cases h⟩
      · rw [sc_cons, if_neg h1, if_neg h2]
        by_cases h3 : c ∈ brs
        · have ek : kl ca (c :: t) = .inr 0 := by simp only [kl]; rw [if_neg h1, if_neg h2, if_pos h3]
          rw [ek]
          simp only
          by_cases h4 : c = 40 ∨ c = 91
          · rw [if_pos h4]
            unfold brk
            rw [if_pos h4, List.length_map]
            by_cases h8 : gs.length = 8
            · rw [if_pos h8, if_pos h8]
              exact ⟨fun k h => by cases h; rfl, fun r h => by cases h⟩
            · rw [if_neg h8, if_neg h8]
              simp only
              have em' : (⟨c, its, none⟩ : Grp).mk' = c := by rcases h4 with rfl | rfl <;> rfl
              have := rd_sc ca f (i + 1) t (⟨c, its, none⟩ :: gs) [] true hf' ⟨by rcases h4 with rfl | rfl; exact .inl ⟨rfl, rfl⟩; exact .inr rfl, hw⟩ (.inr rfl)
              rw [List.map_cons, em'] at this
              exact this
          · rw [if_neg h4]
            unfold brk
            rw [if_neg h4]
            cases gs with
            | nil =>
              simp only [List.map_nil]
              exact ⟨fun k h => by cases h; rfl, fun r h => by cases h⟩
            | cons g r =>
              obtain ⟨hg, hw'⟩ := hw
              simp only [List.map_cons]
              have hem : g.mk' ≠ 124 → em = its.isEmpty := fun z => he.resolve_left z
              have mk40 : g.mk' = 40 ↔ g.c = 40 := by
                rcases hg with ⟨e1, e2⟩ | e1
                · simp [Grp.mk', e1]
                · cases hf : g.f <;> simp [Grp.mk', e1, hf]
              have mk91 : g.mk' = 91 ↔ (g.c = 91 ∧ g.f.isNone = true) := by
                rcases hg with ⟨e1, e2⟩ | e1
                · simp [Grp.mk', e1]
                · cases hf : g.f <;> simp [Grp.mk', e1, hf]
              have mk124 : g.mk' = 124 ↔ (g.c = 91 ∧ g.f.isNone = false) := by
                rcases hg with ⟨e1, e2⟩ | e1
                · simp [Grp.mk', e1]
                · cases hf : g.f <;> simp [Grp.mk', e1, hf]
              by_cases a1 : c = 41 ∧ g.c = 40 ∧ its.isEmpty = false
              · have b1 : c = 41 ∧ g.mk' = 40 ∧ em = false := ⟨a1.1, mk40.mpr a1.2.1, by rw [hem (by rw [mk40.mpr a1.2.1]; decide)]; exact a1.2.2⟩
                rw [if_pos a1, if_pos b1]
                simp only
                have hk : EmOk r (g.o ++ [.rep its]) false := by
                  cases r with
                  | nil => trivial
                  | cons g' r' => exact .inr (by simp)
                exact rd_sc ca f (i + 1) t r _ false hf' hw' hk
              · have b1 : ¬ (c = 41 ∧ g.mk' = 40 ∧ em = false) := fun ⟨z1, z2, z3⟩ => a1 ⟨z1, mk40.mp z2, by rw [← hem (by rw [z2]; decide)]; exact z3⟩
                rw [if_neg a1, if_neg b1]
                by_cases a2 : c = 124 ∧ g.c = 91 ∧ g.f.isNone = true ∧ its.isEmpty = false
                · have m := mk91.mpr ⟨a2.2.1, a2.2.2.1⟩
                  have b2 : c = 124 ∧ g.mk' = 91 ∧ em = false := ⟨a2.1, m, by rw [hem (by rw [m]; decide)]; exact a2.2.2.2⟩
                  rw [if_pos a2, if_pos b2]
                  simp only
                  have em' : (⟨g.c, g.o, some its⟩ : Grp).mk' = 124 := by simp [Grp.mk', a2.2.1]
                  have := rd_sc ca f (i + 1) t (⟨g.c, g.o, some its⟩ :: r) [] em hf' ⟨.inr a2.2.1, hw'⟩ (.inl em')
                  rw [List.map_cons, em'] at this
                  exact this
                · have b2 : ¬ (c = 124 ∧ g.mk' = 91 ∧ em = false) := fun ⟨z1, z2, z3⟩ => a2 ⟨z1, (mk91.mp z2).1, (mk91.mp z2).2, by rw [← hem (by rw [z2]; decide)]; exact z3⟩
                  rw [if_neg a2, if_neg b2]
                  by_cases a3 : c = 93 ∧ g.c = 91
                  · rw [if_pos a3]
                    cases hgf : g.f with
                    | none =>
                      have b3 : ¬ (c = 93 ∧ g.mk' = 124) := fun ⟨_, z⟩ => by have := (mk124.mp z).2; rw [hgf] at this; cases this
                      rw [if_neg b3]
                      exact ⟨fun k h => by cases h; rfl, fun r h => by cases h⟩
                    | some fs =>
                      have b3 : c = 93 ∧ g.mk' = 124 := ⟨a3.1, mk124.mpr ⟨a3.2, by rw [hgf]; rfl⟩⟩
                      rw [if_pos b3]
                      simp only
                      have hk : EmOk r (g.o ++ [.cho fs its]) false := by
                        cases r with
                        | nil => trivial
                        | cons g' r' => exact .inr (by simp)
                      exact rd_sc ca f (i + 1) t r _ false hf' hw' hk
                  · have b3 : ¬ (c = 93 ∧ g.mk' = 124) := fun ⟨z1, z2⟩ => a3 ⟨z1, (mk124.mp z2).1⟩
                    rw [if_neg a3, if_neg b3]
                    exact ⟨fun k h => by cases h; rfl, fun r h => by cases h⟩
        · have ek : kl ca (c :: t) = .inl 0 := by simp only [kl]; rw [if_neg h1, if_neg h2, if_neg h3]
          have n3 : c ≠ 40 ∧ c ≠ 91 ∧ c ≠ 124 ∧ c ≠ 93 ∧ c ≠ 41 := by simpa [brs] using h3
          rw [ek, if_neg (by omega)]
          refine ⟨fun k h => ?_, fun r h => by cases h⟩
          cases h
          cases gs with
          | nil => rfl
          | cons g r =>
            simp only [List.map_cons]
            rw [if_neg (by omega), if_neg (by omega), if_neg (by omega)]
            rfl
def scn (ca : Bool) (t : List Nat) : Option Nat := sc ca 0 t [] true none
theorem read_scn (ca : Bool) (t : List Nat) : (∀ k, read ca t = .inl k → scn ca t = some k) ∧ (∀ r, read ca t = .inr r → scn ca t = none) := rd_sc ca t.length 0 t [] [] true (Nat.le_refl _) trivial trivial
/-! ### parts -/
abbrev fst4 : List Nat := [39, 61, 47, 64]
def spl : List Nat → Option Nat → List (List Nat)
  | [], none => []
  | [], some c => [[c]]
  | d :: t, some c => [c, d] :: spl t none
  | c :: t, none => if c ∈ fst4 then spl t (some c) else [c] :: spl t none
theorem spl_flat : ∀ (t : List Nat) (p : Option Nat), (spl t p).flatten = (match p with | none => t | some c => c :: t)
  | [], none => rfl
  | [], some c => rfl
  | d :: t, some c => by rw [spl, List.flatten_cons, spl_flat t none]; rfl
  | c :: t, none => by
    rw [spl]
    split
    · rw [spl_flat t (some c)]
    · rw [List.flatten_cons, spl_flat t none]; rfl
/-- a bracket or a bar -/
def isBr : List Nat → Bool
  | [c] => decide (c ∈ brs)
  | _ => false
def GK : List Grp → List (List Nat)
  | [] => []
  | g :: r => GK r ++ keysL g.o ++ (match g.f with | some f => keysL f | none => [])
/-- a part of a text that is read -/
def tokOk (ca : Bool) (t : List Nat) : Prop := (∃ c, c ∈ plk ∧ t = [c]) ∨ (∃ c, c ∈ brs ∧ t = [c]) ∨ (∃ c d, c ∈ sgk ∧ d ∈ sgn ∧ t = [c, d]) ∨ (ca = true ∧ ∃ d, d ∈ ltr ∧ t = [64, d])
theorem plk_f {c : Nat} (h : c ∈ plk) : c ∉ fst4 ∧ c ∉ brs := (show ∀ c ∈ plk, c ∉ fst4 ∧ c ∉ brs by decide) c h
theorem brs_f {c : Nat} (h : c ∈ brs) : c ∉ fst4 := (show ∀ c ∈ brs, c ∉ fst4 by decide) c h
theorem sgk_f {ca : Bool} {c : Nat} (h : c ∈ sgk ∨ (ca = true ∧ c = 64)) : c ∈ fst4 := by
  rcases h with h | ⟨_, rfl⟩
  · exact (show ∀ c ∈ sgk, c ∈ fst4 by decide) c h
  · decide
theorem rd_keys (ca : Bool) : ∀ (f i : Nat) (t : List Nat) (gs : List Grp) (its r : List It), t.length ≤ f → Gw gs → rd ca f i t gs its = .inr r →
    keysL r = GK gs ++ keysL its ++ (spl t none).filter (fun x => !isBr x) ∧ ∀ x ∈ spl t none, tokOk ca x
  | f, i, [], gs, its, r, _, _, h => by
    have e : rd ca f i [] gs its = if gs.isEmpty then .inr its else .inl i := by cases f <;> rfl
    rw [e] at h
    cases gs with
    | nil =>
      simp at h
      subst h
      exact ⟨by simp [GK, spl], by simp [spl]⟩
    | cons g q => simp at h
  | f + 1, i, c :: t, gs, its, r, hf, hw, h => by
    have hf' : t.length ≤ f := by simpa using hf
    rw [rd] at h
    by_cases h1 : c ∈ plk
    · have ek : kl ca (c :: t) = .inr 1 := by simp only [kl]; rw [if_pos h1]
      rw [ek] at h
      simp only at h
      obtain ⟨k1, k2⟩ := rd_keys ca f (i + 1) (t.drop 0) gs (its ++ [.key (c :: t.take 0)]) r (by simpa using hf') hw h
      obtain ⟨n1, n2⟩ := plk_f h1
      rw [List.drop_zero] at k1 k2
      have es : spl (c :: t) none = [c] :: spl t none := by rw [spl, if_neg n1]
      have eb : isBr [c] = false := by simp [isBr, n2]
      refine ⟨?_, ?_⟩
      · rw [k1, es, keysL_app, List.filter_cons, eb]
        simp [keysL, It.keys]
      · rw [es]
        intro x hx
        rcases List.mem_cons.mp hx with rfl | hx
        · exact .inl ⟨c, h1, rfl⟩
        · exact k2 x hx
    · by_cases h2 : c ∈ sgk ∨ (ca = true ∧ c = 64)
      · cases t with
        | nil =>
          have ek : kl ca [c] = .inl 1 := by simp only [kl]; rw [if_neg h1, if_pos h2]
          rw [ek] at h
          cases h
        | cons d t =>
          by_cases h3 : d ∈ (if c = 64 then ltr else sgn)
          · have ek : kl ca (c :: d :: t) = .inr 2 := by simp only [kl]; rw [if_neg h1, if_pos h2, if_pos h3]
            rw [ek] at h
            simp only at h
            obtain ⟨k1, k2⟩ := rd_keys ca f (i + 2) ((d :: t).drop 1) gs (its ++ [.key (c :: (d :: t).take 1)]) r (by simp at hf' ⊢; omega) hw h
            have e1 : (d :: t).drop 1 = t := rfl
            have e2 : (d :: t).take 1 = [d] := rfl
            rw [e1] at k1 k2
            rw [e2] at k1
            have es : spl (c :: d :: t) none = [c, d] :: spl t none := by rw [spl, if_pos (sgk_f h2), spl]
            refine ⟨?_, ?_⟩
            · rw [k1, es, keysL_app, List.filter_cons]
              simp [keysL, It.keys, isBr]
            · rw [es]
              intro x hx
              rcases List.mem_cons.mp hx with rfl | hx
              · rcases h2 with z | ⟨z1, z2⟩
                · have : c ≠ 64 := fun e => by rw [e] at z; exact absurd z (by decide)
                  rw [if_neg this] at h3
                  exact .inr (.inr (.inl ⟨c, d, z, h3, rfl⟩))
                · subst z2
                  exact .inr (.inr (.inr ⟨z1, d, h3, rfl⟩))
              · exact k2 x hx
          · have ek : kl ca (c :: d :: t) = .inl 1 := by simp only [kl]; rw [if_neg h1, if_pos h2, if_neg h3]
            rw [ek] at h
            cases h
      · by_cases h3 : c ∈ brs
        · have ek : kl ca (c :: t) = .inr 0 := by simp only [kl]; rw [if_neg h1, if_neg h2, if_pos h3]
          rw [ek] at h
          simp only at h
          have es : spl (c :: t) none = [c] :: spl t none := by rw [spl, if_neg (brs_f h3)]
          have eb : isBr [c] = true := by simp [isBr, h3]
          have fin : ∀ {gs2 : List Grp} {i2 : List It}, rd ca f (i + 1) t gs2 i2 = .inr r → Gw gs2 → GK gs2 ++ keysL i2 = GK gs ++ keysL its →
              keysL r = GK gs ++ keysL its ++ (spl (c :: t) none).filter (fun x => !isBr x) ∧ ∀ x ∈ spl (c :: t) none, tokOk ca x := by
            intro gs2 i2 h' hw2 e2
            obtain ⟨k1, k2⟩ := rd_keys ca f (i + 1) t gs2 i2 r hf' hw2 h'
            refine ⟨?_, ?_⟩
            · rw [k1, e2, es, List.filter_cons, eb]
              simp
            · rw [es]
              intro x hx
              rcases List.mem_cons.mp hx with rfl | hx
              · exact .inr (.inl ⟨c, h3, rfl⟩)
              · exact k2 x hx
          unfold brk at h
          by_cases h4 : c = 40 ∨ c = 91
          · rw [if_pos h4] at h
            by_cases h8 : gs.length = 8
            · rw [if_pos h8] at h; cases h
            · rw [if_neg h8] at h
              simp only at h
              exact fin h ⟨by rcases h4 with rfl | rfl; exact .inl ⟨rfl, rfl⟩; exact .inr rfl, hw⟩ (by simp [GK, keysL])
          · rw [if_neg h4] at h
            cases gs with
            | nil => cases h
            | cons g q =>
              obtain ⟨hg, hw'⟩ := hw
              simp only at h
              by_cases a1 : c = 41 ∧ g.c = 40 ∧ its.isEmpty = false
              · rw [if_pos a1] at h
                simp only at h
                have gf : g.f = none := by
                  rcases hg with ⟨_, e⟩ | e
                  · exact e
                  · rw [a1.2.1] at e; cases e
                exact fin h hw' (by rw [keysL_app]; simp [GK, gf, keysL, It.keys])
              · rw [if_neg a1] at h
                by_cases a2 : c = 124 ∧ g.c = 91 ∧ g.f.isNone = true ∧ its.isEmpty = false
                · rw [if_pos a2] at h
                  simp only at h
                  have gf : g.f = none := by simpa using a2.2.2.1
                  exact fin h ⟨.inr a2.2.1, hw'⟩ (by simp [GK, gf, keysL])
                · rw [if_neg a2] at h
                  by_cases a3 : c = 93 ∧ g.c = 91
                  · rw [if_pos a3] at h
                    cases hgf : g.f with
                    | none => rw [hgf] at h; cases h
                    | some fs =>
                      rw [hgf] at h
                      simp only at h
                      exact fin h hw' (by rw [keysL_app]; simp [GK, hgf, keysL, It.keys])
                  · rw [if_neg a3] at h; cases h
        · have ek : kl ca (c :: t) = .inl 0 := by simp only [kl]; rw [if_neg h1, if_neg h2, if_neg h3]
          rw [ek] at h
          cases h
theorem read_keysT {ca : Bool} {t : List Nat} {r : List It} (h : read ca t = .inr r) : keysL r = (spl t none).filter (fun x => !isBr x) ∧ ∀ x ∈ spl t none, tokOk ca x := by
  obtain ⟨k1, k2⟩ := rd_keys ca t.length 0 t [] [] r (Nat.le_refl _) trivial h
  exact ⟨by rw [k1]; simp [GK, keysL], k2⟩
/-! ### calls made plain -/
def pl1 (t : List Nat) : List Nat := if t.length = 2 ∧ t.head? = some 64 ∧ t.getD 1 0 ∈ ltr then [39, 97] else t
def plM (ps : List (List Nat)) : List Nat := (ps.map pl1).flatten
theorem pl1_one (c : Nat) : pl1 [c] = [c] := by unfold pl1; rw [if_neg (by simp)]
theorem pl1_two {c d : Nat} (h : c ≠ 64) : pl1 [c, d] = [c, d] := by unfold pl1; rw [if_neg (by simp [h])]
theorem plM_cons (x : List Nat) (ps : List (List Nat)) : plM (x :: ps) = pl1 x ++ plM ps := rfl
def SameFault (i : Nat) (pl : List Nat) (a b : Option Nat) : Prop := (a = none → b = none) ∧ ∀ k, a = some k → ∃ p, b = some p ∧ i ≤ p ∧ ((pl[p - i]? ≠ some 64 ∧ k = p) ∨ (pl[p - i]? = some 64 ∧ k = p + 1))
theorem SameFault.none {i : Nat} {pl : List Nat} : SameFault i pl none none := ⟨fun _ => rfl, fun k h => by cases h⟩
theorem SameFault.here {i k : Nat} {pl : List Nat} (h : pl[0]? ≠ some 64) (e : k = i) : SameFault i pl (some k) (some i) := by
  refine ⟨fun z => (by cases z), fun k' z => ?_⟩
  cases z
  exact ⟨i, rfl, Nat.le_refl _, .inl ⟨by rw [Nat.sub_self]; exact h, e⟩⟩
theorem SameFault.on {i n : Nat} {x pl : List Nat} {a b : Option Nat} (h : SameFault (i + n) pl a b) (hn : x.length = n) : SameFault i (x ++ pl) a b := by
  refine ⟨h.1, fun k e => ?_⟩
  obtain ⟨p, e1, e2, e3⟩ := h.2 k e
  refine ⟨p, e1, by omega, ?_⟩
  have e4 : (x ++ pl)[p - i]? = pl[p - (i + n)]? := by
    rw [List.getElem?_append_right (by omega), hn, show p - i - n = p - (i + n) by omega]
  rw [e4]
  exact e3
theorem sc_plain : ∀ (k : Nat) (t : List Nat) (i : Nat) (gs : List Nat) (em : Bool), t.length ≤ k → SameFault i (plM (spl t none)) (sc true i t gs em none) (sc false i (plM (spl t none)) gs em none)
  | _, [], i, gs, em, _ => by
    have e : plM (spl [] none) = [] := rfl
    rw [e]
    show SameFault i [] (if gs.isEmpty then none else some i) (if gs.isEmpty then none else some i)
    split
    · exact .none
    · exact .here (by simp) rfl
  | k + 1, c :: t, i, gs, em, hk => by
    have hk' : t.length ≤ k := by simpa using hk
    by_cases h1 : c ∈ plk
    · have es : spl (c :: t) none = [c] :: spl t none := by rw [spl, if_neg (plk_f h1).1]
      rw [es, plM_cons, pl1_one, List.singleton_append, sc_cons, if_pos h1, sc_cons, if_pos h1]
      exact (sc_plain k t (i + 1) gs false hk').on (x := [c]) rfl
    · by_cases h4 : c = 64
      · subst h4
        rw [sc_cons, if_neg h1, if_pos (.inr ⟨rfl, rfl⟩)]
        have bad : ∀ r : List Nat, sc false i (64 :: r) gs em none = some i := by
          intro r
          rw [sc_cons, if_neg h1, if_neg (by decide), if_neg (by decide)]
          cases gs with
          | nil => rfl
          | cons g r =>
            simp only
            rw [if_neg (by omega), if_neg (by omega), if_neg (by omega)]
        cases t with
        | nil =>
          have es : spl [64] none = [[64]] := rfl
          rw [es, plM_cons, pl1_one]
          have e1 : sc true (i + 1) [] gs em (some 64) = some (i + 1) := by cases gs <;> rfl
          rw [e1]
          show SameFault i ([64] ++ plM []) (some (i + 1)) (sc false i (64 :: plM []) gs em none)
          rw [bad]
          exact ⟨fun z => (by cases z), fun k' z => (by cases z; exact ⟨i, rfl, Nat.le_refl _, .inr ⟨by simp, rfl⟩⟩)⟩
        | cons d t =>
          have es : spl (64 :: d :: t) none = [64, d] :: spl t none := rfl
          rw [es, plM_cons, sc_pend, if_pos rfl]
          by_cases hd : d ∈ ltr
          · have ep : pl1 [64, d] = [39, 97] := by simp [pl1, hd]
            rw [if_pos hd, ep]
            have e2 : sc false i ([39, 97] ++ plM (spl t none)) gs em none = sc false (i + 2) (plM (spl t none)) gs false none := by
              show sc false i (39 :: 97 :: plM (spl t none)) gs em none = _
              rw [sc_two _ _ _ _ _ _ _ (.inl (by decide)), if_pos (by decide)]
            rw [e2]
            exact (sc_plain k t (i + 2) gs false (by simp at hk'; omega)).on (x := [39, 97]) rfl
          · have ep : pl1 [64, d] = [64, d] := by simp [pl1, hd]
            rw [if_neg hd, ep]
            show SameFault i ([64, d] ++ plM (spl t none)) (some (i + 1)) (sc false i (64 :: d :: plM (spl t none)) gs em none)
            rw [bad]
            exact ⟨fun z => (by cases z), fun k' z => (by cases z; exact ⟨i, rfl, Nat.le_refl _, .inr ⟨by simp, rfl⟩⟩)⟩
      · by_cases h2 : c ∈ sgk
        · cases t with
          | nil =>
            have es : spl [c] none = [[c]] := by rw [spl, if_pos (sgk_f (ca := true) (.inl h2)), spl]
            rw [es, plM_cons, pl1_one]
            show SameFault i ([c] ++ plM []) (sc true i [c] gs em none) (sc false i [c] gs em none)
            rw [sc_end _ _ _ _ _ (.inl h2), sc_end _ _ _ _ _ (.inl h2)]
            exact ⟨fun z => (by cases z), fun k' z => (by cases z; exact ⟨i + 1, rfl, by omega, .inl ⟨by simp [plM], rfl⟩⟩)⟩
          | cons d t =>
            have es : spl (c :: d :: t) none = [c, d] :: spl t none := by rw [spl, if_pos (sgk_f (ca := true) (.inl h2)), spl]
            rw [es, plM_cons, pl1_two h4, sc_two _ _ _ _ _ _ _ (.inl h2)]
            show SameFault i ([c, d] ++ plM (spl t none)) _ (sc false i (c :: d :: plM (spl t none)) gs em none)
            rw [sc_two _ _ _ _ _ _ _ (.inl h2), if_neg h4]
            by_cases hd : d ∈ sgn
            · rw [if_pos hd, if_pos hd]
              exact (sc_plain k t (i + 2) gs false (by simp at hk'; omega)).on (x := [c, d]) rfl
            · rw [if_neg hd, if_neg hd]
              have d64 : d ≠ 64 := fun e => hd (by rw [e]; decide)
              exact ⟨fun z => (by cases z), fun k' z => (by cases z; exact ⟨i + 1, rfl, by omega, .inl ⟨by simp [d64], rfl⟩⟩)⟩
        · have n4 : c ∉ fst4 := by
            intro z
            have : c = 39 ∨ c = 61 ∨ c = 47 ∨ c = 64 := by simpa [fst4] using z
            have n2 : c ≠ 39 ∧ c ≠ 61 ∧ c ≠ 47 := by simpa [sgk] using h2
            omega
          have es : spl (c :: t) none = [c] :: spl t none := by rw [spl, if_neg n4]
          have nT : ¬ (c ∈ sgk ∨ (true = true ∧ c = 64)) := fun z => z.elim h2 fun z => h4 z.2
          have nF : ¬ (c ∈ sgk ∨ (false = true ∧ c = 64)) := fun z => z.elim h2 fun z => h4 z.2
          rw [es, plM_cons, pl1_one, List.singleton_append, sc_cons true, if_neg h1, if_neg nT, sc_cons false, if_neg h1, if_neg nF]
          have here : SameFault i (c :: plM (spl t none)) (some i) (some i) := .here (by simp [h4]) rfl
          have go : ∀ gs' em', SameFault i (c :: plM (spl t none)) (sc true (i + 1) t gs' em' none) (sc false (i + 1) (plM (spl t none)) gs' em' none) := fun gs' em' => (sc_plain k t (i + 1) gs' em' hk').on (x := [c]) rfl
          by_cases h5 : c = 40 ∨ c = 91
          · rw [if_pos h5, if_pos h5]
            by_cases h8 : gs.length = 8
            · rw [if_pos h8, if_pos h8]; exact here
            · rw [if_neg h8, if_neg h8]; exact go _ _
          · rw [if_neg h5, if_neg h5]
            cases gs with
            | nil => exact here
            | cons g r =>
              simp only
              by_cases a1 : c = 41 ∧ g = 40 ∧ em = false
              · rw [if_pos a1, if_pos a1]; exact go _ _
              · rw [if_neg a1, if_neg a1]
                by_cases a2 : c = 124 ∧ g = 91 ∧ em = false
                · rw [if_pos a2, if_pos a2]; exact go _ _
                · rw [if_neg a2, if_neg a2]
                  by_cases a3 : c = 93 ∧ g = 124
                  · rw [if_pos a3, if_pos a3]; exact go _ _
                  · rw [if_neg a3, if_neg a3]; exact here
theorem scn_plain (t : List Nat) : SameFault 0 (plM (spl t none)) (scn true t) (scn false (plM (spl t none))) := sc_plain t.length t 0 [] true (Nat.le_refl _)
/-! ### a part in the brackets' text -/
theorem occ_none {a : List Nat} {c d : Nat} (h : c ∉ a) : (Builtin.Str.occurrences (S a) (S [c, d]) 0 (S a).length 1).isEmpty = true := by
  rcases StrLaws.occ_head (S a) (S [c, d]) 1 (Nat.le_refl _) with ⟨h0, _⟩ | ⟨i, r, h0, hi, _⟩
  · rw [h0]; rfl
  · exfalso
    rw [TL.at_iff (by simp [TL.tl])] at hi
    have hi' : TL.pre [c, d] (a.drop i) = true := hi
    unfold TL.pre at hi'
    have e : (a.drop i).take 2 = [c, d] := by simpa using hi'
    have : c ∈ (a.drop i).take 2 := by rw [e]; simp
    exact h (List.mem_of_mem_drop (List.mem_of_mem_take this))
def partOk (t : List Nat) : Prop := (∃ c, t = [c]) ∨ ∃ c d, t = [c, d] ∧ c ∈ fst4
def rInB (neg : Bool) : R2 := fun x y H Q => ∃ t : List Nat, x = .str (S t) ∧ y = .str (S [40, 91, 124, 93, 41]) ∧ partOk t ∧ Q (.bl (if neg then !isBr t else isBr t)) H
theorem op_inB {X : Cx} : OpR X (compareOp .In) (rInB false) := by
  intro pins s σ H x y v u Q I rx ry h
  obtain ⟨t, rfl, rfl, hp, q⟩ := h
  rcases hp with ⟨c, rfl⟩ | ⟨c, d, rfl, hc⟩
  · exact op_inS pins s σ H _ _ v u Q I rx ry ⟨c, _, rfl, rfl, q⟩
  · refine op_in_str pins s σ H _ _ v u Q I rx ry ⟨_, _, rfl, rfl, ?_⟩
    rw [occ_none (fun z => brs_f z hc)]
    exact q
theorem op_notInB {X : Cx} : OpR X (compareOp .NotIn) (rInB true) := by
  intro pins s σ H x y v u Q I rx ry h
  obtain ⟨t, rfl, rfl, hp, q⟩ := h
  rcases hp with ⟨c, rfl⟩ | ⟨c, d, rfl, hc⟩
  · exact op_notInS pins s σ H _ _ v u Q I rx ry ⟨c, _, rfl, rfl, q⟩
  · refine op_notin_str pins s σ H _ _ v u Q I rx ry ⟨_, _, rfl, rfl, ?_⟩
    rw [occ_none (fun z => brs_f z hc)]
    exact q
theorem spl_part : ∀ (t : List Nat) (p : Option Nat), (∀ c, p = some c → c ∈ fst4) → ∀ x ∈ spl t p, partOk x
  | [], none, _ => by intro x hx; simp [spl] at hx
  | [], some c, _ => by intro x hx; simp [spl] at hx; exact .inl ⟨c, hx⟩
  | d :: t, some c, h => by
    intro x hx
    rcases List.mem_cons.mp (show x ∈ [c, d] :: spl t none from hx) with rfl | hx
    · exact .inr ⟨c, d, rfl, h c rfl⟩
    · exact spl_part t none (fun _ z => by cases z) x hx
  | c :: t, none, _ => by
    intro x hx
    rw [spl] at hx
    split at hx
    · rename_i hc
      exact spl_part t (some c) (fun e z => by cases z; exact hc) x hx
    · rcases List.mem_cons.mp hx with rfl | hx
      · exact .inl ⟨c, rfl⟩
      · exact spl_part t none (fun _ z => by cases z) x hx
end Kr

set_option Elab.async false
set_option linter.all false
set_option maxRecDepth 100000
set_option maxHeartbeats 2000000
namespace Kr
open PySem PySem.Spec PyProof.Rows L2
open SX (S)
open He (ga ma)
def top (i : Nat) : Stmt := PySem.Challenge.pw_keyreel_k68_calls_are_expanded.main.body.getD i (.Pass ⟨0, 0, 0, 0⟩)
abbrev FnP (K : PySem.W.Frag) (x : Str) (st : Stmt) (f : Addr) (fd : FuncData) : Prop := FunD K x x (defArgs st) (defBody st) (defScope st) [] [] f fd
local macro_rules | `(tactic| bv_omega) => `(tactic| focus (first | assumption | exact upd_same | exact isSu0 | (apply isS; assumption; done) | (apply Box.isB; assumption; done) | (apply Box.isL; assumption; done) | (apply Box.new; bv_omega; bv_omega; done) | (apply Box.k1; assumption; bv_omega; bv_omega; bv_omega; done) | (apply Box.mt; bv_omega; bv_omega; bv_omega; done) | (apply Box.sm; assumption; bv_omega; done) | (refine Ne.symm ?_; assumption) | (apply isSs; assumption; bv_omega; done) | (apply isSu; bv_omega; done) | (apply updNon; bv_omega; bv_omega; done) | (apply updGet; bv_omega; bv_omega; done) | (apply Same.get; assumption; bv_omega; done) | (apply Kp.get1; assumption; bv_omega; bv_omega; done) | (apply Kp.get2; assumption; bv_omega; bv_omega; bv_omega; done) | exact Same.refl _ | (apply Same.nw; bv_omega; bv_omega; done) | (apply Same.mu; bv_omega; bv_omega; done) | (apply Same.tr; assumption; bv_omega; done) | exact Kp.refl | (apply Kp.up1; bv_omega; done) | (apply Kp.nw1; bv_omega; bv_omega; done) | (apply Kp.sm1; assumption; bv_omega; done) | (apply Kp.tr1; assumption; bv_omega; done) | exact Tk.refl | (apply Tk.kpl; assumption; assumption; bv_omega; done) | (apply ItsAt.kp; assumption; bv_omega; done) | (apply ItsAt.one; bv_omega; bv_omega; done) | (apply Tr.kp; assumption; bv_omega; done) | (apply Tk.sm; assumption; bv_omega; done) | (apply Tk.nw; bv_omega; bv_omega; done) | (apply Tk.ls; bv_omega; bv_omega; done) | (apply Tk.k1; assumption; bv_omega; bv_omega; done) | (apply Tk.bx; assumption; assumption; bv_omega; done) | (apply neTL; assumption; assumption; done) | (apply neLT; assumption; assumption; done) | (apply neTI; assumption; assumption; done) | (apply neLI; assumption; assumption; done) | (apply neIT; assumption; assumption; done) | (apply neIL; assumption; assumption; done) | (apply neSN; assumption; bv_omega; done) | (apply neNS; assumption; bv_omega; done)))
local macro_rules | `(tactic| ac_rfl) => `(tactic| focus (first | exact rfl | (with_reducible assumption) | omega | assumption | (apply SqL.of; bv_omega; done) | (apply SqT.of; bv_omega; done) | (apply Or.inl; apply SqL.of; bv_omega; done) | (apply Or.inr; apply SqT.of; bv_omega; done) | exact atIz (by assumption) | exact atIn (by assumption) | exact ClsV.ty _ | exact TyX.base (.str _) | exact TyX.base (.int _) | exact TyX.base (.bl _) | (apply TyX.base; apply TyOf.lst; bv_omega; done) | (apply TyX.base; apply TyOf.tup; bv_omega; done) | (apply tyL; bv_omega; done) | (apply ltSz; (try simp); (try omega); done) | (apply leSz; (try simp); (try omega); done) | (apply Exists.intro; apply SqT.of; bv_omega; done) | (apply Exists.intro; apply SqL.of; bv_omega; done) | (simp only [List.length_append, List.length_cons, List.length_nil, List.length_map, List.length_reverse]; omega; done) | exact fun _ h => h | exact Or.inl rfl | decide | (with_reducible bv_omega) | trivial))
local macro_rules | `(tactic| and_intros) => `(tactic| repeat (first | (apply And.intro; focus (first | done | ac_rfl; done)) | apply @Exists.intro V | apply @Exists.intro Nat | apply @Exists.intro Int | apply @Exists.intro Bool | apply @Exists.intro Value | apply @Exists.intro Str | apply @Exists.intro (List V) | apply @Exists.intro (List Nat) | apply @Exists.intro HO | apply @Exists.intro (List (Str × V)) | apply @Exists.intro (List Int) | apply @Exists.intro (List It) | apply @Exists.intro It | apply @Exists.intro (List Row) | apply @Exists.intro Row | apply @Exists.intro (List (List Nat)) | refine ift rfl ?_ | refine iff' rfl ?_))
structure TX (K : PySem.W.Frag) (mg : Str → Option Value) : Prop where
  b_len : mg "len" = none
  b_int : mg "int" = none
  b_list : mg "list" = none
  b_range : mg "range" = none
  b_max : mg "max" = none
  b_enumerate : mg "enumerate" = none
  b_isinstance : mg "isinstance" = none
  b_str : mg "str" = none
  b_tuple : mg "tuple" = none
  b_repr : mg "repr" = none
  b_bool : mg "bool" = none
  b_min : mg "min" = none
  b_ValueError : mg "ValueError" = none
  g_SIGNS : ∃ t, mg "SIGNS" = some (.str (S sgn) t)
  g_PLAIN_KEYS : ∃ t, mg "PLAIN_KEYS" = some (.str (S [62, 120, 119, 110, 36, 94, 109, 98, 107, 99, 112]) t)
  g_SIGN_KEYS : ∃ t, mg "SIGN_KEYS" = some (.str (S [39, 61, 47]) t)
  g_LETTERS : ∃ t, mg "LETTERS" = some (.str (S ltr) t)
  g_MOST_KEYS : ∃ t, mg "MOST_KEYS" = some (.int 60 t)
  g_MOST_DEPTH : ∃ t, mg "MOST_DEPTH" = some (.int 8 t)
section
variable {P : Program} {w : World} {K : PySem.W.Frag} {mg : Str → Option Value} {base : Heap}
abbrev s_InvalidRecording : Stmt := inClass (top 2) 0
theorem sc_InvalidRecording : FnScope ["self", "place"] ["self", "place"] (defScope s_InvalidRecording) := ⟨rfl, rfl, rfl, by decide +kernel, rfl, by decide +kernel, by decide +kernel⟩
theorem ok_InvalidRecording {C : Addr} (T : OexC K C) (no : PySem.W.findIn K (.ref C) "place" = some none) {f : Addr} {fd : FuncData} (F : FunD K "__init__" "InvalidRecording.__init__" (defArgs s_InvalidRecording) (defBody s_InvalidRecording) (defScope s_InvalidRecording) [] [] f fd) : FnOk P w K mg base (CX P w) 1 f fd ["self", "place"] (spEx1 C "place") := by
  refine F.ok sc_InvalidRecording (fun vs H Q E h => ?_) (fun cdv A outer s H vs Q E hr h => ?_)
  · obtain ⟨a, v, rfl, _⟩ := h
    rfl
  · obtain ⟨a, v, rfl, ha, k⟩ := h
    refine ⟨_, pss_one (ps_ost (pv 0) (pv 1)), ?_⟩
    exact ⟨_, rfl, _, rfl, a, C, rfl, T, no, .inl ⟨ha, fun dx h1 h2 => k dx h1 h2⟩⟩
abbrev s_TooManyKeys : Stmt := inClass (top 3) 0
theorem sc_TooManyKeys : FnScope ["self", "limit"] ["self", "limit"] (defScope s_TooManyKeys) := ⟨rfl, rfl, rfl, by decide +kernel, rfl, by decide +kernel, by decide +kernel⟩
theorem ok_TooManyKeys {C : Addr} (T : OexC K C) (no : PySem.W.findIn K (.ref C) "limit" = some none) {f : Addr} {fd : FuncData} (F : FunD K "__init__" "TooManyKeys.__init__" (defArgs s_TooManyKeys) (defBody s_TooManyKeys) (defScope s_TooManyKeys) [] [] f fd) : FnOk P w K mg base (CX P w) 1 f fd ["self", "limit"] (spEx1 C "limit") := by
  refine F.ok sc_TooManyKeys (fun vs H Q E h => ?_) (fun cdv A outer s H vs Q E hr h => ?_)
  · obtain ⟨a, v, rfl, _⟩ := h
    rfl
  · obtain ⟨a, v, rfl, ha, k⟩ := h
    refine ⟨_, pss_one (ps_ost (pv 0) (pv 1)), ?_⟩
    exact ⟨_, rfl, _, rfl, a, C, rfl, T, no, .inl ⟨ha, fun dx h1 h2 => k dx h1 h2⟩⟩
abbrev s_UnknownName : Stmt := inClass (top 5) 0
theorem sc_UnknownName : FnScope ["self", "name"] ["self", "name"] (defScope s_UnknownName) := ⟨rfl, rfl, rfl, by decide +kernel, rfl, by decide +kernel, by decide +kernel⟩
theorem ok_UnknownName {C : Addr} (T : OexC K C) (no : PySem.W.findIn K (.ref C) "name" = some none) {f : Addr} {fd : FuncData} (F : FunD K "__init__" "UnknownName.__init__" (defArgs s_UnknownName) (defBody s_UnknownName) (defScope s_UnknownName) [] [] f fd) : FnOk P w K mg base (CX P w) 1 f fd ["self", "name"] (spEx1 C "name") := by
  refine F.ok sc_UnknownName (fun vs H Q E h => ?_) (fun cdv A outer s H vs Q E hr h => ?_)
  · obtain ⟨a, v, rfl, _⟩ := h
    rfl
  · obtain ⟨a, v, rfl, ha, k⟩ := h
    refine ⟨_, pss_one (ps_ost (pv 0) (pv 1)), ?_⟩
    exact ⟨_, rfl, _, rfl, a, C, rfl, T, no, .inl ⟨ha, fun dx h1 h2 => k dx h1 h2⟩⟩
/-! ### keyreel.signs -/
def spIsWord : Sp := fun vs H Q _ => ∃ c : Nat, vs = [.str (S [c])] ∧ Q (.bl (decide (c ∈ wsg))) H
/-- the first place that is no sign -/
def badAt (a : List Nat) : Option Nat := a.findIdx? fun c => !decide (c ∈ sgn)
/-- X(place = i) leaves, X at C -/
def Rz (C : Addr) (f : Str) (v : V) (H : Hp) (E : XK) : Prop := ∀ H' d, Same H H' → H' d = none → E (.ref C) (some d) (upd H' d (.xd [(f, v)]))
def spCheckText (K : PySem.W.Frag) : Sp := fun vs H Q E => ∃ a : List Nat, vs = [.str (S a)] ∧ (badAt a = none → ∀ H', Same H H' → Q .non H') ∧ (∀ i, badAt a = some i → Rz (ga K "InvalidText") "place" (.int (i : Nat)) H E)
theorem Same.new {H H' : Hp} {p : Addr} {o : HO} (a : Same H H') (h : H' p = none) : Same H (upd H' p o) := fun x u q => by
  have q' := a x u q
  rw [upd_ne (ne_of_none q' h)]; exact q'
def spCheckPlace (K : PySem.W.Frag) : Sp := fun vs H Q E => ∃ (a : List Nat) (i : Int), vs = [.str (S a), .int i] ∧ a.length ≤ 100000 ∧ (0 ≤ i ∧ i ≤ a.length → Q .non H) ∧ (¬ (0 ≤ i ∧ i ≤ a.length) → Rz (ga K "InvalidPlace") "place" (.int i) H E)
/-! ### keyreel.notation -/
def spKL (K : PySem.W.Frag) : Sp := fun vs H Q E => ∃ (n : List Nat) (i : Nat) (ca : Bool), vs = [.str (S n), .int (i : Nat), .bl ca] ∧ n.length ≤ 50000 ∧ i < n.length ∧ (∀ k, kl ca (n.drop i) = .inr k → Q (.int (k : Nat)) H) ∧ (∀ k, kl ca (n.drop i) = .inl k → Rz (ga K "InvalidRecording") "place" (.int ((i + k : Nat))) H E)
abbrev s_key_length : Stmt := top 15
theorem sc_key_length : FnScope ["notation", "at", "calls", "sign", "allowed"] ["notation", "at", "calls"] (defScope s_key_length) := ⟨rfl, rfl, rfl, by decide +kernel, rfl, by decide +kernel, by decide +kernel⟩
theorem ok_key_length (T : TX K mg) (x_InvalidRecording : Ex1 P w K mg base "InvalidRecording" "place" (ga K "InvalidRecording")) {f : Addr} {fd : FuncData} (F : FunD K "key_length" "key_length" (defArgs s_key_length) (defBody s_key_length) (defScope s_key_length) [] [] f fd) : FnOk P w K mg base (CX P w) 3 f fd ["notation", "at", "calls"] (spKL K) := by
  refine F.ok sc_key_length (fun vs H Q E h => ?_) (fun cdv A outer s H vs Q E hr h => ?_)
  · obtain ⟨n, i, ca, rfl, _⟩ := h
    rfl
  · obtain ⟨n, i, ca, rfl, hn, hi, kq, ke⟩ := h
    refine ⟨_, (pss_cons (ps_set (i := 3) sc_key_length.nd rfl (Or.inl rfl) (pe_ix ix_S (pv 0) (pv 1) (fun _ _ => rfl))) (pss_cons (ps_if (pt_cmpR op_inS (pv 3) (pe_gS T.g_PLAIN_KEYS rfl) rfl) (pss_one (ps_ret pe_int)) pss_nil) (pss_cons (ps_if (pt_cut (PW.pt (pw_or (pt_cmpR op_inS (pv 3) (pe_gS T.g_SIGN_KEYS rfl) rfl) (pw_or1 (PW.pt (pw_and (pt_val (pv 2)) (pw_and1 (pt_cmpR op_eqS (pv 3) (pe_strS [64] (by decide +kernel)) (nomark _))))))))) (pss_cons (ps_if (pt_cmpR op_eq (pe_op op_add (pv 1) pe_int) (pe_callB call_lenS (by rfl) T.b_len PySem.boot_len (pa_cons (pv 0) pa_nil)) (nomark _)) (pss_one (ps_raise1 rfl (takes_of rfl rfl rfl rfl) x_InvalidRecording hr (by decide) rfl (pe_op op_add (pv 1) pe_int))) pss_nil) (C8.pss_cut (ps_set (i := 4) sc_key_length.nd rfl (Or.inl rfl) (pe_ifExp (pt_cmpR op_eqS (pv 3) (pe_strS [64] (by decide +kernel)) (nomark _)) (pe_gS T.g_LETTERS rfl) (pe_gS T.g_SIGNS rfl))) (pss_cons (ps_if (pt_cmpR op_notInS (pe_ix ix_S (pv 0) (pe_op op_add (pv 1) pe_int) (fun _ _ => rfl)) (pv 4) rfl) (pss_one (ps_raise1 rfl (takes_of rfl rfl rfl rfl) x_InvalidRecording hr (by decide) rfl (pe_op op_add (pv 1) pe_int))) pss_nil) (pss_one (ps_ret pe_int))))) pss_nil) (pss_cons (ps_if (pt_cmpR op_inS (pv 3) (pe_strS [40, 91, 124, 93, 41] (by decide +kernel)) rfl) (pss_one (ps_ret pe_int)) pss_nil) (pss_one (ps_raise1 rfl (takes_of rfl rfl rfl rfl) x_InvalidRecording hr (by decide) rfl (pv 1))))))), ?_⟩
    have ed : n.drop i = n[i] :: n.drop (i + 1) := List.drop_eq_getElem_cons hi
    rw [ed] at kq ke
    have eg : n[((i : Nat) : Int).toNat]? = some n[i] := List.getElem?_eq_getElem hi
    generalize ec : n[i] = c at kq ke eg
    refine ⟨_, rfl, _, rfl, _, _, c, rfl, rfl, by omega, by omega, eg, ?_⟩
    refine ⟨_, rfl, _, _, rfl, rfl, _, rfl, ?_⟩
    refine if2 (fun h1 => ?_) (fun h1 => ?_)
    · have h1' : c ∈ plk := of_decide_eq_true h1
      exact kq 1 (by simp only [kl, if_pos h1'])
    have h1' : c ∉ plk := of_decide_eq_false h1
    refine ⟨Ans H (c ∈ sgk ∨ (ca = true ∧ c = 64)), ?_, if3 (fun hc => ?_) (fun hc => ?_)⟩
    · refine ⟨_, rfl, _, _, rfl, rfl, _, rfl, ?_⟩
      refine if2 (fun h2 => ?_) (fun h2 => ?_)
      · exact ansT (.inl (of_decide_eq_true h2))
      have h2' : c ∉ sgk := of_decide_eq_false h2
      refine ⟨_, rfl, _, rfl, ?_⟩
      refine if2 (fun h3 => ?_) (fun h3 => ?_)
      · refine ⟨_, rfl, _, _, rfl, rfl, _, rfl, ?_⟩
        refine ⟨rfl, ?_⟩
        show decide ([c] = [64]) = true ↔ _
        simp [h2', h3]
      · exact ansF (fun z => by rcases z with z | z; exact h2' z; rw [z.1] at h3; cases h3)
    · refine ⟨_, rfl, _, _, rfl, rfl, _, rfl, _, rfl, by omega, rfl, _, rfl, ?_⟩
      rw [dI]
      refine if2 (fun h2 => ?_) (fun h2 => ?_)
      · have h2' : (i : Int) + 1 = (n.length : Nat) := of_decide_eq_true h2
        have e2 : n.drop (i + 1) = [] := by rw [List.drop_eq_nil_iff]; omega
        refine ⟨_, rfl, _, _, rfl, rfl, mk1_end fun d hd => ?_⟩
        exact ke 1 (by rw [e2]; simp only [kl, if_neg h1', if_pos hc]) _ d (Same.refl H) hd
      · have h2' : ¬ (i : Int) + 1 = (n.length : Nat) := of_decide_eq_false h2
        have hi2 : i + 1 < n.length := by omega
        have ed2 : n.drop (i + 1) = n[i + 1] :: n.drop (i + 1 + 1) := List.drop_eq_getElem_cons hi2
        have eg2 : n[((i : Nat) + 1 : Int).toNat]? = some n[i + 1] := List.getElem?_eq_getElem hi2
        generalize n[i + 1] = d at ed2 eg2
        have ek : kl ca (c :: n.drop (i + 1)) = if d ∈ (if c = 64 then ltr else sgn) then .inr 2 else .inl 1 := by
          rw [ed2]; simp only [kl, if_neg h1', if_pos hc]
        refine ⟨fun σ' H' => σ' = [some (.str (S n)), some (.int (i : Nat)), some (.bl ca), some (.str (S [c])), some (.str (S (if c = 64 then ltr else sgn)))] ∧ H' = H, ?_, ?_⟩
        · refine ⟨_, rfl, _, _, rfl, rfl, _, rfl, ?_⟩
          refine if2 (fun h3 => ?_) (fun h3 => ?_)
          · have h3' : [c] = [64] := of_decide_eq_true h3
            have h4 : c = 64 := by simpa using h3'
            exact ⟨by rw [if_pos h4]; rfl, rfl⟩
          · have h3' : ¬ [c] = [64] := of_decide_eq_false h3
            have h4 : ¬ c = 64 := fun z => h3' (by rw [z])
            exact ⟨by rw [if_neg h4]; rfl, rfl⟩
        · rintro σ' H' ⟨rfl, rfl⟩
          refine ⟨_, rfl, _, rfl, _, _, rfl, rfl, _, _, d, rfl, rfl, by omega, by omega, eg2, _, rfl, _, _, rfl, rfl, _, rfl, ?_⟩
          refine if2 (fun h3 => ?_) (fun h3 => ?_)
          · have h3' : d ∉ (if c = 64 then ltr else sgn) := by simpa using h3
            refine ⟨_, rfl, _, _, rfl, rfl, mk1_end fun dd hd => ?_⟩
            exact ke 1 (by rw [ek, if_neg h3']) _ dd (Same.refl H') hd
          · have h3' : d ∈ (if c = 64 then ltr else sgn) := by simpa using h3
            exact kq 2 (by rw [ek, if_pos h3'])
    · have e3 : kl ca (c :: List.drop (i + 1) n) = (if c ∈ brs then .inr 0 else .inl 0) := by
        simp only [kl, if_neg h1']
        rw [if_neg hc]
      refine ⟨_, rfl, _, _, rfl, rfl, _, rfl, ?_⟩
      refine if2 (fun h5 => ?_) (fun h5 => ?_)
      · have h5' : c ∈ brs := of_decide_eq_true h5
        exact kq 0 (by rw [e3, if_pos h5'])
      · have h5' : c ∉ brs := of_decide_eq_false h5
        refine ⟨_, rfl, mk1_end fun d hd => ?_⟩
        exact ke 0 (by rw [e3, if_neg h5']) _ d (Same.refl H) hd
/-- read_bracket -/
def spRB (K : PySem.W.Frag) : Sp := fun vs H Q E => ∃ (c j : Nat) (i : Int) (p q : Addr) (gs : List Grp) (its : List It), vs = [.str (S [c]), .int i, .ref p, .ref q] ∧ c ∈ brs ∧ GrsAt H p gs ∧ ItsAt H q its ∧ RdOk j gs its ∧ j ≤ 50000 ∧ gs.length ≤ 8 ∧
  (∀ g2 i2, brk c gs its = some (g2, i2) → ∀ H' t p2 q2, Same H H' → H' t = some (.tup [.ref p2, .ref q2]) → GrsAt H' p2 g2 → ItsAt H' q2 i2 → Q (.ref t) H') ∧ (brk c gs its = none → Rz (ga K "InvalidRecording") "place" (.int i) H E)
abbrev s_read_bracket : Stmt := top 16
theorem sc_read_bracket : FnScope ["sign", "at", "groups", "items", "bracket", "outer", "first"] ["sign", "at", "groups", "items"] (defScope s_read_bracket) := ⟨rfl, rfl, rfl, by decide +kernel, rfl, by decide +kernel, by decide +kernel⟩
theorem ok_read_bracket (T : TX K mg) (x_InvalidRecording : Ex1 P w K mg base "InvalidRecording" "place" (ga K "InvalidRecording")) {f : Addr} {fd : FuncData} (F : FunD K "read_bracket" "read_bracket" (defArgs s_read_bracket) (defBody s_read_bracket) (defScope s_read_bracket) [] [] f fd) : FnOk P w K mg base (CX P w) 3 f fd ["sign", "at", "groups", "items"] (spRB K) := by
  refine F.ok sc_read_bracket (fun vs H Q E h => ?_) (fun cdv A outer s H vs Q E hr h => ?_)
  · obtain ⟨c, j, i, p, q, gs, its, rfl, _⟩ := h
    rfl
  · obtain ⟨c, j, i, p, q, gs, its, rfl, hc, ⟨xs, hp, hg⟩, ⟨ys, hq, hT⟩, o, hj, h8, kq, ke⟩ := h
    refine ⟨_, (pss_cons (ps_if (pt_cmpR op_inS (pv 0) (pe_strS [40, 91] (by decide +kernel)) rfl) (pss_cons (ps_if (pt_cmpR op_eq (pe_callB call_len_seq (by rfl) T.b_len PySem.boot_len (pa_cons (pv 2) pa_nil)) (pe_gI T.g_MOST_DEPTH rfl) (nomark _)) (pss_one (ps_raise1 rfl (takes_of rfl rfl rfl rfl) x_InvalidRecording hr (by decide) rfl (pv 1))) pss_nil) (pss_one (ps_ret (pe_tup (pa_cons (pe_op op_catW (pv 2) (pe_tup (pa_cons (pe_tup (pa_cons (pv 0) (pa_cons (pv 3) (pa_cons pe_non pa_nil)))) pa_nil))) (pa_cons (pe_tup pa_nil) pa_nil)))))) pss_nil) (pss_cons (ps_if (pt_not (pt_truth (pv 2) (by intro _; rfl))) (pss_one (ps_raise1 rfl (takes_of rfl rfl rfl rfl) x_InvalidRecording hr (by decide) rfl (pv 1))) pss_nil) (pss_cons (ps_asg (pe_ix ix_tup (pv 2) (pe_un un_neg pe_int) (fun _ _ => rfl)) (pg_tup rfl (pgs_cons (pg_name (i := 4) sc_read_bracket.nd rfl (Or.inl rfl)) (pgs_cons (pg_name (i := 5) sc_read_bracket.nd rfl (Or.inl rfl)) (pgs_cons (pg_name (i := 6) sc_read_bracket.nd rfl (Or.inl rfl)) pgs_nil))))) (pss_cons (ps_if (pt_cut (PW.pt (pw_and (pt_cmpR op_eqS (pv 0) (pe_strS [41] (by decide +kernel)) (nomark _)) (pw_and (pt_cmpR op_eqS (pv 4) (pe_strS [40] (by decide +kernel)) (nomark _)) (pw_and1 (pt_cmpR (op_neD hr.units) (pv 3) (pe_tup pa_nil) (nomark _))))))) (pss_one (ps_ret (pe_tup (pa_cons (pe_slice sl_tupW (pv 2) po_none (po_some (pe_un un_neg pe_int))) (pa_cons (pe_op op_catW (pv 5) (pe_tup (pa_cons (pe_tup (pa_cons (pe_strS [40] (by decide +kernel)) (pa_cons (pv 3) pa_nil))) pa_nil))) pa_nil))))) pss_nil) (pss_cons (ps_if (pt_cut (PW.pt (pw_and (pt_cmpR op_eqS (pv 0) (pe_strS [124] (by decide +kernel)) (nomark _)) (pw_and (pt_cmpR op_eqS (pv 4) (pe_strS [91] (by decide +kernel)) (nomark _)) (pw_and (pt_cmpR op_isN (pv 6) pe_non (nomark _)) (pw_and1 (pt_cmpR (op_neD hr.units) (pv 3) (pe_tup pa_nil) (nomark _)))))))) (pss_one (ps_ret (pe_tup (pa_cons (pe_op op_catW (pe_slice sl_tupW (pv 2) po_none (po_some (pe_un un_neg pe_int))) (pe_tup (pa_cons (pe_tup (pa_cons (pv 4) (pa_cons (pv 5) (pa_cons (pv 3) pa_nil)))) pa_nil))) (pa_cons (pe_tup pa_nil) pa_nil))))) pss_nil) (pss_cons (ps_if (pt_cut (PW.pt (pw_and (pt_cmpR op_eqS (pv 0) (pe_strS [93] (by decide +kernel)) (nomark _)) (pw_and (pt_cmpR op_eqS (pv 4) (pe_strS [91] (by decide +kernel)) (nomark _)) (pw_and1 (pt_cmpR op_notN (pv 6) pe_non (nomark _))))))) (pss_one (ps_ret (pe_tup (pa_cons (pe_slice sl_tupW (pv 2) po_none (po_some (pe_un un_neg pe_int))) (pa_cons (pe_op op_catW (pv 5) (pe_tup (pa_cons (pe_tup (pa_cons (pe_strS [91] (by decide +kernel)) (pa_cons (pv 6) (pa_cons (pv 3) pa_nil)))) pa_nil))) pa_nil))))) pss_nil) (pss_one (ps_raise1 rfl (takes_of rfl rfl rfl rfl) x_InvalidRecording hr (by decide) rfl (pv 1))))))))), ?_⟩
    have hxl := hg.len
    refine ⟨_, rfl, _, _, rfl, rfl, _, rfl, ?_⟩
    refine if2 (fun h1 => ?_) (fun h1 => ?_)
    · have h1' : c ∈ [40, 91] := of_decide_eq_true h1
      have h1c : c = 40 ∨ c = 91 := by simpa using h1'
      refine ⟨_, rfl, p, xs, rfl, .inr (SqT.of hp), rfl, _, rfl, ?_⟩
      rw [dI]
      refine if2 (fun h2 => ?_) (fun h2 => ?_)
      · have h2' : (xs.length : Int) = 8 := of_decide_eq_true h2
        have h3 : gs.length = 8 := by omega
        refine ⟨_, rfl, mk1_end fun d hd => ?_⟩
        exact ke (by unfold brk; rw [if_pos h1c, if_pos h3]) _ d (Same.refl H) hd
      · have h2' : ¬ (xs.length : Int) = 8 := of_decide_eq_false h2
        have h3 : ¬ gs.length = 8 := by omega
        have eb : brk c gs its = some (⟨c, its, none⟩ :: gs, []) := by unfold brk; rw [if_pos h1c, if_neg h3]
        refine ⟨_, rfl, _, rfl, _, rfl, (show 3 ≤ sizeLine by decide), fun t1 ht1 => ⟨(show 1 ≤ sizeLine by decide), fun t2 ht2 => ?_⟩⟩
        have s1 : Same H (upd H t1 (.tup [.str (S [c]), .ref q, .non])) := sNew (Same.refl H) ht1
        have s2 := sNew (o := .tup [.ref t1]) (Same.refl _) ht2
        refine ⟨p, t2, xs, _, rfl, rfl, s2 _ _ (s1 _ _ hp), upd_same, by simp; omega, fun H3 p2 s3 hp2 => ⟨(show 0 ≤ sizeLine by decide), fun q2 hq2 => ⟨(show 2 ≤ sizeLine by decide), fun t ht => ?_⟩⟩⟩
        have s4 := sNew (o := .tup []) (Same.refl _) hq2
        have s5 := sNew (o := .tup [.ref p2, .ref q2]) (Same.refl _) ht
        have sA := (s1.trans s2).trans (s3.trans (s4.trans s5))
        have sB := s2.trans (s3.trans (s4.trans s5))
        refine kq _ _ eb _ t p2 q2 sA upd_same ⟨_, s5 _ _ (s4 _ _ hp2), xs, .ref t1, rfl, ⟨t1, q, .non, rfl, sB _ _ upd_same, ⟨ys, sA _ _ hq, hT.keep (Tk.same sA)⟩, rfl⟩, hg.keep (Tk.same sA)⟩ (ItsAt.nil (s5 _ _ upd_same))
    · have h1' : c ∉ [40, 91] := of_decide_eq_false h1
      have h1c : ¬ (c = 40 ∨ c = 91) := by simpa using h1'
      refine ⟨_, rfl, _, .inr (.inl ⟨xs, SqT.of hp, rfl⟩), ?_⟩
      have eN : brk c gs its = none → ∀ H1, Same H H1 → ∀ d, H1 d = none → E (.ref (ga K "InvalidRecording")) (some d) (upd H1 d (.xd [("place", .int i)])) := fun h H1 s1 d hd => ke h H1 d s1 hd
      cases gs with
      | nil =>
        have e : xs = [] := hg
        subst e
        refine ift rfl ⟨_, rfl, mk1_end fun d hd => eN (by unfold brk; rw [if_neg h1c]) _ (Same.refl H) d hd⟩
      | cons g r =>
        obtain ⟨zs, v, rfl, ⟨gp, go, fv, rfl, hgp, hgo, hgf⟩, hgr⟩ := hg
        have hne : (!(zs ++ [V.ref gp]).isEmpty) = true := by simp
        rw [hne]
        refine iff' rfl ?_
        refine ⟨_, rfl, 1, rfl, p, _, -1, _, rfl, rfl, SqT.of hp, atI_last _ _, gp, _, rfl, SqT.of hgp, rfl, ?_⟩
        refine ⟨_, _, rfl, _, _, rfl, _, _, rfl, rfl, ?_⟩
        have hD : ∀ H1, Same H H1 → Dp K H1 (.ref q) (.tuple (dataL its)) := fun H1 s1 => .tup (SqT.of (s1 _ _ hq)) ((hT.keep (Tk.same s1)).dp its)
        have hS : SeqAt.shaped (.tuple (dataL its)) = true := sh_its o.o (by have := o.d; omega)
        have hE : ∀ H1, Same H H1 → tTest (tOp (rNeD K) (tVar 3) (tTup tNil)) [some (.str (S [c])), some (.int i), some (.ref p), some (.ref q), some (.str (S [g.c])), some (.ref go), some fv] H1 (AnsS H1 (its.isEmpty = false)) := fun H1 s1 => by
          refine ⟨_, rfl, (show 0 ≤ sizeLine by decide), fun t0 ht0 => ⟨_, _, hD _ (sNew s1 ht0), .tup (SqT.of upd_same) .nil, hS, rfl, _, rfl, ?_⟩⟩
          refine ⟨sNew (Same.refl _) ht0, ?_⟩
          rw [eqv_nil]; simp
        refine ⟨AnsS H (c = 41 ∧ g.c = 40 ∧ its.isEmpty = false), ?_, if3S (fun H1 s1 hc => ?_) (fun H1 s1 hc1 => ?_)⟩
        · refine ⟨_, rfl, _, _, rfl, rfl, _, rfl, if2 (fun a1 => ?_) (fun a1 => ?_)⟩
          · have a1' : c = 41 := by simpa using a1
            refine ⟨_, rfl, _, _, rfl, rfl, _, rfl, if2 (fun a2 => ?_) (fun a2 => ?_)⟩
            · have a2' : g.c = 40 := by simpa using a2
              have := hE H (Same.refl H)
              simp only [a1', a2', true_and]
              rw [a1', a2'] at this
              exact this
            · have a2' : ¬ g.c = 40 := by simpa using a2
              exact ansSF (Same.refl H) fun z => a2' z.2.1
          · have a1' : ¬ c = 41 := by simpa using a1
            exact ansSF (Same.refl H) fun z => a1' z.1
        · have eb : brk c (g :: r) its = some (r, g.o ++ [.rep its]) := by unfold brk; rw [if_neg h1c]; simp only [if_pos hc]
          obtain ⟨ws, hws, hwt⟩ := hgo
          have hwl := hwt.len
          have hz := o.z
          simp only [Gz] at hz
          have hz2 := len_szL g.o
          refine ⟨_, rfl, 1, rfl, -1, rfl, p, _, rfl, s1 _ _ hp, fun H2 p2 s2 hp2 => ?_⟩
          rw [cutV_init] at hp2
          refine ⟨_, rfl, _, rfl, (show 2 ≤ sizeLine by decide), fun t1 ht1 => ⟨(show 1 ≤ sizeLine by decide), fun t2 ht2 => ?_⟩⟩
          have s3 := sNew (o := .tup [.str (S [40]), .ref q]) (Same.refl _) ht1
          have s4 := sNew (o := .tup [.ref t1]) (Same.refl _) ht2
          have sB := (s1.trans s2).trans (s3.trans s4)
          refine ⟨go, t2, ws, _, rfl, rfl, sB _ _ hws, upd_same, by simp; omega, fun H3 q2 s5 hq2 => ⟨(show 2 ≤ sizeLine by decide), fun t ht => ?_⟩⟩
          have s6 := sNew (o := .tup [.ref p2, .ref q2]) (Same.refl _) ht
          have sC := s5.trans s6
          have sA := sB.trans sC
          refine kq _ _ eb _ t p2 q2 sA upd_same ⟨_, sC _ _ (s4 _ _ (s3 _ _ hp2)), hgr.keep (Tk.same sA)⟩ ⟨_, s6 _ _ hq2, Trs.app (hwt.keep (Tk.same sA)) (Trs.one ⟨t1, q, ys, rfl, sC _ _ (s4 _ _ upd_same), sA _ _ hq, hT.keep (Tk.same sA)⟩)⟩
        · refine ⟨AnsS H1 (c = 124 ∧ g.c = 91 ∧ g.f.isNone = true ∧ its.isEmpty = false), ?_, if3S (fun H2 s2 hc => ?_) (fun H2 s2 hc2 => ?_)⟩
          · refine ⟨_, rfl, _, _, rfl, rfl, _, rfl, if2 (fun a1 => ?_) (fun a1 => ?_)⟩
            · have a1' : c = 124 := by simpa using a1
              refine ⟨_, rfl, _, _, rfl, rfl, _, rfl, if2 (fun a2 => ?_) (fun a2 => ?_)⟩
              · have a2' : g.c = 91 := by simpa using a2
                have eF : decide (fv = V.non) = g.f.isNone := by
                  split at hgf
                  · rename_i e; rw [e, hgf]; rfl
                  · rename_i e; obtain ⟨r, e2, _⟩ := hgf; rw [e, e2]; rfl
                refine ⟨_, rfl, rfl, _, rfl, if2 (fun a3 => ?_) (fun a3 => ?_)⟩
                · rw [eF] at a3
                  have := hE H1 s1
                  simp only [a1', a2', a3, true_and]
                  rw [a1', a2'] at this
                  exact this
                · rw [eF] at a3
                  exact ansSF (Same.refl _) fun z => (by rw [z.2.2.1] at a3; cases a3)
              · have a2' : ¬ g.c = 91 := by simpa using a2
                exact ansSF (Same.refl _) fun z => a2' z.2.1
            · have a1' : ¬ c = 124 := by simpa using a1
              exact ansSF (Same.refl _) fun z => a1' z.1
          · have eb : brk c (g :: r) its = some (⟨g.c, g.o, some its⟩ :: r, []) := by unfold brk; rw [if_neg h1c]; simp only [if_neg hc1, if_pos hc]
            have hzl := hgr.len
            have s12 := s1.trans s2
            refine ⟨_, rfl, 1, rfl, -1, rfl, p, _, rfl, s12 _ _ hp, fun H3 p2 s3 hp2 => ?_⟩
            rw [cutV_init] at hp2
            refine ⟨_, rfl, _, rfl, _, rfl, (show 3 ≤ sizeLine by decide), fun t1 ht1 => ⟨(show 1 ≤ sizeLine by decide), fun t2 ht2 => ?_⟩⟩
            have s4 := sNew (o := .tup [.str (S [g.c]), .ref go, .ref q]) (Same.refl _) ht1
            have s5 := sNew (o := .tup [.ref t1]) (Same.refl _) ht2
            refine ⟨p2, t2, zs, _, rfl, rfl, s5 _ _ (s4 _ _ hp2), upd_same, by simp at h8 ⊢; omega, fun H4 p3 s6 hp3 => ⟨(show 0 ≤ sizeLine by decide), fun q2 hq2 => ⟨(show 2 ≤ sizeLine by decide), fun t ht => ?_⟩⟩⟩
            have s7 := sNew (o := .tup []) (Same.refl _) hq2
            have s8 := sNew (o := .tup [.ref p3, .ref q2]) (Same.refl _) ht
            have sC := s6.trans (s7.trans s8)
            have sA := s12.trans (s3.trans (s4.trans (s5.trans sC)))
            refine kq _ _ eb _ t p3 q2 sA upd_same ⟨_, s8 _ _ (s7 _ _ hp3), zs, .ref t1, rfl, ⟨t1, go, .ref q, rfl, sC _ _ (s5 _ _ upd_same), hgo.keep (Tk.same sA), ⟨q, rfl, ys, sA _ _ hq, hT.keep (Tk.same sA)⟩⟩, hgr.keep (Tk.same sA)⟩ (ItsAt.nil (s8 _ _ upd_same))
          · have s12 := s1.trans s2
            refine ⟨AnsS H2 (c = 93 ∧ g.c = 91 ∧ g.f.isNone = false), ?_, if3S (fun H3 s3 hc => ?_) (fun H3 s3 hc3 => ?_)⟩
            · refine ⟨_, rfl, _, _, rfl, rfl, _, rfl, if2 (fun a1 => ?_) (fun a1 => ?_)⟩
              · have a1' : c = 93 := by simpa using a1
                refine ⟨_, rfl, _, _, rfl, rfl, _, rfl, if2 (fun a2 => ?_) (fun a2 => ?_)⟩
                · have a2' : g.c = 91 := by simpa using a2
                  have eF : decide (fv = V.non) = g.f.isNone := by
                    split at hgf
                    · rename_i e; rw [e, hgf]; rfl
                    · rename_i e; obtain ⟨r, e2, _⟩ := hgf; rw [e, e2]; rfl
                  refine ⟨_, rfl, rfl, _, rfl, Same.refl _, ?_⟩
                  rw [eF]; simp [a1', a2']
                · have a2' : ¬ g.c = 91 := by simpa using a2
                  exact ansSF (Same.refl _) fun z => a2' z.2.1
              · have a1' : ¬ c = 93 := by simpa using a1
                exact ansSF (Same.refl _) fun z => a1' z.1
            · split at hgf
              · rename_i e; have := hc.2.2; rw [e] at this; cases this
              · rename_i f' ef
                obtain ⟨fr, rfl, fs, hfs, hft⟩ := hgf
                have eb : brk c (g :: r) its = some (r, g.o ++ [.cho f' its]) := by
                  unfold brk; rw [if_neg h1c]; simp only [if_neg hc1, if_neg hc2, if_pos (show c = 93 ∧ g.c = 91 from ⟨hc.1, hc.2.1⟩)]; rw [ef]
                obtain ⟨ws, hws, hwt⟩ := hgo
                have hwl := hwt.len
                have hz := o.z
                simp only [Gz] at hz
                have hz2 := len_szL g.o
                have s13 := s12.trans s3
                refine ⟨_, rfl, 1, rfl, -1, rfl, p, _, rfl, s13 _ _ hp, fun H4 p2 s4 hp2 => ?_⟩
                rw [cutV_init] at hp2
                refine ⟨_, rfl, _, rfl, _, rfl, (show 3 ≤ sizeLine by decide), fun t1 ht1 => ⟨(show 1 ≤ sizeLine by decide), fun t2 ht2 => ?_⟩⟩
                have s5 := sNew (o := .tup [.str (S [91]), .ref fr, .ref q]) (Same.refl _) ht1
                have s6 := sNew (o := .tup [.ref t1]) (Same.refl _) ht2
                have sB := (s13.trans s4).trans (s5.trans s6)
                refine ⟨go, t2, ws, _, rfl, rfl, sB _ _ hws, upd_same, by simp; omega, fun H5 q2 s7 hq2 => ⟨(show 2 ≤ sizeLine by decide), fun t ht => ?_⟩⟩
                have s8 := sNew (o := .tup [.ref p2, .ref q2]) (Same.refl _) ht
                have sC := s7.trans s8
                have sA := sB.trans sC
                refine kq _ _ eb _ t p2 q2 sA upd_same ⟨_, sC _ _ (s6 _ _ (s5 _ _ hp2)), hgr.keep (Tk.same sA)⟩ ⟨_, s8 _ _ hq2, Trs.app (hwt.keep (Tk.same sA)) (Trs.one ⟨t1, fr, q, fs, ys, rfl, sC _ _ (s6 _ _ upd_same), sA _ _ hfs, sA _ _ hq, hft.keep (Tk.same sA), hT.keep (Tk.same sA)⟩)⟩
            · have eb : brk c (g :: r) its = none := by
                unfold brk; rw [if_neg h1c]; simp only [if_neg hc1, if_neg hc2]
                split
                · rename_i h9
                  split
                  · rename_i f' ef
                    exact absurd ⟨h9.1, h9.2, by rw [ef]; rfl⟩ hc3
                  · rfl
                · rfl
              refine ⟨_, rfl, mk1_end fun d hd => eN eb _ (s12.trans s3) d hd⟩
def spRead (K : PySem.W.Frag) : Sp := fun vs H Q E => ∃ (n : List Nat) (ca : Bool), vs = [.str (S n), .bl ca] ∧ n.length ≤ 50000 ∧ (∀ its, read ca n = .inr its → ∀ H' p, Same H H' → ItsAt H' p its → Q (.ref p) H') ∧ (∀ i, read ca n = .inl i → Rz (ga K "InvalidRecording") "place" (.int (i : Nat)) H E)
abbrev s_read : Stmt := top 17
theorem sc_read : FnScope ["notation", "calls", "groups", "items", "at", "length"] ["notation", "calls"] (defScope s_read) := ⟨rfl, rfl, rfl, by decide +kernel, rfl, by decide +kernel, by decide +kernel⟩
theorem ok_read (T : TX K mg) (x_InvalidRecording : Ex1 P w K mg base "InvalidRecording" "place" (ga K "InvalidRecording")) (c_key_length : KCal P w K mg base 3 "key_length" (spKL K) []) (c_read_bracket : KCal P w K mg base 3 "read_bracket" (spRB K) []) {f : Addr} {fd : FuncData} (F : FunD K "read" "read" (defArgs s_read) (defBody s_read) (defScope s_read) [.bl false] [] f fd) : FnOk P w K mg base (CX P w) 4 f fd ["notation", "calls"] (spRead K) := by
  refine F.ok sc_read (fun vs H Q E h => ?_) (fun cdv A outer s H vs Q E hr h => ?_)
  · obtain ⟨n, ca, rfl, _⟩ := h
    rfl
  · obtain ⟨n, ca, rfl, hn, kq, ke⟩ := h
    refine ⟨_, (pss_cons (ps_set (i := 2) sc_read.nd rfl (Or.inl rfl) (pe_tup pa_nil)) (pss_cons (ps_set (i := 3) sc_read.nd rfl (Or.inl rfl) (pe_tup pa_nil)) (pss_cons (ps_set (i := 4) sc_read.nd rfl (Or.inl rfl) pe_int) (pss_cons (ps_while (passes_of rfl) (pt_cmpR op_lt (pv 4) (pe_callB call_lenS (by rfl) T.b_len PySem.boot_len (pa_cons (pv 0) pa_nil)) (nomark _)) (pss_cons (ps_set (i := 5) sc_read.nd rfl (Or.inl rfl) (kx c_key_length (takes_of rfl rfl rfl rfl) hr (by decide) rfl (pa_cons (pv 0) (pa_cons (pv 4) (pa_cons (pv 1) pa_nil))))) (pss_one (ps_if (pt_cmpR op_eq (pv 5) pe_int (nomark _)) (pss_cons (ps_asg (kx c_read_bracket (takes_of rfl rfl rfl rfl) hr (by decide) rfl (pa_cons (pe_ix ix_S (pv 0) (pv 4) (fun _ _ => rfl)) (pa_cons (pv 4) (pa_cons (pv 2) (pa_cons (pv 3) pa_nil))))) (pg_tup rfl (pgs_cons (pg_name (i := 2) sc_read.nd rfl (Or.inl rfl)) (pgs_cons (pg_name (i := 3) sc_read.nd rfl (Or.inl rfl)) pgs_nil)))) (pss_one (ps_set (i := 4) sc_read.nd rfl (Or.inl rfl) (pe_op op_add (pv 4) pe_int)))) (pss_cons (ps_set (i := 3) sc_read.nd rfl (Or.inl rfl) (pe_op op_catW (pv 3) (pe_tup (pa_cons (pe_slice sl_S (pv 0) (po_some (pv 4)) (po_some (pe_op op_add (pv 4) (pv 5)))) pa_nil)))) (pss_one (ps_set (i := 4) sc_read.nd rfl (Or.inl rfl) (pe_op op_add (pv 4) (pv 5))))))))) (pss_cons (ps_if (pt_truth (pv 2) (by intro _; rfl)) (pss_one (ps_raise1 rfl (takes_of rfl rfl rfl rfl) x_InvalidRecording hr (by decide) rfl (pe_callB call_lenS (by rfl) T.b_len PySem.boot_len (pa_cons (pv 0) pa_nil)))) pss_nil) (pss_one (ps_ret (pv 3)))))))), ?_⟩
    refine ⟨(show 0 ≤ sizeLine by decide), fun p0 hp0 => ⟨(show 0 ≤ sizeLine by decide), fun q0 hq0 => ?_⟩⟩
    have s1 := sNew (o := .tup []) (Same.refl _) hp0
    have s2 := sNew (o := .tup []) (Same.refl _) hq0
    refine ⟨fun m σ' H' => ∃ (i : Nat) (gs : List Grp) (its : List It) (p q : Addr) (u : Option V), σ' = [some (.str (S n)), some (.bl ca), some (.ref p), some (.ref q), some (.int (i : Nat)), u] ∧ Same H H' ∧ GrsAt H' p gs ∧ ItsAt H' q its ∧ RdOk i gs its ∧ i ≤ n.length ∧ m = n.length - i ∧ rd ca (n.length - i) i (n.drop i) gs its = read ca n, ⟨n.length, 0, [], [], p0, q0, none, rfl, s1.trans s2, GrsAt.nil (s2 _ _ upd_same), ItsAt.nil upd_same, rdOk0, by omega, rfl, rfl⟩, ?_⟩
    rintro m σ' H' ⟨i, gs, its, p, q, u, rfl, sH, hG, hI, o, hi, rfl, er⟩
    refine ⟨_, rfl, _, rfl, _, rfl, by omega, _, _, rfl, rfl, _, rfl, ?_⟩
    refine if2 (fun h1 => ?_) (fun h1 => ?_)
    · have h1' : (i : Int) < (n.length : Nat) := of_decide_eq_true h1
      have hi' : i < n.length := by omega
      have hc : n[i]? = some n[i] := List.getElem?_eq_getElem hi'
      have hd : n.drop i = n[i] :: n.drop (i + 1) := List.drop_eq_getElem_cons hi'
      generalize n[i] = c at hc hd
      rw [rd_step hi' hc] at er
      refine ⟨fun σ' H' => ∃ (i' : Nat) (gs : List Grp) (its : List It) (p q : Addr) (u : Option V), i < i' ∧ σ' = [some (.str (S n)), some (.bl ca), some (.ref p), some (.ref q), some (.int (i' : Nat)), u] ∧ Same H H' ∧ GrsAt H' p gs ∧ ItsAt H' q its ∧ RdOk i' gs its ∧ i' ≤ n.length ∧ rd ca (n.length - i') i' (n.drop i') gs its = read ca n, ?_, ?_⟩
      · rintro σ2 H2 ⟨i', gs', its', p', q', u', hlt, rfl, a1, a2, a3, a4, a5, a6⟩
        exact ⟨n.length - i', by omega, i', gs', its', p', q', u', rfl, a1, a2, a3, a4, a5, rfl, a6⟩
      refine ⟨_, rfl, _, rfl, _, rfl, n, i, ca, rfl, hn, hi', fun k hk => ?_, fun k hk => ?_⟩
      · rw [hk] at er
        have k2 := kl_two hk
        simp at k2
        refine ⟨_, rfl, rfl, _, rfl, ?_⟩
        rw [dI]
        refine if2 (fun h2 => ?_) (fun h2 => ?_)
        · have h2' : (k : Int) = 0 := of_decide_eq_true h2
          have k0 : k = 0 := by omega
          subst k0
          simp only at er
          refine ⟨_, rfl, _, rfl, _, _, c, rfl, rfl, by omega, by omega, hc, _, rfl, _, rfl, _, rfl, ?_⟩
          have hb : c ∈ brs := by rw [hd] at hk; exact kl_brs hk
          refine ⟨c, i, _, p, q, gs, its, rfl, hb, hG, hI, o, by omega, by have := o.d; omega, fun g2 i2 eb H3 t p2 q2 s3 ht hg2 hi2 => ?_, fun eb => ?_⟩
          · rw [eb] at er
            simp only at er
            refine ⟨t, _, rfl, SqT.of ht, rfl, ?_⟩
            refine ⟨_, _, rfl, _, _, rfl, rfl, ?_⟩
            refine ⟨_, rfl, _, _, rfl, rfl, i + 1, g2, i2, p2, q2, _, by omega, rfl, sH.trans s3, hg2, hi2, brk_ok eb o, by omega, er⟩
          · rw [eb] at er
            intro H3 d s3 hd3
            exact ke i er.symm H3 d (sH.trans s3) hd3
        · have h2' : ¬ (k : Int) = 0 := of_decide_eq_false h2
          obtain ⟨k, rfl⟩ : ∃ k', k = k' + 1 := ⟨k - 1, by omega⟩
          simp only at er
          have kk := hk
          rw [hd] at kk
          obtain ⟨ko, kt⟩ := kl_ok kk
          obtain ⟨ys, hq, hT⟩ := hI
          have hyl := hT.len
          have hzz := o.z
          have hz2 := len_szL its
          refine ⟨_, rfl, _, rfl, _, rfl, _, rfl, _, rfl, _, rfl, _, _, rfl, rfl, _, rfl, _, rfl, by omega, (show (0 : Int) ≤ (i : Nat) by omega), (show (0 : Int) ≤ (i : Nat) + ((k + 1 : Nat) : Int) by omega), (show 1 ≤ sizeLine by decide), fun t1 ht1 => ?_⟩
          have ec : cutL n (some ((i : Nat) : Int)) (some (((i : Nat) : Int) + ((k + 1 : Nat) : Int))) = (n.drop i).take (k + 1) := by
            have e : ((i : Nat) : Int) + ((k + 1 : Nat) : Int) = ((i + (k + 1) : Nat) : Int) := by omega
            rw [e, cutL_mid, List.drop_take]
            congr 1; omega
          have s4 := sNew (o := .tup [.str (S ((n.drop i).take (k + 1)))]) (Same.refl _) ht1
          rw [ec]
          refine ⟨q, t1, ys, _, rfl, rfl, s4 _ _ hq, upd_same, by simp; omega, fun H3 q2 s3 hq2 => ?_⟩
          have sA := s4.trans s3
          refine ⟨_, rfl, _, rfl, _, _, rfl, rfl, ?_⟩
          refine ⟨i + (k + 1), gs, _, p, q2, _, by omega, rfl, sH.trans sA, hG.keep (Tk.same sA), ⟨_, hq2, Trs.app (hT.keep (Tk.same sA)) (Trs.one (show Tr H3 _ (.key ((n.drop i).take (k + 1))) from rfl))⟩, key_ok o ?_ (by omega), by omega, er⟩
          rw [hd]; exact ko
      · rw [hk] at er
        intro H3 d s3 hd3
        exact ke (i + k) er.symm H3 d (sH.trans s3) hd3
    · have h1' : ¬ (i : Int) < (n.length : Nat) := of_decide_eq_false h1
      have hi' : n.drop i = [] := by rw [List.drop_eq_nil_iff]; omega
      rw [hi', rd_nil] at er
      obtain ⟨xs, hp, hg⟩ := id hG
      have hxl := hg.len
      refine ⟨_, rfl, _, .inr (.inl ⟨xs, SqT.of hp, rfl⟩), ?_⟩
      cases gs with
      | nil =>
        have e : xs = [] := hg
        subst e
        refine iff' rfl ⟨_, rfl, ?_⟩
        exact kq its er.symm _ q sH hI
      | cons g r =>
        have hne : (!xs.isEmpty) = true := by
          cases xs with
          | nil => simp at hxl
          | cons => rfl
        rw [hne]
        refine ift rfl ⟨_, rfl, _, rfl, by omega, mk1_end fun d hd => ?_⟩
        have ei : i = n.length := by omega
        subst ei
        exact ke _ er.symm _ d sH hd
abbrev kV (k : List Nat) : V := .str (S k)
def spKeysIn : Nat → Sp
  | 0 => fun _ _ _ _ => False
  | d + 1 => fun vs H Q _ => ∃ (p : Addr) (its : List It), vs = [.ref p] ∧ ItsAt H p its ∧ depL its ≤ d ∧ szL its ≤ 50000 ∧ ∀ H' r, Same H H' → H' r = some (.tup ((keysL its).map kV)) → Q (.ref r) H'
theorem take_snoc {α : Type} {a : List α} {i : Nat} {x : α} (h : a[i]? = some x) : a.take (i + 1) = a.take i ++ [x] := by
  rw [List.take_add_one, h]; rfl
theorem keysL_one (i : It) : keysL [i] = i.keys := by simp [keysL]
theorem repsL_one (i : It) : repsL [i] = i.reps := by simp [repsL]
theorem szL_take (a : List It) (i : Nat) : szL (a.take i) ≤ szL a := by
  have e : szL (a.take i ++ a.drop i) = szL a := by rw [List.take_append_drop]
  rw [szL_app] at e; omega
theorem mem_at {α : Type} {a : List α} {i : Nat} {x : α} (h : a[i]? = some x) : x ∈ a := List.mem_of_getElem? h
abbrev s_keys_in : Stmt := top 18
theorem sc_keys_in : FnScope ["items", "keys", "item"] ["items"] (defScope s_keys_in) := ⟨rfl, rfl, rfl, by decide +kernel, rfl, by decide +kernel, by decide +kernel⟩
theorem ok_keys_in {d : Nat} (T : TX K mg) (c_keys_in : KCal P w K mg base d "keys_in" (spKeysIn d) []) {f : Addr} {fd : FuncData} (F : FunD K "keys_in" "keys_in" (defArgs s_keys_in) (defBody s_keys_in) (defScope s_keys_in) [] [] f fd) : FnOk P w K mg base (CX P w) (d+1) f fd ["items"] (spKeysIn (d+1)) := by
  refine F.ok sc_keys_in (fun vs H Q E h => ?_) (fun cdv A outer s H vs Q E hr h => ?_)
  · obtain ⟨p, its, rfl, _⟩ := h
    rfl
  · obtain ⟨p, its, rfl, ⟨xs, hp, hT⟩, hd, hz, kq⟩ := h
    refine ⟨_, (pss_cons (ps_set (i := 1) sc_keys_in.nd rfl (Or.inl rfl) (pe_tup pa_nil)) (pss_cons (ps_for (passes_of rfl) rfl (pi_tup (pv 0)) (pg_name (i := 2) sc_keys_in.nd rfl (Or.inl rfl)) (pss_one (ps_if (pt_val (pe_callB call_isi (by rfl) T.b_isinstance (by decide +kernel) (pa_cons (pv 2) (pa_cons (pe_bT "str" T.b_str (by rfl) (by decide +kernel)) pa_nil)))) (pss_one (ps_set (i := 1) sc_keys_in.nd rfl (Or.inl rfl) (pe_op op_catW (pv 1) (pe_tup (pa_cons (pv 2) pa_nil))))) (pss_one (ps_if (pt_cmpR op_eqS (pe_ix ix_tup (pv 2) pe_int (fun _ _ => rfl)) (pe_strS [40] (by decide +kernel)) (nomark _)) (pss_one (ps_set (i := 1) sc_keys_in.nd rfl (Or.inl rfl) (pe_op op_catW (pv 1) (kc c_keys_in hr (Nat.le_refl _) rfl (pa_cons (pe_ix ix_tup (pv 2) pe_int (fun _ _ => rfl)) pa_nil))))) (pss_one (ps_set (i := 1) sc_keys_in.nd rfl (Or.inl rfl) (pe_op op_catW (pe_op op_catW (pv 1) (kc c_keys_in hr (Nat.le_refl _) rfl (pa_cons (pe_ix ix_tup (pv 2) pe_int (fun _ _ => rfl)) pa_nil))) (kc c_keys_in hr (Nat.le_refl _) rfl (pa_cons (pe_ix ix_tup (pv 2) pe_int (fun _ _ => rfl)) pa_nil)))))))))) (pss_one (ps_ret (pv 1))))), ?_⟩
    have hxl := hT.len
    refine ⟨(show 0 ≤ sizeLine by decide), fun r0 hr0 => ?_⟩
    refine ⟨_, rfl, p, rfl, ⟨_, SqT.of (sNew (Same.refl H) hr0 _ _ hp)⟩, for_tup (xs := xs) (fun i σ' H' => ∃ (u : Option V) (r : Addr), σ' = [some (.ref p), some (.ref r), u] ∧ Same H H' ∧ H' r = some (.tup ((keysL (its.take i)).map kV))) ⟨none, r0, rfl, sNew (Same.refl H) hr0, upd_same⟩ ?_ ?_ ?_⟩
    · rintro i σ' H' hi ⟨u, r, rfl, sH, hR⟩
      exact SqT.of (sH _ _ hp)
    · rintro i x σ' H' hx ⟨u, r, rfl, sH, hR⟩
      obtain ⟨it, hit, tr⟩ := hT.at hx
      have tr' := Tr.keep (Tk.same sH) it tr
      have hm := mem_at hit
      have hdm := depL_mem hm
      have hzm := szL_mem hm
      have hz1 := keysL_sz (its.take i)
      have hz2 := szL_take its i
      have hk : keysL (its.take (i + 1)) = keysL (its.take i) ++ it.keys := by rw [take_snoc hit, keysL_app, keysL_one]
      have nxt : ∀ H2 r2, Same H' H2 → H2 r2 = some (.tup ((keysL (its.take i)).map kV ++ it.keys.map kV)) → ∃ (u : Option V) (r : Addr), [some (V.ref p), some (.ref r2), some x] = [some (.ref p), some (.ref r), u] ∧ Same H H2 ∧ H2 r = some (.tup ((keysL (its.take (i + 1))).map kV)) := fun H2 r2 s2 h2 => ⟨_, r2, rfl, sH.trans s2, by rw [hk, List.map_append]; exact h2⟩
      cases it with
      | key ks =>
        have e : x = .str (S ks) := tr
        subst e
        refine ⟨_, rfl, _, _, _, _, _, rfl, .ty _, .base (.str _), rfl, _, rfl, ift rfl ?_⟩
        refine ⟨_, rfl, _, rfl, (show 1 ≤ sizeLine by decide), fun t1 ht1 => ?_⟩
        have s3 := sNew (o := .tup [.str (S ks)]) (Same.refl _) ht1
        refine ⟨r, t1, _, _, rfl, rfl, s3 _ _ hR, upd_same, by simp; omega, fun H2 r2 s2 h2 => ?_⟩
        exact nxt H2 r2 (s3.trans s2) h2
      | rep a =>
        obtain ⟨xp, xq, zs, rfl, h1, h2, t2⟩ := tr'
        simp [It.dep] at hdm
        simp [It.sz] at hzm
        obtain ⟨e, rfl⟩ : ∃ e, d = e + 1 := ⟨d - 1, by omega⟩
        refine ⟨_, rfl, _, _, _, _, _, rfl, .ty _, .base (.tup h1), rfl, _, rfl, iff' rfl ?_⟩
        refine ⟨_, rfl, xp, _, 0, _, rfl, rfl, SqT.of h1, rfl, _, _, rfl, rfl, _, rfl, ift rfl ?_⟩
        refine ⟨_, rfl, _, rfl, xp, _, 1, _, rfl, rfl, SqT.of h1, rfl, xq, a, rfl, ⟨zs, h2, t2⟩, by omega, by omega, fun H2 r1 s2 hr1 => ?_⟩
        have hza := keysL_sz a
        refine ⟨r, r1, _, _, rfl, rfl, s2 _ _ hR, hr1, by simp; omega, fun H3 r2 s3 h3 => ?_⟩
        exact nxt H3 r2 (s2.trans s3) h3
      | cho a b =>
        obtain ⟨xp, xq, xr, zs, ws, rfl, h1, h2, h3, t2, t3⟩ := tr'
        simp [It.dep] at hdm
        simp [It.sz] at hzm
        obtain ⟨e, rfl⟩ : ∃ e, d = e + 1 := ⟨d - 1, by omega⟩
        have hza := keysL_sz a
        have hzb := keysL_sz b
        refine ⟨_, rfl, _, _, _, _, _, rfl, .ty _, .base (.tup h1), rfl, _, rfl, iff' rfl ?_⟩
        refine ⟨_, rfl, xp, _, 0, _, rfl, rfl, SqT.of h1, rfl, _, _, rfl, rfl, _, rfl, iff' rfl ?_⟩
        refine ⟨_, rfl, _, rfl, xp, _, 1, _, rfl, rfl, SqT.of h1, rfl, xq, a, rfl, ⟨zs, h2, t2⟩, by omega, by omega, fun H2 r1 s2 hr1 => ?_⟩
        refine ⟨r, r1, _, _, rfl, rfl, s2 _ _ hR, hr1, by simp; omega, fun H3 r2 s3 hr2 => ?_⟩
        have s23 := s2.trans s3
        refine ⟨_, rfl, xp, _, 2, _, rfl, rfl, SqT.of (s23 _ _ h1), rfl, xr, b, rfl, ⟨ws, s23 _ _ h3, t3.keep (Tk.same s23)⟩, by omega, by omega, fun H4 r3 s4 hr3 => ?_⟩
        refine ⟨r2, r3, _, _, rfl, rfl, s4 _ _ hr2, hr3, by simp; omega, fun H5 r4 s5 h5 => ?_⟩
        exact nxt H5 r4 (s23.trans (s4.trans s5)) (by rw [h5]; simp [It.keys])
    · rintro σ' H' ⟨u, r, rfl, sH, hR⟩
      refine ⟨_, rfl, ?_⟩
      rw [hxl, List.take_length] at hR
      exact kq _ r sH hR
def spRepsIn : Nat → Sp
  | 0 => fun _ _ _ _ => False
  | d + 1 => fun vs H Q _ => ∃ (p : Addr) (its : List It), vs = [.ref p] ∧ ItsAt H p its ∧ depL its ≤ d ∧ szL its ≤ 50000 ∧ Q (.int (repsL its : Nat)) H
/-! ### calls by names -/
def spItemsS (K : PySem.W.Frag) : Sp := fun vs H Q E => ∃ n : List Nat, vs = [.str (S n)] ∧ n.length ≤ 50000 ∧ (∀ its, read false n = .inr its → (keysL its).length ≤ 60 → ∀ H' p, Same H H' → Q (.ref p) H') ∧
  (∀ i, read false n = .inl i → Rz (ga K "InvalidRecording") "place" (.int (i : Nat)) H E) ∧ (∀ its, read false n = .inr its → 60 < (keysL its).length → Rz (ga K "TooManyKeys") "limit" (.int 60) H E)
abbrev s_items_of : Stmt := top 19
theorem sc_items_of : FnScope ["recording", "items"] ["recording"] (defScope s_items_of) := ⟨rfl, rfl, rfl, by decide +kernel, rfl, by decide +kernel, by decide +kernel⟩
theorem ok_items_of (T : TX K mg) (x_TooManyKeys : Ex1 P w K mg base "TooManyKeys" "limit" (ga K "TooManyKeys")) (c_read : KCal P w K mg base 4 "read" (spRead K) [.bl false]) (c_keys_in : KCal P w K mg base 9 "keys_in" (spKeysIn 9) []) {f : Addr} {fd : FuncData} (F : FunD K "items_of" "items_of" (defArgs s_items_of) (defBody s_items_of) (defScope s_items_of) [] [] f fd) : FnOk P w K mg base (CX P w) 10 f fd ["recording"] (spItemsS K) := by
  refine F.ok sc_items_of (fun vs H Q E h => ?_) (fun cdv A outer s H vs Q E hr h => ?_)
  · obtain ⟨n, rfl, _⟩ := h
    rfl
  · obtain ⟨n, rfl, hn, kq, ke, km⟩ := h
    refine ⟨_, (pss_cons (ps_set (i := 1) sc_items_of.nd rfl (Or.inl rfl) (kx c_read (takes_of rfl rfl rfl rfl) hr (by decide) rfl (pa_cons (pe_callTy SkE.call_str_str (by rfl) T.b_str (by decide +kernel) (pa_cons (pv 0) pa_nil)) pa_nil))) (pss_cons (ps_if (pt_cmpR op_gt (pe_callB call_len_seq (by rfl) T.b_len PySem.boot_len (pa_cons (kc c_keys_in hr (by decide) rfl (pa_cons (pv 1) pa_nil)) pa_nil)) (pe_gI T.g_MOST_KEYS rfl) (nomark _)) (pss_one (ps_raise1 rfl (takes_of rfl rfl rfl rfl) x_TooManyKeys hr (by decide) rfl (pe_gI T.g_MOST_KEYS rfl))) pss_nil) (pss_one (ps_ret (pv 1))))), ?_⟩
    refine ⟨_, rfl, _, rfl, n, false, rfl, hn, fun its er H1 p s1 hI => ?_, fun i er => ke i er⟩
    obtain ⟨ok, dp, sz⟩ := read_ok er
    refine ⟨_, rfl, p, its, rfl, hI, by omega, by omega, fun H2 r s2 hR => ?_⟩
    refine ⟨r, _, rfl, .inr (SqT.of hR), _, _, rfl, rfl, _, rfl, ?_⟩
    refine if2 (fun c => ?_) (fun c => ?_)
    · have c' : (60 : Int) < (((keysL its).map kV).length : Nat) := of_decide_eq_true c
      simp at c'
      refine mk1_end fun d hd => ?_
      exact km its er (by omega) _ d (s1.trans s2) hd
    · have c' : ¬ (60 : Int) < (((keysL its).map kV).length : Nat) := of_decide_eq_false c
      simp at c'
      refine ⟨_, rfl, ?_⟩
      exact kq its er (by omega) H2 p (s1.trans s2)
/-- the library: a dict of texts by names of one sign -/
structure LibAt (H : Hp) (a : Addr) (lib : Nat → Option (List Nat)) : Prop where
  ex : ∃ kvs : List (Key × V), H a = some (.dK kvs) ∧ ∀ d, valV kvs (.inr (S [d])) = (lib d).map fun t => V.str (S t)
theorem LibAt.same {H H' : Hp} {a : Addr} {lib : Nat → Option (List Nat)} (s : Same H H') (h : LibAt H a lib) : LibAt H' a lib := by
  obtain ⟨kvs, e, v⟩ := h.ex
  exact ⟨kvs, s _ _ e, v⟩
theorem LibAt.get {H : Hp} {a : Addr} {lib : Nat → Option (List Nat)} (h : LibAt H a lib) (d : Nat) : DGet H a (.str (S [d])) ((lib d).map fun t => V.str (S t)) := by
  obtain ⟨kvs, e, v⟩ := h.ex
  rw [← v d]
  exact DGet.k (k := .inr (S [d])) e
def sub1 (lib : Nat → Option (List Nat)) (t : List Nat) : List Nat := if t.head? = some 64 then (lib (t.getD 1 0)).getD [] else t
def wholeM (lib : Nat → Option (List Nat)) (ps : List (List Nat)) : List Nat := (ps.map (sub1 lib)).flatten
def miss (lib : Nat → Option (List Nat)) : List (List Nat) → Option Nat
  | [] => none
  | t :: r => if t.head? = some 64 ∧ lib (t.getD 1 0) = none then some (t.getD 1 0) else miss lib r
theorem miss_filter (lib : Nat → Option (List Nat)) : ∀ ps : List (List Nat), miss lib (ps.filter fun x => !isBr x) = miss lib ps
  | [] => rfl
  | t :: r => by
    rw [List.filter_cons]
    by_cases hb : isBr t = true
    · have h1 : t.head? ≠ some 64 := by
        unfold isBr at hb
        split at hb
        · rename_i c
          have hc : c ∈ brs := of_decide_eq_true hb
          intro z
          have : c = 64 := by simpa using z
          subst this
          revert hc; decide
        · cases hb
      rw [hb, if_neg (by simp), miss_filter lib r, miss, if_neg (fun z => h1 z.1)]
    · have hb' : isBr t = false := by simpa using hb
      rw [hb', if_pos (by rfl), miss, miss, miss_filter lib r]
theorem miss_take {lib : Nat → Option (List Nat)} : ∀ {ps : List (List Nat)} {i : Nat} {t : List Nat}, ps[i]? = some t → (∀ (j : Nat) u, j < i → ps[j]? = some u → ¬ (u.head? = some 64 ∧ lib (u.getD 1 0) = none)) → (t.head? = some 64 ∧ lib (t.getD 1 0) = none) → miss lib ps = some (t.getD 1 0)
  | [], i, t, h, _, _ => by simp at h
  | u :: r, 0, t, h, _, c => by
    have : u = t := by simpa using h
    subst this
    rw [miss, if_pos c]
  | u :: r, i + 1, t, h, k, c => by
    rw [miss, if_neg (k 0 u (by omega) rfl)]
    exact miss_take (by simpa using h) (fun j v hj hv => k (j + 1) v (by omega) (by simpa using hv)) c
theorem miss_none {lib : Nat → Option (List Nat)} : ∀ {ps : List (List Nat)}, miss lib ps = none → ∀ t ∈ ps, t.head? = some 64 → ∃ x, lib (t.getD 1 0) = some x
  | [], _ => by intro t ht; simp at ht
  | u :: r, h => by
    rw [miss] at h
    split at h
    · cases h
    · rename_i n
      intro t ht hh
      rcases List.mem_cons.mp ht with rfl | ht
      · cases e : lib (t.getD 1 0) with
        | none => exact absurd ⟨hh, e⟩ n
        | some x => exact ⟨x, rfl⟩
      · exact miss_none h t ht hh
theorem miss_all {lib : Nat → Option (List Nat)} : ∀ {ps : List (List Nat)}, (∀ (j : Nat) u, ps[j]? = some u → ¬ (u.head? = some 64 ∧ lib (u.getD 1 0) = none)) → miss lib ps = none
  | [], _ => rfl
  | u :: r, h => by
    rw [miss, if_neg (h 0 u rfl)]
    exact miss_all fun j v hv => h (j + 1) v (by simpa using hv)
theorem tok_kl {t r : List Nat} (h : tokOk true t) : kl true (t ++ r) = .inr (if isBr t then 0 else t.length) := by
  rcases h with ⟨c, hc, rfl⟩ | ⟨c, hc, rfl⟩ | ⟨c, d, hc, hd, rfl⟩ | ⟨_, d, hd, rfl⟩
  · obtain ⟨n1, n2⟩ := plk_f hc
    have eb : isBr [c] = false := by simp [isBr, n2]
    rw [eb]
    show kl true (c :: r) = _
    simp only [kl]; rw [if_pos hc]; rfl
  · have n1 : c ∉ plk := fun z => (plk_f z).2 hc
    have n2 : ¬ (c ∈ sgk ∨ (true = true ∧ c = 64)) := fun z => brs_f hc (sgk_f z)
    have eb : isBr [c] = true := by simp [isBr, hc]
    rw [eb]
    show kl true (c :: r) = _
    unfold kl; dsimp only; rw [if_neg n1, if_neg n2, if_pos hc]; rfl
  · have n1 : c ∉ plk := fun z => plk_not (ca := true) z (.inl hc)
    have n3 : c ≠ 64 := by rintro rfl; revert hc; decide
    show kl true (c :: d :: r) = _
    unfold kl; dsimp only; rw [if_neg n1, if_pos (show (c ∈ sgk ∨ (true = true ∧ c = 64)) from .inl hc), if_neg n3, if_pos hd]; rfl
  · show kl true (64 :: d :: r) = _
    unfold kl; dsimp only; rw [if_neg (show ¬ 64 ∈ plk by decide), if_pos (show (64 ∈ sgk ∨ (true = true ∧ 64 = 64)) from .inr ⟨rfl, rfl⟩), if_pos (show (64 : Nat) = 64 from rfl), if_pos hd]; rfl
theorem tok_len {t : List Nat} {ca : Bool} (h : tokOk ca t) : 1 ≤ t.length ∧ t.length ≤ 2 ∧ (isBr t = true → t.length = 1) ∧ (t.head? = some 64 → ∃ d, t = [64, d]) := by
  rcases h with ⟨c, hc, rfl⟩ | ⟨c, hc, rfl⟩ | ⟨c, d, hc, hd, rfl⟩ | ⟨_, d, hd, rfl⟩
  · refine ⟨by simp, by simp, fun _ => rfl, fun z => ?_⟩
    have : c = 64 := by simpa using z
    subst this; exact absurd hc (by decide)
  · refine ⟨by simp, by simp, fun _ => rfl, fun z => ?_⟩
    have : c = 64 := by simpa using z
    subst this; exact absurd hc (by decide)
  · refine ⟨by simp, by simp, fun z => by simp [isBr] at z, fun z => ?_⟩
    have : c = 64 := by simpa using z
    subst this; exact absurd hc (by decide)
  · exact ⟨by simp, by simp, fun z => by simp [isBr] at z, fun z => ⟨d, rfl⟩⟩
theorem flat_le {f : List Nat → List Nat} {m : Nat} : ∀ {ps : List (List Nat)}, (∀ t ∈ ps, (f t).length ≤ m) → ((ps.map f).flatten).length ≤ m * ps.length
  | [], _ => by simp
  | t :: r, h => by
    have h1 := flat_le (f := f) (m := m) (ps := r) fun t ht => h t (List.mem_cons_of_mem _ ht)
    have h2 := h t List.mem_cons_self
    simp only [List.map_cons, List.flatten_cons, List.length_append, List.length_cons]
    have : m * (r.length + 1) = m * r.length + m := Nat.mul_succ _ _
    omega
theorem spl_len : ∀ (t : List Nat) (p : Option Nat), (spl t p).length ≤ t.length + 1 ∧ (p = none → (spl t p).length ≤ t.length)
  | [], none => by simp [spl]
  | [], some c => by simp [spl]
  | d :: t, some c => by
    have := (spl_len t none).2 rfl
    refine ⟨by simp [spl]; omega, fun z => by cases z⟩
  | c :: t, none => by
    rw [spl]
    split
    · have := (spl_len t (some c)).1
      exact ⟨by simp; omega, fun _ => by simpa using this⟩
    · have := (spl_len t none).2 rfl
      exact ⟨by simp; omega, fun _ => by simpa using this⟩
/-- the texts of the library are not long -/
def LibOk (lib : Nat → Option (List Nat)) : Prop := ∀ d t, lib d = some t → t.length ≤ 100
theorem sub1_len {lib : Nat → Option (List Nat)} (h : LibOk lib) {t : List Nat} (ht : t.length ≤ 2) : (sub1 lib t).length ≤ 100 := by
  unfold sub1
  split
  · cases e : lib (t.getD 1 0) with
    | none => simp
    | some x => simpa using h _ _ e
  · omega
def spExpand (K : PySem.W.Frag) : Sp := fun vs H Q E => ∃ (n : List Nat) (a : Addr) (lib : Nat → Option (List Nat)), vs = [.str (S n), .ref a] ∧ LibAt H a lib ∧ LibOk lib ∧ n.length ≤ 200 ∧
  (∀ i, read true n = .inl i → Rz (ga K "InvalidRecording") "place" (.int (i : Nat)) H E) ∧
  (∀ its d, read true n = .inr its → miss lib (spl n none) = some d → Rz (ga K "UnknownName") "name" (.str (S [d])) H E) ∧
  (∀ its i, read true n = .inr its → miss lib (spl n none) = none → read false (wholeM lib (spl n none)) = .inl i → Rz (ga K "InvalidRecording") "place" (.int (i : Nat)) H E) ∧
  (∀ its j, read true n = .inr its → miss lib (spl n none) = none → read false (wholeM lib (spl n none)) = .inr j → 60 < (keysL j).length → Rz (ga K "TooManyKeys") "limit" (.int 60) H E) ∧
  (∀ its j, read true n = .inr its → miss lib (spl n none) = none → read false (wholeM lib (spl n none)) = .inr j → (keysL j).length ≤ 60 → ∀ H', Same H H' → Q (.str (S (wholeM lib (spl n none)))) H')
abbrev s_expand : Stmt := top 20
theorem sc_expand : FnScope ["notation", "library", "keys", "key", "whole", "at", "length"] ["notation", "library"] (defScope s_expand) := ⟨rfl, rfl, rfl, by decide +kernel, rfl, by decide +kernel, by decide +kernel⟩
theorem ok_expand (T : TX K mg) (x_UnknownName : Ex1 P w K mg base "UnknownName" "name" (ga K "UnknownName")) (c_key_length : KCal P w K mg base 3 "key_length" (spKL K) []) (cz_read : KCal P w K mg base 4 "read" (spRead K) []) (c_keys_in : KCal P w K mg base 9 "keys_in" (spKeysIn 9) []) (c_items_of : KCal P w K mg base 10 "items_of" (spItemsS K) []) {f : Addr} {fd : FuncData} (F : FunD K "expand" "expand" (defArgs s_expand) (defBody s_expand) (defScope s_expand) [] [] f fd) : FnOk P w K mg base (CX P w) 11 f fd ["notation", "library"] (spExpand K) := by
  refine F.ok sc_expand (fun vs H Q E h => ?_) (fun cdv A outer s H vs Q E hr h => ?_)
  · obtain ⟨n, a, lib, rfl, _⟩ := h
    rfl
  · obtain ⟨n, a, lib, rfl, hL, hO, hn, k1, k2, k3, k4, k5⟩ := h
    refine ⟨_, (pss_cons (ps_set (i := 2) sc_expand.nd rfl (Or.inl rfl) (kc c_keys_in hr (by decide) rfl (pa_cons (kx cz_read (takes_of rfl rfl rfl rfl) hr (by decide) rfl (pa_cons (pv 0) (pa_cons pe_bl pa_nil))) pa_nil))) (pss_cons (ps_for (passes_of rfl) rfl (pi_tup (pv 2)) (pg_name (i := 3) sc_expand.nd rfl (Or.inl rfl)) (pss_one (ps_if (pt_cut (PW.pt (pw_and (pt_cmpR op_eqS (pe_ix ix_S (pv 3) pe_int (fun _ _ => rfl)) (pe_strS [64] (by decide +kernel)) (nomark _)) (pw_and1 (pt_cmp (pc_dnotin (hu_of hr) (pe_ix ix_S (pv 3) pe_int (fun _ _ => rfl)) (pv 1))))))) (pss_one (ps_raise1 rfl (takes_of rfl rfl rfl rfl) x_UnknownName hr (by decide) rfl (pe_ix ix_S (pv 3) pe_int (fun _ _ => rfl)))) pss_nil))) (pss_cons (ps_set (i := 4) sc_expand.nd rfl (Or.inl rfl) (pe_strS [] (by decide +kernel))) (pss_cons (ps_set (i := 5) sc_expand.nd rfl (Or.inl rfl) pe_int) (pss_cons (ps_while (passes_of rfl) (pt_cmpR op_lt (pv 5) (pe_callB call_lenS (by rfl) T.b_len PySem.boot_len (pa_cons (pv 0) pa_nil)) (nomark _)) (pss_cons (ps_set (i := 6) sc_expand.nd rfl (Or.inl rfl) (kx c_key_length (takes_of rfl rfl rfl rfl) hr (by decide) rfl (pa_cons (pv 0) (pa_cons (pv 5) (pa_cons pe_bl pa_nil))))) (C8.pss_cut (ps_if (pt_cmpR op_eqS (pe_ix ix_S (pv 0) (pv 5) (fun _ _ => rfl)) (pe_strS [64] (by decide +kernel)) (nomark _)) (pss_one (ps_set (i := 4) sc_expand.nd rfl (Or.inl rfl) (pe_op op_addS (pv 4) (pe_dget (hu_of hr) (pv 1) (pe_ix ix_S (pv 0) (pe_op op_add (pv 5) pe_int) (fun _ _ => rfl)) (fun _ _ => rfl))))) (pss_one (ps_set (i := 4) sc_expand.nd rfl (Or.inl rfl) (pe_op op_addS (pv 4) (pe_slice sl_S (pv 0) (po_some (pv 5)) (po_some (pe_op op_add (pv 5) (pe_callB (call_max2 rfl) (by rfl) T.b_max (by decide +kernel) (pa_cons (pv 6) (pa_cons pe_int pa_nil)))))))))) (pss_one (ps_set (i := 5) sc_expand.nd rfl (Or.inl rfl) (pe_op op_add (pv 5) (pe_callB (call_max2 rfl) (by rfl) T.b_max (by decide +kernel) (pa_cons (pv 6) (pa_cons pe_int pa_nil))))))))) (pss_cons (ps_expr (kx c_items_of (takes_of rfl rfl rfl rfl) hr (by decide) rfl (pa_cons (pv 4) pa_nil))) (pss_one (ps_ret (pv 4))))))))), ?_⟩
    refine ⟨_, rfl, n, true, rfl, by omega, fun its er H1 p s1 hI => ?_, fun i er => k1 i er⟩
    obtain ⟨ok, dp, sz⟩ := read_ok er
    obtain ⟨ek, et⟩ := read_keysT er
    refine ⟨p, its, rfl, hI, by omega, by omega, fun H2 r s2 hR => ?_⟩
    have s12 := s1.trans s2
    generalize eps : spl n none = ps at *
    have efl : ps.flatten = n := by rw [← eps]; exact spl_flat n none
    have epl : ps.length ≤ n.length := by rw [← eps]; exact (spl_len n none).2 rfl
    refine ⟨_, rfl, r, rfl, ⟨_, SqT.of hR⟩, ?_⟩
    have hxl : ((keysL its).map kV).length = (keysL its).length := List.length_map ..
    have kmem : ∀ t ∈ keysL its, t ∈ ps := fun t ht => by rw [ek] at ht; exact (List.mem_filter.mp ht).1
    refine for_tup (xs := (keysL its).map kV) (fun i σ' H' => ∃ u : Option V, σ' = [some (.str (S n)), some (.ref a), some (.ref r), u, none, none, none] ∧ Same H2 H' ∧ ∀ (j : Nat) t, j < i → (keysL its)[j]? = some t → ¬ (t.head? = some 64 ∧ lib (t.getD 1 0) = none)) ?_ ?_ ?_ ?_
    · exact ⟨none, rfl, Same.refl _, fun j t hj => by omega⟩
    · rintro i σ' H3 hi ⟨u, rfl, s3, h3⟩
      exact SqT.of (s3 _ _ hR)
    · rintro i x σ' H3 hx ⟨u, rfl, s3, h3⟩
      rw [List.getElem?_map] at hx
      cases e : (keysL its)[i]? with
      | none => rw [e] at hx; cases hx
      | some t =>
        rw [e] at hx
        have ex : x = .str (S t) := by cases hx; rfl
        subst ex
        have tin := kmem t (mem_at e)
        obtain ⟨l1, l2, l3, l4⟩ := tok_len (et t tin)
        obtain ⟨c, t', rfl⟩ : ∃ c t', t = c :: t' := by cases t with | nil => simp at l1 | cons c t' => exact ⟨c, t', rfl⟩
        refine ⟨Ans H3 (c = 64 ∧ lib ((c :: t').getD 1 0) = none), ?_, if3 (fun hc => ?_) (fun hc => ?_)⟩
        · refine ⟨_, rfl, _, _, c, rfl, rfl, by simp at l2 ⊢; omega, by decide, rfl, _, _, rfl, rfl, _, rfl, if2 (fun a1 => ?_) (fun a1 => ?_)⟩
          · have a1' : c = 64 := by simpa using a1
            obtain ⟨d, hd⟩ := l4 (by rw [a1']; rfl)
            cases hd
            refine ⟨_, rfl, _, _, d, rfl, rfl, by simp, by decide, rfl, _, rfl, a, _, rfl, (hL.same (s12.trans s3)).get d, ?_⟩
            refine ⟨_, rfl, rfl, ?_⟩
            show (!((lib d).map fun t => V.str (S t)).isSome) = true ↔ _
            have eg : lib ([64, d].getD 1 0) = lib d := rfl
            rw [eg]
            cases lib d <;> simp
          · have a1' : ¬ c = 64 := by simpa using a1
            exact ansF fun z => a1' z.1
        · obtain ⟨c1, c2⟩ := hc
          obtain ⟨d, hd⟩ := l4 (by rw [c1]; rfl)
          cases hd
          refine ⟨_, rfl, _, _, d, rfl, rfl, by simp, by decide, rfl, mk1_end fun dd hdd => ?_⟩
          refine k2 its d er ?_ _ dd (s12.trans s3) hdd
          rw [← miss_filter, ← ek]
          exact miss_take e (fun j u hj hu => h3 j u hj hu) ⟨rfl, c2⟩
        · refine ⟨_, rfl, s3, fun j t hj ht => ?_⟩
          by_cases hji : j = i
          · subst hji
            rw [e] at ht
            cases ht
            intro z
            exact hc ⟨by simpa using z.1, z.2⟩
          · exact h3 j t (by omega) ht
    · rintro σ' H3 ⟨u, rfl, s3, h3⟩
      have hm : miss lib ps = none := by
        rw [← miss_filter, ← ek]
        exact miss_all fun j t ht => h3 j t (by rw [hxl]; exact (List.getElem?_eq_some_iff.mp ht).1) ht
      have hL3 := hL.same (s12.trans s3)
      have lib64 := miss_none hm
      have sA := s12.trans s3
      have hnn := hn
      have wlen : ∀ j, (wholeM lib (ps.take j)).length ≤ 20000 := fun j => by
        have h1 := flat_le (f := sub1 lib) (m := 100) (ps := ps.take j) fun t ht => sub1_len hO (tok_len (et t (List.mem_of_mem_take ht))).2.1
        have h2 : (ps.take j).length ≤ ps.length := by rw [List.length_take]; omega
        show ((ps.take j).map (sub1 lib)).flatten.length ≤ 20000
        omega
      refine ⟨fun m σ' H' => ∃ (j : Nat) (u6 : Option V), σ' = [some (.str (S n)), some (.ref a), some (.ref r), u, some (.str (S (wholeM lib (ps.take j)))), some (.int ((ps.take j).flatten.length : Nat)), u6] ∧ H' = H3 ∧ j ≤ ps.length ∧ m = ps.length - j, ⟨ps.length, 0, none, rfl, rfl, by omega, by omega⟩, ?_⟩
      rintro m σ' H' ⟨j, u6, rfl, eH, hj, rfl⟩
      subst eH
      have en : (ps.take j).flatten ++ (ps.drop j).flatten = n := by rw [← List.flatten_append, List.take_append_drop, efl]
      have enl : (ps.take j).flatten.length + (ps.drop j).flatten.length = n.length := by rw [← List.length_append, en]
      refine ⟨_, rfl, _, rfl, _, rfl, by omega, _, _, rfl, rfl, _, rfl, ?_⟩
      refine if2 (fun h1 => ?_) (fun h1 => ?_)
      · have h1' : ((ps.take j).flatten.length : Int) < (n.length : Nat) := of_decide_eq_true h1
        have hjl : j < ps.length := by
          refine Nat.lt_of_le_of_ne hj fun z => ?_
          rw [z, List.drop_length] at enl
          simp at enl
          rw [z, List.take_length, efl] at h1'
          omega
        have etk : ps[j]? = some ps[j] := List.getElem?_eq_getElem hjl
        have edr : ps.drop j = ps[j] :: ps.drop (j + 1) := List.drop_eq_getElem_cons hjl
        generalize ps[j] = t at etk edr
        have tok := et t (mem_at etk)
        obtain ⟨l1, l2, l3, l4⟩ := tok_len tok
        have etj : ps.take (j + 1) = ps.take j ++ [t] := take_snoc etk
        have ew : wholeM lib (ps.take (j + 1)) = wholeM lib (ps.take j) ++ sub1 lib t := by unfold wholeM; rw [etj]; simp
        have el : (ps.take (j + 1)).flatten.length = (ps.take j).flatten.length + t.length := by rw [etj]; simp
        have wl := wlen j
        have wl2 := wlen (j + 1)
        rw [ew, List.length_append] at wl2
        rw [edr, List.flatten_cons] at en
        have ekl : kl true (n.drop (ps.take j).flatten.length) = .inr (if isBr t then 0 else t.length) := by
          rw [← en, List.drop_left]; exact tok_kl tok
        have hcut : (n.drop (ps.take j).flatten.length).take t.length = t := by rw [← en, List.drop_left, List.take_left]
        have emax : (if (1 : Int) > (((if isBr t then 0 else t.length : Nat)) : Int) then (1 : Int) else (((if isBr t then 0 else t.length : Nat)) : Int)) = (t.length : Nat) := by
          by_cases hb : isBr t = true
          · rw [if_pos hb, l3 hb]; rfl
          · have hb' : isBr t = false := by simpa using hb
            rw [if_neg hb, if_neg (by omega)]
        obtain ⟨c, t', rfl⟩ : ∃ c t', t = c :: t' := by cases t with | nil => simp at l1 | cons c t' => exact ⟨c, t', rfl⟩
        have hc : n[(ps.take j).flatten.length]? = some c := by rw [← en, List.getElem?_append_right (Nat.le_refl _), Nat.sub_self]; rfl
        generalize eat : (ps.take j).flatten.length = at_ at *
        refine ⟨fun σ' HX => ∃ (u6 : Option V), σ' = [some (.str (S n)), some (.ref a), some (.ref r), u, some (.str (S (wholeM lib (ps.take (j + 1))))), some (.int ((ps.take (j + 1)).flatten.length : Nat)), u6] ∧ HX = H', ?_, ?_⟩
        · rintro σ2 H5 ⟨u6, rfl, rfl⟩
          exact ⟨ps.length - (j + 1), by omega, j + 1, u6, rfl, rfl, by omega, rfl⟩
        refine ⟨_, rfl, _, rfl, n, at_, true, rfl, by omega, by omega, fun k hk => ?_, fun k hk => by rw [ekl] at hk; cases hk⟩
        rw [ekl] at hk
        cases hk
        have hjl2 : (ps.take (j + 1)).flatten.length ≤ n.length := by rw [el, ← en, List.length_append, List.length_append, eat]; omega
        rw [ew, el]
        generalize ekk : (if isBr (c :: t') = true then 0 else (c :: t').length) = kk at *
        refine ⟨fun σ' HX => σ' = [some (.str (S n)), some (.ref a), some (.ref r), u, some (.str (S (wholeM lib (ps.take j) ++ sub1 lib (c :: t')))), some (.int (at_ : Nat)), some (.int (kk : Nat))] ∧ HX = H', ?_, ?_⟩
        · refine ⟨_, rfl, _, rfl, _, _, c, rfl, rfl, by omega, by omega, hc, _, _, rfl, rfl, _, rfl, if2 (fun a1 => ?_) (fun a1 => ?_)⟩
          · have a1' : c = 64 := by simpa using a1
            obtain ⟨d, hd⟩ := l4 (by rw [a1']; rfl)
            cases hd
            obtain ⟨x, hx⟩ := lib64 _ (mem_at etk) rfl
            have hx' : lib d = some x := hx
            have es : sub1 lib [64, d] = x := by show (if _ then _ else _) = x; rw [if_pos (show [64, d].head? = some 64 from rfl), hx]; rfl
            have g5 := hL3.get d
            rw [hx'] at g5
            have hc2 : n[at_ + 1]? = some d := by rw [← en, List.getElem?_append_right (by omega), eat, Nat.add_sub_cancel_left]; rfl
            rw [es]
            rw [es] at wl2
            have at1 : at_ + 1 < n.length := (List.getElem?_eq_some_iff.mp hc2).1
            exact ⟨_, rfl, _, rfl, _, rfl, _, rfl, _, _, rfl, rfl, _, _, d, rfl, rfl, by omega, by omega, hc2, a, _, rfl, g5, _, _, rfl, rfl, by omega, rfl, rfl⟩
          · have a1' : ¬ c = 64 := by simpa using a1
            have es : sub1 lib (c :: t') = c :: t' := by show (if _ then _ else _) = _; rw [if_neg (by simpa using a1')]
            rw [es]
            rw [es] at wl2
            and_intros
            refine ⟨show (0 : Int) ≤ (at_ : Nat) by omega, ?_⟩
            rw [emax]
            have ecu : cutL n (some ((at_ : Nat) : Int)) (some (((at_ : Nat) : Int) + (((c :: t').length : Nat) : Int))) = c :: t' := by
              have e : ((at_ : Nat) : Int) + (((c :: t').length : Nat) : Int) = ((at_ + (c :: t').length : Nat) : Int) := by omega
              rw [e, cutL_mid, List.drop_take, Nat.add_sub_cancel_left]
              exact hcut
            rw [ecu]
            exact ⟨show (0 : Int) ≤ ((at_ : Nat) : Int) + (((c :: t').length : Nat) : Int) by omega, _, _, rfl, rfl, by omega, rfl, rfl⟩
        · rintro σ' H5 ⟨rfl, rfl⟩
          and_intros
          rw [emax]
          exact ⟨_, by rw [Int.natCast_add]; rfl, rfl⟩
      · have h1' : ¬ ((ps.take j).flatten.length : Int) < (n.length : Nat) := of_decide_eq_false h1
        have hjl : j = ps.length := by
          refine Nat.le_antisymm hj (Nat.le_of_not_lt fun z => ?_)
          have edr : ps.drop j = ps[j] :: ps.drop (j + 1) := List.drop_eq_getElem_cons z
          have := (tok_len (et _ (List.getElem_mem z))).1
          rw [edr, List.flatten_cons, List.length_append] at enl
          omega
        subst hjl
        rw [List.take_length]
        have wl := wlen ps.length
        rw [List.take_length] at wl
        refine ⟨_, rfl, wholeM lib ps, rfl, by omega, fun j ej e60 H4 p4 s4 => ?_, fun i ei => ?_, fun j ej e60 => ?_⟩
        · exact ⟨_, rfl, k5 its j er hm ej e60 H4 (sA.trans s4)⟩
        · exact fun H4 d s4 hd => k3 its i er hm ei H4 d (sA.trans s4) hd
        · exact fun H4 d s4 hd => k4 its j er hm ej e60 H4 d (sA.trans s4) hd
/-! ### the box -/
def spTake : Sp := fun vs H Q _ => ∃ (b l : Addr) (n : Int), vs = [.ref b, .int n] ∧ Box H b l ∧ 0 < n ∧ n ≤ 2 ^ 100 ∧ ∀ (H' : Hp) (r : Int), Kp [b, l] H H' → Box H' b l → 0 ≤ r → r < n → Q (.int r) H'
abbrev s_take : Stmt := top 24
theorem sc_take : FnScope ["_law_box_here", "_law_size", "_law_cell", "_law_digit"] ["_law_box_here", "_law_size"] (defScope s_take) := ⟨rfl, rfl, rfl, by decide +kernel, rfl, by decide +kernel, by decide +kernel⟩
theorem ok_take (T : TX K mg) {f : Addr} {fd : FuncData} (F : FnP K "_law_take" s_take f fd) : FnOk P w K mg base (CX P w) 1 f fd ["_law_box_here", "_law_size"] spTake := by
  refine F.ok sc_take (fun vs H Q E h => ?_) (fun cdv A outer s H vs Q E hr h => ?_)
  · obtain ⟨b, l, n, rfl, _⟩ := h
    rfl
  · obtain ⟨b, l, n, rfl, B, hn, hn2, k⟩ := h
    obtain ⟨ne, cs, x, y, hb, hl, hx, hy, hy2⟩ := B
    refine ⟨_, (C8.pss_cut (ps_if (PW.pt (pw_and (pt_cmpR op_eq (pe_ix ix_list (pv 0) pe_int (fun _ _ => rfl)) pe_int (nomark _)) (pw_and1 (pt_cmpR (op_neD hr.units) (pe_ix ix_list (pv 0) pe_int (fun _ _ => rfl)) (pe_lst pa_nil) (nomark _))))) (pss_cons (ps_set (i := 2) sc_take.nd rfl (Or.inl rfl) (pe_bm PySem.F.plainAttrs_list PySem.F.slot_list_pop PySem.F.type_list_pop mt_popAt (pe_ix ix_list (pv 0) pe_int (fun _ _ => rfl)) (pa_cons pe_int pa_nil))) (pss_one (ps_if (pt_cmpR op_ge (pv 2) (pe_op op_pow pe_int pe_int) (nomark _)) (pss_one (ps_asg (pe_op op_sub (pv 2) (pe_op op_pow pe_int pe_int)) (pg_sub (pv 0) pe_int set_list))) (pss_one (ps_asg (pe_op op_mod (pe_callTy call_int1 (by rfl) T.b_int (by decide +kernel) (pa_cons (pe_op op_add (pe_op op_mul (pe_ix ix_list (pv 0) pe_int (fun _ _ => rfl)) pe_int) (pe_op op_mul (pv 2) pe_int)) pa_nil)) pe_int) (pg_sub (pv 0) pe_int set_list)))))) pss_nil) (pss_cons (ps_if (pt_cmpR op_gt (pe_ix ix_list (pv 0) pe_int (fun _ _ => rfl)) pe_int (nomark _)) (pss_cons (ps_set (i := 3) sc_take.nd rfl (Or.inl rfl) (pe_op op_mod (pe_callTy call_int1 (by rfl) T.b_int (by decide +kernel) (pa_cons (pe_ix ix_list (pv 0) pe_int (fun _ _ => rfl)) pa_nil)) (pv 1))) (pss_cons (ps_asg (pe_op op_fdivW (pe_ix ix_list (pv 0) pe_int (fun _ _ => rfl)) (pv 1)) (pg_sub (pv 0) pe_int set_list)) (pss_one (ps_ret (pv 3))))) pss_nil) (pss_cons (ps_asg (pe_op op_mod (pe_callTy call_int1 (by rfl) T.b_int (by decide +kernel) (pa_cons (pe_op op_mul (pe_ix ix_list (pv 0) pe_int (fun _ _ => rfl)) pe_int) pa_nil)) pe_int) (pg_sub (pv 0) pe_int set_list)) (pss_one (ps_ret (pe_op op_mod (pe_callTy call_int1 (by rfl) T.b_int (by decide +kernel) (pa_cons (pe_op op_fdivW (pe_ix ix_list (pv 0) pe_int (fun _ _ => rfl)) pe_int) pa_nil)) (pv 1))))))), ?_⟩
    refine ⟨fun σ' H' => ∃ (u v : Option V) (cs : List Int) (x y : Int), σ' = [some (.ref b), some (.int n), u, v] ∧ Kp [b, l] H H' ∧ H' b = some (.lst [.ref l, .int x, .int y]) ∧ H' l = some (.lst (cs.map V.int)) ∧ 0 ≤ x ∧ 0 ≤ y ∧ y < 2147483647, ?_, ?_⟩
    · refine ⟨_, rfl, b, _, 1, _, rfl, rfl, SqL.of hb, rfl, rfl, _, rfl, ?_⟩
      refine if2 (fun c => ?_) (fun c => ?_)
      · rw [dI] at c
        have x0 : x = 0 := of_decide_eq_true c
        refine ⟨_, rfl, b, _, 0, _, rfl, rfl, SqL.of hb, rfl, Nat.zero_le _, fun p hp => ?_⟩
        have nl : l ≠ p := ne_of_none hl hp
        have nb : b ≠ p := ne_of_none hb hp
        cases cs with
        | nil =>
          refine ⟨_, _, .lst (SqL.of (by rw [upd_ne nl]; exact hl)) .nil, .lst (SqL.of upd_same) .nil, rfl, rfl, _, rfl, ?_⟩
          refine iff' (by rfl) ?_
          exact ⟨none, none, [], x, y, rfl, Kp.refl.new hp, by rw [upd_ne nb]; exact hb, by rw [upd_ne nl]; exact hl, hx, hy, hy2⟩
        | cons c0 cs =>
          refine ⟨_, _, .lst (SqL.of (by rw [upd_ne nl]; exact hl)) (dpInts (c0 :: cs)), .lst (SqL.of upd_same) .nil, shInts (c0 :: cs), rfl, _, rfl, ?_⟩
          refine ift (by rfl) ?_
          refine ⟨_, rfl, b, _, 0, _, rfl, rfl, SqL.of (by rw [upd_ne nb]; exact hb), rfl, tyL (by rw [upd_ne nl]; exact hl), ?_⟩
          refine ⟨l, _, 0, 0, .int c0, rfl, rfl, (by rw [upd_ne nl]; exact hl), by decide, by decide, six0 (by simp), rfl, ?_⟩
          have hb1 : upd (upd H p (.lst [])) l (.lst (cs.map V.int)) b = some (.lst [.ref l, .int x, .int y]) := by rw [upd_ne ne, upd_ne nb]; exact hb
          have hl1 : upd (upd H p (.lst [])) l (.lst (cs.map V.int)) l = some (.lst (cs.map V.int)) := upd_same
          have k1 : Kp [b, l] H (upd (upd H p (.lst [])) l (.lst (cs.map V.int))) := (Kp.refl.new hp).upd (by simp)
          refine ⟨_, rfl, 10, 18, rfl, rfl, ⟨by decide, by decide, by decide⟩, _, _, rfl, rfl, _, rfl, ?_⟩
          refine if2 (fun c => ?_) (fun c => ?_)
          · have hc : (10 : Int) ^ 18 ≤ c0 := of_decide_eq_true c
            refine ⟨_, rfl, 10, 18, rfl, rfl, ⟨by decide, by decide, by decide⟩, _, _, rfl, rfl, _, rfl, b, _, 1, 1, rfl, rfl, hb1, rfl, ?_⟩
            exact ⟨_, none, cs, _, y, rfl, k1.upd (by simp), upd_same, by rw [upd_ne ne.symm]; exact hl1, (show (0 : Int) ≤ c0 - 10 ^ 18 by omega), hy, hy2⟩
          · refine ⟨_, rfl, b, _, 2, _, rfl, rfl, SqL.of hb1, rfl, _, _, rfl, rfl, .inr ⟨by decide, by decide⟩, _, rfl, _, _, rfl, rfl, .inr ⟨by decide, by decide⟩, _, _, rfl, rfl, .inl ⟨_, rfl, _, _, rfl, rfl, (show (0 : Int) < 2147483647 by decide), _, rfl, b, _, 2, 2, rfl, rfl, hb1, rfl, ?_⟩⟩
            exact ⟨_, none, cs, x, _, rfl, k1.upd (by simp), upd_same, by rw [upd_ne ne.symm]; exact hl1, hx, Int.emod_nonneg _ (by decide), Int.emod_lt_of_pos _ (by decide)⟩
      · refine iff' rfl ?_
        exact ⟨none, none, cs, x, y, rfl, Kp.refl, hb, hl, hx, hy, hy2⟩
    · rintro σ' H' ⟨u, v, cs, x, y, rfl, kp, hb, hl, hx, hy, hy2⟩
      refine ⟨_, rfl, b, _, 1, _, rfl, rfl, SqL.of hb, rfl, _, _, rfl, rfl, _, rfl, ?_⟩
      refine if2 (fun c => ?_) (fun c => ?_)
      · have hc : (0 : Int) < x := of_decide_eq_true c
        refine ⟨_, rfl, b, _, 1, _, rfl, rfl, SqL.of hb, rfl, .inl ⟨_, rfl, _, rfl, _, _, rfl, rfl, hn, ?_⟩⟩
        refine ⟨_, rfl, b, _, 1, _, rfl, rfl, SqL.of hb, rfl, _, rfl, _, _, rfl, rfl, wide_div (b := 200) hn ?_ (by decide) (by decide), _, rfl, b, _, 1, 1, rfl, rfl, hb, rfl, _, rfl, ?_⟩
        · omega
        · exact k _ _ (kp.upd (by simp)) ⟨ne, cs, _, y, upd_same, by rw [upd_ne ne.symm]; exact hl, Int.ediv_nonneg hx (by omega), hy, hy2⟩ (Int.emod_nonneg _ (by omega)) (Int.emod_lt_of_pos _ hn)
      · refine ⟨_, rfl, b, _, 2, _, rfl, rfl, SqL.of hb, rfl, _, _, rfl, rfl, .inr ⟨by decide, by decide⟩, .inl ⟨_, rfl, _, _, rfl, rfl, (show (0 : Int) < 2147483647 by decide), _, rfl, b, _, 2, 2, rfl, rfl, hb, rfl, ?_⟩⟩
        refine ⟨_, rfl, b, _, 2, _, rfl, rfl, SqL.of upd_same, rfl, _, _, rfl, rfl, ⟨by decide, by decide⟩, .inl ⟨_, rfl, _, rfl, _, _, rfl, rfl, hn, ?_⟩⟩
        exact k _ _ (kp.upd (by simp)) ⟨ne, cs, x, _, upd_same, by rw [upd_ne ne.symm]; exact hl, hx, Int.emod_nonneg _ (by decide), Int.emod_lt_of_pos _ (by decide)⟩ (Int.emod_nonneg _ (by omega)) (Int.emod_lt_of_pos _ hn)
def spSigns : Sp := fun vs H Q _ => vs = [] ∧ Q (.str (S sgn)) H
abbrev s_signs : Stmt := top 22
theorem sc_signs : FnScope ["_law_signs_here"] [] (defScope s_signs) := ⟨rfl, rfl, rfl, by decide +kernel, rfl, by decide +kernel, by decide +kernel⟩
theorem ok_signs  {f : Addr} {fd : FuncData} (F : FunD K "_law_signs" "_law_signs" (defArgs s_signs) (defBody s_signs) (defScope s_signs) [] [] f fd) : FnOk P w K mg base (CX P w) 1 f fd [] spSigns := by
  refine F.ok sc_signs (fun vs H Q E h => ?_) (fun cdv A outer s H vs Q E hr h => ?_)
  · obtain ⟨rfl, _⟩ := h
    rfl
  · obtain ⟨rfl, k⟩ := h
    refine ⟨_, (pss_cons (ps_set (i := 0) sc_signs.nd rfl (Or.inl rfl) (pe_strS [10, 32, 33, 34, 35, 36, 38, 39, 40, 41, 42, 43, 44, 45, 46, 47, 48, 49, 50, 51, 52, 53, 54, 55, 56, 57, 58, 59, 60, 61, 62, 63, 64, 65, 66, 67, 68, 69, 70, 71, 72, 73, 74, 75, 76, 77, 78, 79, 80, 81, 82, 83, 84, 85, 86, 87, 88, 89, 90, 91, 92, 93, 94, 95, 96] (by decide +kernel))) (pss_one (ps_ret (pe_op op_addS (pv 0) (pe_strS [97, 98, 99, 100, 101, 102, 103, 104, 105, 106, 107, 108, 109, 110, 111, 112, 113, 114, 115, 116, 117, 118, 119, 120, 121, 122, 123, 124, 125, 126] (by decide +kernel)))))), ?_⟩
    exact ⟨_, rfl, _, _, rfl, rfl, by decide, k⟩
def spBox (K : PySem.W.Frag) : Sp := fun vs H Q _ => ∃ (a : Addr) (ns : List Int), vs = [.ref a] ∧ SqL K H a (ns.map V.int) ∧ ∀ H' b l, Same H H' → H b = none → H l = none → Box H' b l → Q (.ref b) H'
abbrev s_box : Stmt := top 23
theorem sc_box : FnScope ["_law_script"] ["_law_script"] (defScope s_box) := ⟨rfl, rfl, rfl, by decide +kernel, rfl, by decide +kernel, by decide +kernel⟩
theorem ok_box (T : TX K mg) {f : Addr} {fd : FuncData} (F : FnP K "_law_box" s_box f fd) : FnOk P w K mg base (CX P w) 1 f fd ["_law_script"] (spBox K) := by
  refine F.ok sc_box (fun vs H Q E h => ?_) (fun cdv A outer s H vs Q E hr h => ?_)
  · obtain ⟨a, ns, rfl, _⟩ := h
    rfl
  · obtain ⟨a, ns, rfl, hS, k⟩ := h
    refine ⟨_, (pss_one (ps_ret (pe_lst (pa_cons (pe_callTy call_list_of (by rfl) T.b_list (by decide +kernel) (pa_cons (pv 0) pa_nil)) (pa_cons pe_int (pa_cons pe_int pa_nil)))))), ?_⟩
    refine ⟨_, rfl, a, _, rfl, .inl hS, fun l hl => ⟨(show 3 ≤ sizeLine by decide), fun b hb => ?_⟩⟩
    have ne : l ≠ b := fun q => by rw [q, upd_same] at hb; cases hb
    have hb' : H b = none := by rw [upd_ne ne.symm] at hb; exact hb
    exact k _ b l (Same.new (Same.new (Same.refl H) hl) hb) hb' hl ⟨ne.symm, ns, 0, 0, upd_same, by rw [upd_ne ne]; exact upd_same, by decide, by decide, by decide⟩
/-! ### the law's own reading -/
abbrev mkN (gs : List Nat) : List V := gs.reverse.map fun g => V.str (S [g])
theorem mkN_cons (g : Nat) (gs : List Nat) : mkN (g :: gs) = mkN gs ++ [V.str (S [g])] := by simp [mkN]
def foN : Option Nat → Int
  | none => -1
  | some i => (i : Nat)
theorem sc_one {i c : Nat} {t gs : List Nat} {em : Bool} (h1 : c ∉ plk) (h2 : c ∉ sgk) : sc false i (c :: t) gs em none = (
    if c = 40 ∨ c = 91 then (if gs.length = 8 then some i else sc false (i + 1) t (c :: gs) true none)
    else match gs with
      | [] => some i
      | g :: r => if c = 41 ∧ g = 40 ∧ em = false then sc false (i + 1) t r false none
        else if c = 124 ∧ g = 91 ∧ em = false then sc false (i + 1) t (124 :: r) em none
        else if c = 93 ∧ g = 124 then sc false (i + 1) t r false none else some i) := by
  rw [sc_cons, if_neg h1, if_neg (fun z => by rcases z with z | z; exact h2 z; cases z.1)]
  all_goals (cases gs <;> rfl)
/-- the state of the law's machine -/
structure Sn (n : List Nat) (i : Nat) (gs : List Nat) (em sk : Bool) : Prop where
  ex : ∃ pe : Option Nat, sk = pe.isSome ∧ (∀ c, pe = some c → c ≠ 64) ∧ sc false i (n.drop i) gs em pe = scn false n
  l8 : gs.length ≤ 8
  br : ∀ g ∈ gs, g ∈ sgn
theorem ixN_last (xs : List V) (v : V) : ixN (xs ++ [v]).length (-1) = some xs.length := by
  unfold ixN
  rw [if_neg (by decide), if_pos (by simp; omega)]
  simp; omega
def spLFault : Sp := fun vs H Q _ => ∃ n : List Nat, vs = [.str (S n)] ∧ n.length ≤ 50000 ∧ ∀ H', Same H H' → Q (.int (foN (scn false n))) H'
def lastN (gs : List Nat) : List Nat := match gs with | [] => [] | g :: _ => [g]
abbrev s_lfault : Stmt := top 27
theorem sc_lfault : FnScope ["_law_notation", "_law_groups", "_law_empty", "_law_skip", "_law_at", "_law_sign", "_law_last"] ["_law_notation"] (defScope s_lfault) := ⟨rfl, rfl, rfl, by decide +kernel, rfl, by decide +kernel, by decide +kernel⟩
theorem ok_lfault (T : TX K mg) (c__law_signs : KCal P w K mg base 1 "_law_signs" spSigns []) {f : Addr} {fd : FuncData} (F : FunD K "_law_fault" "_law_fault" (defArgs s_lfault) (defBody s_lfault) (defScope s_lfault) [] [] f fd) : FnOk P w K mg base (CX P w) 2 f fd ["_law_notation"] spLFault := by
  refine F.ok sc_lfault (fun vs H Q E h => ?_) (fun cdv A outer s H vs Q E hr h => ?_)
  · obtain ⟨n, rfl, _⟩ := h
    rfl
  · obtain ⟨n, rfl, hn, kq⟩ := h
    refine ⟨_, (pss_cons (ps_set (i := 1) sc_lfault.nd rfl (Or.inl rfl) (pe_lst pa_nil)) (pss_cons (ps_set (i := 2) sc_lfault.nd rfl (Or.inl rfl) pe_bl) (pss_cons (ps_set (i := 3) sc_lfault.nd rfl (Or.inl rfl) pe_bl) (pss_cons (ps_for (passes_of rfl) rfl (pi_range1 (by rfl) T.b_range (pa_cons (pe_callB call_lenS (by rfl) T.b_len PySem.boot_len (pa_cons (pv 0) pa_nil)) pa_nil)) (pg_name (i := 4) sc_lfault.nd rfl (Or.inl rfl)) (pss_cons (ps_set (i := 5) sc_lfault.nd rfl (Or.inl rfl) (pe_ix ix_S (pv 0) (pv 4) (fun _ _ => rfl))) (pss_cons (ps_set (i := 6) sc_lfault.nd rfl (Or.inl rfl) (pe_strS [] (by decide +kernel))) (C8.pss_cut (ps_if (pt_cmpR (op_neD hr.units) (pv 1) (pe_lst pa_nil) (nomark _)) (pss_one (ps_set (i := 6) sc_lfault.nd rfl (Or.inl rfl) (pe_ix ix_list (pv 1) (pe_un un_neg pe_int) (fun _ _ => rfl)))) pss_nil) (pss_one (ps_if (pt_val (pv 3)) (pss_cons (ps_if (pt_cmpR op_notInS (pv 5) (kc0 c__law_signs hr (by decide) rfl) rfl) (pss_one (ps_ret (pv 4))) pss_nil) (pss_cons (ps_set (i := 3) sc_lfault.nd rfl (Or.inl rfl) pe_bl) (pss_one (ps_set (i := 2) sc_lfault.nd rfl (Or.inl rfl) pe_bl)))) (pss_one (ps_if (pt_cmpR op_inS (pv 5) (pe_strS [39, 61, 47] (by decide +kernel)) rfl) (pss_one (ps_set (i := 3) sc_lfault.nd rfl (Or.inl rfl) pe_bl)) (pss_one (ps_if (pt_cmpR op_inS (pv 5) (pe_strS [62, 120, 119, 110, 36, 94, 109, 98, 107, 99, 112] (by decide +kernel)) rfl) (pss_one (ps_set (i := 2) sc_lfault.nd rfl (Or.inl rfl) pe_bl)) (pss_one (ps_if (pt_cmpR op_inS (pv 5) (pe_strS [40, 91] (by decide +kernel)) rfl) (pss_cons (ps_if (pt_cmpR op_eq (pe_callB call_len_seq (by rfl) T.b_len PySem.boot_len (pa_cons (pv 1) pa_nil)) pe_int (nomark _)) (pss_one (ps_ret (pv 4))) pss_nil) (pss_cons (ps_expr (pe_bm PySem.F.plainAttrs_list PySem.F.slot_list_append PySem.F.type_list_append mt_append (pv 1) (pa_cons (pv 5) pa_nil))) (pss_one (ps_set (i := 2) sc_lfault.nd rfl (Or.inl rfl) pe_bl)))) (pss_one (ps_if (pt_cut (PW.pt (pw_or (PW.pt (pw_and (pt_cmpR op_eqS (pv 5) (pe_strS [41] (by decide +kernel)) (nomark _)) (pw_and (pt_cmpR op_eqS (pv 6) (pe_strS [40] (by decide +kernel)) (nomark _)) (pw_and1 (pt_not (pt_val (pv 2))))))) (pw_or1 (PW.pt (pw_and (pt_cmpR op_eqS (pv 5) (pe_strS [93] (by decide +kernel)) (nomark _)) (pw_and1 (pt_cmpR op_eqS (pv 6) (pe_strS [124] (by decide +kernel)) (nomark _))))))))) (pss_cons (ps_expr (pe_bm0 PySem.F.plainAttrs_list PySem.F.slot_list_pop PySem.F.type_list_pop mt_pop (pv 1))) (pss_one (ps_set (i := 2) sc_lfault.nd rfl (Or.inl rfl) pe_bl))) (pss_one (ps_if (pt_cut (PW.pt (pw_and (pt_cmpR op_eqS (pv 5) (pe_strS [124] (by decide +kernel)) (nomark _)) (pw_and (pt_cmpR op_eqS (pv 6) (pe_strS [91] (by decide +kernel)) (nomark _)) (pw_and1 (pt_not (pt_val (pv 2)))))))) (pss_one (ps_asg (pe_strS [124] (by decide +kernel)) (pg_sub (pv 1) (pe_un un_neg pe_int) set_list))) (pss_one (ps_ret (pv 4))))))))))))))))))) (pss_cons (ps_if (pt_cut (PW.pt (pw_or (pt_val (pv 3)) (pw_or1 (pt_cmpR (op_neD hr.units) (pv 1) (pe_lst pa_nil) (nomark _)))))) (pss_one (ps_ret (pe_callB call_lenS (by rfl) T.b_len PySem.boot_len (pa_cons (pv 0) pa_nil)))) pss_nil) (pss_one (ps_ret (pe_un un_neg pe_int)))))))), ?_⟩
    and_intros
    intro gp hgp
    and_intros
    have eN : ∀ (gs : List Nat) (H1 : Hp), (∀ g ∈ gs, g ∈ sgn) → H1 gp = some (.lst (mkN gs)) → ∀ (σ' : L2.St) (hσ : σ'[1]? = some (some (V.ref gp))) (Q : V → Hp → Prop), (∀ H2, Same H1 H2 → Q (.bl (!gs.isEmpty)) H2) → tOp (rNeD K) (tVar 1) (tLst tNil) σ' H1 Q := fun gs H1 hb h1 σ' hσ Q q => by
      refine ⟨_, hσ, (show 0 ≤ sizeLine by decide), fun t0 ht0 => ?_⟩
      have s0 := sNew (o := .lst []) (Same.refl H1) ht0
      have em : mkN gs = (gs.reverse.map fun g => [g]).map tV := by simp [mkN]
      refine ⟨_, _, .lst (SqL.of (s0 _ _ h1)) (by rw [em]; exact dpTx _), .lst (SqL.of upd_same) .nil, shTx (by simpa using hb), rfl, ?_⟩
      rw [eqvL_nil]
      have := q _ s0
      have e2 : (!(((gs.reverse.map fun g => [g])).map tD).isEmpty) = !gs.isEmpty := by cases gs <;> simp
      rw [← e2] at this
      exact this
    refine for_range (fun i σ' H' => ∃ (u4 u5 u6 : Option V) (em sk : Bool) (gs : List Nat), σ' = [some (.str (S n)), some (.ref gp), some (.bl em), some (.bl sk), u4, u5, u6] ∧ H' gp = some (.lst (mkN gs)) ∧ Same H H' ∧ Sn n i gs em sk) ?_ ?_ ?_
    · exact ⟨_, _, _, true, false, [], rfl, upd_same, sNew (Same.refl H) hgp, ⟨⟨none, rfl, (fun c z => by cases z), rfl⟩, by simp, by simp⟩⟩
    · rintro i σ' H1 hi ⟨u4, u5, u6, em, sk, gs, rfl, hg1, s1, ⟨⟨pe, epe, hpe, esc⟩, l8, hbr⟩⟩
      have hi' : i < n.length := by simpa using hi
      have e0 : ((0 : Int) + (i : Nat)) = ((i : Nat) : Int) := by omega
      rw [e0]
      have hc : n[i]? = some n[i] := List.getElem?_eq_getElem hi'
      have hd : n.drop i = n[i] :: n.drop (i + 1) := List.drop_eq_getElem_cons hi'
      generalize n[i] = c at hc hd
      rw [hd] at esc
      have out : scn false n = some i → ∀ H', Same H1 H' → Q (.int (i : Nat)) H' := fun e H' s' => by
        have := kq H' (s1.trans s')
        rw [e] at this
        exact this
      and_intros
      refine ⟨fun σ' H' => σ' = [some (.str (S n)), some (.ref gp), some (.bl em), some (.bl sk), some (.int (i : Nat)), some (.str (S [c])), some (.str (S (lastN gs)))] ∧ Same H1 H', ?_, ?_⟩
      · refine eN gs H1 hbr hg1 _ rfl _ fun H2 s2 => ?_
        refine ⟨_, rfl, ?_⟩
        cases gs with
        | nil => exact iff' rfl ⟨rfl, s2⟩
        | cons g r =>
          have hg2 := s2 _ _ hg1
          rw [mkN_cons] at hg2
          exact ift rfl ⟨_, rfl, 1, rfl, gp, _, -1, _, rfl, rfl, SqL.of hg2, atI_last _ _, rfl, s2⟩
      rintro σ' H2 ⟨rfl, s2⟩
      have hg2 := s2 _ _ hg1
      have s12 := s1.trans s2
      have hml : (mkN gs).length = gs.length := by simp [mkN]
      and_intros
      cases pe with
      | some c0 =>
        obtain rfl : sk = true := epe
        rw [sc_pend, if_neg (hpe c0 rfl)] at esc
        refine ift rfl ?_
        and_intros
        refine if2 (fun a1 => ?_) (fun a1 => ?_)
        · have a1' : c ∉ sgn := by simpa using a1
          rw [if_neg a1'] at esc
          exact ⟨_, rfl, out esc.symm H2 s2⟩
        · have a1' : c ∈ sgn := by simpa using a1
          rw [if_pos a1'] at esc
          exact ⟨_, _, _, false, false, gs, rfl, hg2, s12, ⟨⟨none, rfl, (fun c z => by cases z), esc⟩, l8, hbr⟩⟩
      | none =>
        obtain rfl : sk = false := epe
        refine iff' rfl ?_
        and_intros
        refine if2 (fun a1 => ?_) (fun a1 => ?_)
        · have a1' : c ∈ [39, 61, 47] := of_decide_eq_true a1
          have a2 : c ∈ sgk := a1'
          rw [sc_cons, if_neg (fun z => plk_not (ca := false) z (.inl a2)), if_pos (.inl a2)] at esc
          refine ⟨_, _, _, em, true, gs, rfl, hg2, s12, ⟨⟨some c, rfl, (fun c' z => ?_), esc⟩, l8, hbr⟩⟩
          cases z
          rintro rfl
          exact absurd a2 (by decide)
        · have a1' : c ∉ sgk := of_decide_eq_false a1
          and_intros
          refine if2 (fun a2 => ?_) (fun a2 => ?_)
          · have a2' : c ∈ plk := of_decide_eq_true a2
            rw [sc_cons, if_pos a2'] at esc
            exact ⟨_, _, _, false, false, gs, rfl, hg2, s12, ⟨⟨none, rfl, (fun c z => by cases z), esc⟩, l8, hbr⟩⟩
          · have a2' : c ∉ plk := of_decide_eq_false a2
            rw [sc_one a2' a1'] at esc
            and_intros
            refine if2 (fun a3 => ?_) (fun a3 => ?_)
            · have a3' : c ∈ [40, 91] := of_decide_eq_true a3
              have a3c : c = 40 ∨ c = 91 := by simpa using a3'
              rw [if_pos a3c] at esc
              and_intros
              rw [dI, hml]
              refine if2 (fun a4 => ?_) (fun a4 => ?_)
              · have a4' : (gs.length : Int) = 8 := of_decide_eq_true a4
                rw [if_pos (by omega)] at esc
                exact ⟨_, rfl, out esc.symm H2 s2⟩
              · have a4' : ¬ (gs.length : Int) = 8 := of_decide_eq_false a4
                rw [if_neg (by omega)] at esc
                and_intros
                refine ⟨_, _, _, true, false, c :: gs, rfl, by rw [upd_same, mkN_cons], sMut s12 hgp, ⟨⟨none, rfl, (fun c z => by cases z), esc⟩, by simp; omega, fun g hg => ?_⟩⟩
                rcases List.mem_cons.mp hg with rfl | hg
                · rcases a3c with rfl | rfl <;> decide
                · exact hbr g hg
            · have a3' : c ∉ [40, 91] := of_decide_eq_false a3
              have a3c : ¬ (c = 40 ∨ c = 91) := by simpa using a3'
              rw [if_neg a3c] at esc
              refine ⟨Ans H2 ((c = 41 ∧ lastN gs = [40] ∧ em = false) ∨ (c = 93 ∧ lastN gs = [124])), ?_, if3 (fun hc => ?_) (fun hc => ?_)⟩
              · refine ⟨_, rfl, _, _, rfl, rfl, _, rfl, if2 (fun b1 => ?_) (fun b1 => ?_)⟩
                · have b1' : c = 41 := by simpa using b1
                  have n93 : ¬ c = 93 := by omega
                  have fin : tTest (tOp (rEqS false) (tVar 5) (tC (V.str (S [93])))) [some (V.str (S n)), some (V.ref gp), some (V.bl em), some (V.bl false), some (V.int (i : Nat)), some (V.str (S [c])), some (V.str (S (lastN gs)))] H2 (fun b H' => b = false ∧ H' = H2) := ⟨_, rfl, _, _, rfl, rfl, _, rfl, by simpa using n93, rfl⟩
                  refine ⟨_, rfl, _, _, rfl, rfl, _, rfl, if2 (fun b2 => ?_) (fun b2 => ?_)⟩
                  · have b2' : lastN gs = [40] := by simpa using b2
                    refine ⟨_, rfl, em, rfl, ?_⟩
                    cases em with
                    | false => exact ift rfl (ansT (.inl ⟨b1', b2', rfl⟩))
                    | true =>
                      refine iff' rfl ⟨_, rfl, _, _, rfl, rfl, _, rfl, iff' (by simpa using n93) (ansF fun z => ?_)⟩
                      rcases z with z | z
                      · cases z.2.2
                      · exact n93 z.1
                  · have b2' : ¬ lastN gs = [40] := by simpa using b2
                    refine ⟨_, rfl, _, _, rfl, rfl, _, rfl, iff' (by simpa using n93) (ansF fun z => ?_)⟩
                    rcases z with z | z
                    · exact b2' z.2.1
                    · exact n93 z.1
                · have b1' : ¬ c = 41 := by simpa using b1
                  refine ⟨_, rfl, _, _, rfl, rfl, _, rfl, if2 (fun b2 => ?_) (fun b2 => ?_)⟩
                  · have b2' : c = 93 := by simpa using b2
                    refine ⟨_, rfl, _, _, rfl, rfl, _, rfl, rfl, ?_⟩
                    show decide (lastN gs = [124]) = true ↔ _
                    simp [b1', b2']
                  · have b2' : ¬ c = 93 := by simpa using b2
                    refine ansF fun z => ?_
                    rcases z with z | z
                    · exact b1' z.1
                    · exact b2' z.1
              · cases gs with
                | nil =>
                  rcases hc with hc | hc
                  · exact absurd hc.2.1 (by simp [lastN])
                  · exact absurd hc.2 (by simp [lastN])
                | cons g r =>
                  have hc' : (c = 41 ∧ g = 40 ∧ em = false) ∨ (c = 93 ∧ g = 124) := by simpa [lastN] using hc
                  have esc' : sc false (i + 1) (n.drop (i + 1)) r false none = scn false n := by
                    dsimp only at esc
                    by_cases q : c = 41 ∧ g = 40 ∧ em = false
                    · rw [if_pos q] at esc; exact esc
                    · rcases hc' with h | h
                      · exact absurd h q
                      · rw [if_neg q, if_neg (fun z => by omega), if_pos h] at esc; exact esc
                  rw [mkN_cons] at hg2
                  have hlast : (mkN r ++ [V.str (S [g])])[(mkN r ++ [V.str (S [g])]).length - 1]? = some (V.str (S [g])) := by simp
                  refine ⟨_, rfl, tyL hg2, gp, _, _, rfl, rfl, hg2, hlast, ?_⟩
                  rw [List.dropLast_concat]
                  exact ⟨_, _, _, false, false, r, rfl, upd_same, sMut s12 hgp, ⟨⟨none, rfl, (fun c z => by cases z), esc'⟩, by simp at l8; omega, fun x hx => hbr x (List.mem_cons_of_mem _ hx)⟩⟩
              · refine ⟨Ans H2 (c = 124 ∧ lastN gs = [91] ∧ em = false), ?_, if3 (fun hc2 => ?_) (fun hc2 => ?_)⟩
                · refine ⟨_, rfl, _, _, rfl, rfl, _, rfl, if2 (fun b1 => ?_) (fun b1 => ?_)⟩
                  · have b1' : c = 124 := by simpa using b1
                    refine ⟨_, rfl, _, _, rfl, rfl, _, rfl, if2 (fun b2 => ?_) (fun b2 => ?_)⟩
                    · have b2' : lastN gs = [91] := by simpa using b2
                      refine ⟨_, rfl, em, rfl, rfl, ?_⟩
                      simp [b1', b2']
                    · have b2' : ¬ lastN gs = [91] := by simpa using b2
                      exact ansF fun z => b2' z.2.1
                  · have b1' : ¬ c = 124 := by simpa using b1
                    exact ansF fun z => b1' z.1
                · cases gs with
                  | nil => exact absurd hc2.2.1 (by simp [lastN])
                  | cons g r =>
                    have hc' : c = 124 ∧ g = 91 ∧ em = false := by simpa [lastN] using hc2
                    dsimp only at esc
                    rw [if_neg (fun z => by omega), if_pos hc'] at esc
                    rw [mkN_cons] at hg2
                    refine ⟨_, rfl, 1, rfl, gp, _, -1, (mkN r).length, rfl, rfl, hg2, ?_, ?_⟩
                    · exact ixN_last _ _
                    · rw [List.set_append_right _ _ (Nat.le_refl _), Nat.sub_self]
                      refine ⟨_, _, _, em, false, 124 :: r, rfl, by rw [upd_same, mkN_cons]; rfl, sMut s12 hgp, ⟨⟨none, rfl, (fun c z => by cases z), esc⟩, by simpa using l8, fun x hx => ?_⟩⟩
                      rcases List.mem_cons.mp hx with rfl | hx
                      · decide
                      · exact hbr x (List.mem_cons_of_mem _ hx)
                · refine ⟨_, rfl, out ?_ H2 s2⟩
                  cases gs with
                  | nil => exact esc.symm
                  | cons g r =>
                    have h1 : ¬ ((c = 41 ∧ g = 40 ∧ em = false) ∨ (c = 93 ∧ g = 124)) := by simpa [lastN] using hc
                    have h2 : ¬ (c = 124 ∧ g = 91 ∧ em = false) := by simpa [lastN] using hc2
                    dsimp only at esc
                    rw [if_neg (fun z => h1 (.inl z)), if_neg h2, if_neg (fun z => h1 (.inr z))] at esc
                    exact esc.symm
    · rintro σ' H1 ⟨u4, u5, u6, em, sk, gs, rfl, hg1, s1, ⟨⟨pe, epe, hpe, esc⟩, l8, hbr⟩⟩
      have e0 : n.drop (n.length : Int).toNat = [] := by simp
      have e1 : (n.length : Int).toNat = n.length := by simp
      rw [e0, e1] at esc
      refine ⟨AnsS H1 (pe.isSome = true ∨ gs ≠ []), ?_, if3S (fun H2 s2 hc => ?_) (fun H2 s2 hc => ?_)⟩
      · refine ⟨_, rfl, sk, rfl, ?_⟩
        cases pe with
        | some c0 =>
          obtain rfl : sk = true := epe
          exact ift rfl (ansST (Same.refl _) (.inl rfl))
        | none =>
          obtain rfl : sk = false := epe
          refine iff' rfl ?_
          refine eN gs H1 hbr hg1 _ rfl _ fun H2 s2 => ⟨_, rfl, s2, ?_⟩
          cases gs <;> simp
      · have e2 : scn false n = some n.length := by
          rw [← esc]
          cases pe with
          | some c0 => cases gs <;> rfl
          | none =>
            cases gs with
            | nil => rcases hc with hc | hc; cases hc; exact absurd rfl hc
            | cons g r => rfl
        have := kq H2 (s1.trans s2)
        rw [e2] at this
        exact ⟨_, rfl, _, rfl, by omega, this⟩
      · have e2 : scn false n = none := by
          rw [← esc]
          cases pe with
          | some c0 => exact absurd (.inl rfl) hc
          | none =>
            cases gs with
            | nil => rfl
            | cons g r => exact absurd (.inr (by simp)) hc
        have := kq H2 (s1.trans s2)
        rw [e2] at this
        exact ⟨1, rfl, this⟩
def spLSplit : Sp := fun vs H Q _ => ∃ n : List Nat, vs = [.str (S n)] ∧ n.length ≤ 50000 ∧ ∀ H' l, Same H H' → H l = none → H' l = some (.lst ((spl n none).map tV)) → Q (.ref l) H'
/-- the parts so far, and what waits -/
structure Sx (n : List Nat) (i : Nat) (ps : List (List Nat)) (sk : Bool) : Prop where
  ex : ∃ pe : Option Nat, sk = pe.isSome ∧ (∀ c, pe = some c → ∃ q, ps = q ++ [[c]] ∧ q ++ spl (n.drop i) pe = spl n none) ∧ (pe = none → ps ++ spl (n.drop i) none = spl n none)
  le : ps.length ≤ i
abbrev s_lsplit : Stmt := top 29
theorem sc_lsplit : FnScope ["_law_notation", "_law_parts", "_law_skip", "_law_sign"] ["_law_notation"] (defScope s_lsplit) := ⟨rfl, rfl, rfl, by decide +kernel, rfl, by decide +kernel, by decide +kernel⟩
theorem ok_lsplit (T : TX K mg) {f : Addr} {fd : FuncData} (F : FunD K "_law_split" "_law_split" (defArgs s_lsplit) (defBody s_lsplit) (defScope s_lsplit) [] [] f fd) : FnOk P w K mg base (CX P w) 1 f fd ["_law_notation"] spLSplit := by
  refine F.ok sc_lsplit (fun vs H Q E h => ?_) (fun cdv A outer s H vs Q E hr h => ?_)
  · obtain ⟨n, rfl, _⟩ := h
    rfl
  · obtain ⟨n, rfl, hn, kq⟩ := h
    refine ⟨_, (pss_cons (ps_set (i := 1) sc_lsplit.nd rfl (Or.inl rfl) (pe_lst pa_nil)) (pss_cons (ps_set (i := 2) sc_lsplit.nd rfl (Or.inl rfl) pe_bl) (pss_cons (ps_for (passes_of rfl) rfl (pi_str (pv 0)) (pg_name (i := 3) sc_lsplit.nd rfl (Or.inl rfl)) (pss_one (ps_if (pt_val (pv 2)) (pss_cons (ps_asg (pe_op op_addS (pe_ix ix_list (pv 1) (pe_un un_neg pe_int) (fun _ _ => rfl)) (pv 3)) (pg_sub (pv 1) (pe_un un_neg pe_int) set_list)) (pss_one (ps_set (i := 2) sc_lsplit.nd rfl (Or.inl rfl) pe_bl))) (pss_cons (ps_expr (pe_bm PySem.F.plainAttrs_list PySem.F.slot_list_append PySem.F.type_list_append mt_append (pv 1) (pa_cons (pv 3) pa_nil))) (pss_one (ps_set (i := 2) sc_lsplit.nd rfl (Or.inl rfl) (pe_cmpR op_inS (pv 3) (pe_strS [39, 61, 47, 64] (by decide +kernel)) rfl))))))) (pss_one (ps_ret (pv 1)))))), ?_⟩
    and_intros
    intro gp hgp
    and_intros
    refine for_it walk_str (fun i σ' H' => ∃ (u3 : Option V) (sk : Bool) (ps : List (List Nat)), σ' = [some (.str (S n)), some (.ref gp), some (.bl sk), u3] ∧ H' gp = some (.lst (ps.map tV)) ∧ Same H H' ∧ Sx n i ps sk) ?_ (fun _ _ _ _ _ => trivial) ?_ ?_
    · exact ⟨_, false, [], rfl, upd_same, sNew (Same.refl H) hgp, ⟨⟨none, rfl, (fun c z => by cases z), fun _ => rfl⟩, by simp⟩⟩
    · rintro i x σ' H1 H2 hi ⟨u3, sk, ps, rfl, hg1, s1, ⟨⟨pe, epe, h1, h2⟩, hle⟩⟩ ⟨rfl, c, hc1, rfl⟩
      have hx : n[i]? = some c := by simpa [S] using hc1
      have hil := (List.getElem?_eq_some_iff.mp hx).1
      have hd : n.drop i = c :: n.drop (i + 1) := by
        rw [List.drop_eq_getElem_cons hil, (List.getElem?_eq_some_iff.mp hx).2]
      have hpl : (ps.map tV).length = ps.length := List.length_map ..
      refine ⟨_, rfl, sk, rfl, ?_⟩
      cases pe with
      | some c0 =>
        obtain rfl : sk = true := epe
        obtain ⟨q, rfl, eq⟩ := h1 c0 rfl
        rw [hd, spl] at eq
        rw [List.map_append] at hg1
        refine ift rfl ?_
        refine ⟨_, rfl, 1, rfl, gp, _, -1, _, rfl, rfl, SqL.of hg1, atI_last _ _, _, rfl, _, _, rfl, rfl, by simp, _, rfl, 1, rfl, gp, _, -1, _, rfl, rfl, hg1, ixN_last _ _, ?_⟩
        rw [List.set_append_right _ _ (Nat.le_refl _), Nat.sub_self]
        refine ⟨_, false, q ++ [[c0, c]], rfl, by rw [upd_same, List.map_append]; rfl, sMut s1 hgp, ⟨⟨none, rfl, (fun c z => by cases z), fun _ => ?_⟩, by simp at hle ⊢; omega⟩⟩
        rw [List.append_assoc]; exact eq
      | none =>
        obtain rfl : sk = false := epe
        have eq := h2 rfl
        rw [hd, spl] at eq
        refine iff' rfl ?_
        refine ⟨_, rfl, tyL hg1, _, rfl, gp, _, _, rfl, rfl, hg1, ltSz (by rw [hpl]; omega), ?_⟩
        have eg : ps.map tV ++ [V.str ⟨#[c]⟩] = (ps ++ [[c]]).map tV := by simp [S]
        rw [eg]
        refine ⟨_, rfl, c, _, rfl, rfl, ?_⟩
        by_cases hc : c ∈ fst4
        · rw [if_pos hc] at eq
          refine ⟨some (.str (S [c])), true, ps ++ [[c]], ?_, upd_same, sMut s1 hgp, ⟨⟨some c, rfl, (fun c' z => ?_), fun z => by cases z⟩, by simp; omega⟩⟩
          · rw [show (if false = true then !decide (c ∈ [39, 61, 47, 64]) else decide (c ∈ [39, 61, 47, 64])) = true from decide_eq_true hc]; rfl
          · cases z
            exact ⟨ps, rfl, eq⟩
        · rw [if_neg hc] at eq
          refine ⟨some (.str (S [c])), false, ps ++ [[c]], ?_, upd_same, sMut s1 hgp, ⟨⟨none, rfl, (fun c' z => by cases z), fun z => ?_⟩, by simp; omega⟩⟩
          · rw [show (if false = true then !decide (c ∈ [39, 61, 47, 64]) else decide (c ∈ [39, 61, 47, 64])) = false from decide_eq_false hc]; rfl
          · rw [List.append_assoc]; exact eq
    · rintro σ' H1 ⟨u3, sk, ps, rfl, hg1, s1, ⟨⟨pe, epe, h1, h2⟩, hle⟩⟩
      have e0 : n.drop (S n).cps.size = [] := by simp [S]
      rw [e0] at h1 h2
      refine ⟨_, rfl, kq H1 gp s1 hgp ?_⟩
      rw [hg1]
      cases pe with
      | none => rw [← h2 rfl]; simp [spl]
      | some c =>
        obtain ⟨q, e1, e2⟩ := h1 c rfl
        rw [e1, ← e2]; rfl
structure TY68 (K : PySem.W.Frag) (mg : Str → Option Value) : Prop where
  gK : mg "KeyreelError" = some (.ref (ga K "KeyreelError"))
  gD : mg "DeskError" = some (.ref (ga K "DeskError"))
  k1 : PySem.W.kitOne K (.ref (ga K "UnknownName")) (.ref (ga K "DeskError")) = some true
  k2 : PySem.W.kitOne K (.ref (ga K "UnknownName")) (.ref (ga K "KeyreelError")) = some true
  e1 : PySem.W.exmOne K (.ref (ga K "InvalidRecording")) (.ref (ga K "InvalidRecording")) = some true
  e2 : PySem.W.exmOne K (.ref (ga K "TooManyKeys")) (.ref (ga K "InvalidRecording")) = some false
  e3 : PySem.W.exmOne K (.ref (ga K "TooManyKeys")) (.ref (ga K "TooManyKeys")) = some true
  e4 : PySem.W.exmOne K (.ref (ga K "UnknownName")) (.ref (ga K "InvalidRecording")) = some false
  e5 : PySem.W.exmOne K (.ref (ga K "UnknownName")) (.ref (ga K "TooManyKeys")) = some false
  e6 : PySem.W.exmOne K (.ref (ga K "UnknownName")) (.ref (ga K "UnknownName")) = some true
structure XK2 (mg : Str → Option Value) (x : Str) (C : Addr) : Prop where
  gC : mg x = some (.ref C)
/-- what is told -/
inductive Rs
  | text (t : List Nat) | place (i : Nat) | keys | name (d : Nat)
def Rs.v : Rs → List V
  | .text t => [.str (S [116, 101, 120, 116]), .str (S t)]
  | .place i => [.str (S [112, 108, 97, 99, 101]), .int (i : Nat)]
  | .keys => [.str (S [107, 101, 121, 115]), .int 60]
  | .name d => [.str (S [110, 97, 109, 101]), .str (S [d])]
def ansM (lib : Nat → Option (List Nat)) (n : List Nat) : Rs := match scn true n with
  | some i => .place i
  | none => match miss lib (spl n none) with
    | some d => .name d
    | none => match scn false (wholeM lib (spl n none)) with
      | some i => .place i
      | none => if 60 < ((spl (wholeM lib (spl n none)) none).filter fun x => !isBr x).length then .keys else .text (wholeM lib (spl n none))
def spLAsked : Sp := fun vs H Q _ => ∃ (n : List Nat) (a : Addr) (lib : Nat → Option (List Nat)), vs = [.str (S n), .ref a] ∧ LibAt H a lib ∧ LibOk lib ∧ n.length ≤ 200 ∧ ∀ H' p, Same H H' → H' p = some (.tup (ansM lib n).v) → Q (.ref p) H'
abbrev s_lasked : Stmt := top 28
theorem sc_lasked : FnScope ["_law_notation", "_law_library", "e"] ["_law_notation", "_law_library"] (defScope s_lasked) := ⟨rfl, rfl, rfl, by decide +kernel, rfl, by decide +kernel, by decide +kernel⟩
theorem ok_lasked (T : TX K mg) (Y : TY68 K mg) (x_InvalidRecording : Ex1 P w K mg base "InvalidRecording" "place" (ga K "InvalidRecording")) (x_TooManyKeys : Ex1 P w K mg base "TooManyKeys" "limit" (ga K "TooManyKeys")) (x_UnknownName : Ex1 P w K mg base "UnknownName" "name" (ga K "UnknownName")) (c_expand : KCal P w K mg base 11 "expand" (spExpand K) []) {f : Addr} {fd : FuncData} (F : FunD K "_law_asked" "_law_asked" (defArgs s_lasked) (defBody s_lasked) (defScope s_lasked) [] [] f fd) : FnOk P w K mg base (CX P w) 12 f fd ["_law_notation", "_law_library"] spLAsked := by
  have x_KeyreelError : XK2 mg "KeyreelError" (ga K "KeyreelError") := ⟨Y.gK⟩; have x_DeskError : XK2 mg "DeskError" (ga K "DeskError") := ⟨Y.gD⟩
  refine F.ok sc_lasked (fun vs H Q E h => ?_) (fun cdv A outer s H vs Q E hr h => ?_)
  · obtain ⟨n, a, lib, rfl, _⟩ := h
    rfl
  · obtain ⟨n, a, lib, rfl, hL, hO, hn, kq⟩ := h
    refine ⟨_, (pss_one (ps_tryMy (Wout := fun cls d _ H => E cls d H) rfl rfl sc_lasked.nd (takes_of rfl rfl rfl rfl) (fun W pn xe tk ps => (pss_one (ps_ret (pe_tup (pa_cons (pe_strS [116, 101, 120, 116] (by decide +kernel)) (pa_cons (kx c_expand tk hr (by decide) rfl (pa_cons (pv 0) (pa_cons (pv 1) pa_nil))) pa_nil)))))) (HdMy.named (i := 2) ⟨rfl, by decide, Or.inl x_InvalidRecording.gC⟩ rfl rfl (fun a oe cls d pn hz hf => (pss_one (ps_ret (pe_tup (pa_cons (pe_strS [112, 108, 97, 99, 101] (by decide +kernel)) (pa_cons (pe_xf x_InvalidRecording.xf x_InvalidRecording.no hz hf (pv 2)) pa_nil)))))) (HdMy.named (i := 2) ⟨rfl, by decide, Or.inl x_TooManyKeys.gC⟩ rfl rfl (fun a oe cls d pn hz hf => (pss_one (ps_ret (pe_tup (pa_cons (pe_strS [107, 101, 121, 115] (by decide +kernel)) (pa_cons (pe_xf x_TooManyKeys.xf x_TooManyKeys.no hz hf (pv 2)) pa_nil)))))) (HdMy.named (i := 2) ⟨rfl, by decide, Or.inl x_UnknownName.gC⟩ rfl rfl (fun a oe cls d pn hz hf => (pss_cons (ps_if (pt_cut (PW.pt (pw_or (pt_not (pt_val (pe_callB (call_isX hz hf) (by rfl) T.b_isinstance (by decide +kernel) (pa_cons (pv 2) (pa_cons (pe_gR x_DeskError.gC rfl) pa_nil))))) (pw_or1 (pt_not (pt_val (pe_callB (call_isX hz hf) (by rfl) T.b_isinstance (by decide +kernel) (pa_cons (pv 2) (pa_cons (pe_gR x_KeyreelError.gC rfl) pa_nil))))))))) (pss_one (ps_ret (pe_tup (pa_cons (pe_strS [111, 116, 104, 101, 114] (by decide +kernel)) (pa_cons (pe_strS [] (by decide +kernel)) pa_nil))))) pss_nil) (pss_one (ps_ret (pe_tup (pa_cons (pe_strS [110, 97, 109, 101] (by decide +kernel)) (pa_cons (pe_xf x_UnknownName.xf x_UnknownName.no hz hf (pv 2)) pa_nil))))))) HdMy.nil))))), ?_⟩
    refine ⟨_, rfl, _, rfl, n, a, lib, rfl, hL, hO, hn, fun i er => ?_, fun its d er hm => ?_, fun its i er hm er2 => ?_, fun its j er hm er2 h60 => ?_, fun its j er hm er2 h60 H1 s1 => ?_⟩
    · have ea : ansM lib n = .place i := by unfold ansM; rw [(read_scn true n).1 i er]
      rw [ea] at kq
      intro H1 dd s1 hd
      refine ⟨true, Y.e1, fun _ a0 ha0 => ?_, fun z => Bool.noConfusion z⟩
      refine ⟨_, rfl, rfl, rfl, dd, _, _, rfl, upd_same, rfl, (show 2 ≤ sizeLine by decide), fun p hp => ?_⟩
      exact kq _ p (sNew (sNew s1 hd) hp) upd_same
    · have ea : ansM lib n = .name d := by unfold ansM; rw [(read_scn true n).2 its er]; dsimp only; rw [hm]
      rw [ea] at kq
      intro H1 dd s1 hd
      refine ⟨false, Y.e4, fun z => Bool.noConfusion z, fun _ => ⟨false, Y.e5, fun z => Bool.noConfusion z, fun _ => ⟨true, Y.e6, fun _ a0 ha0 => ?_, fun z => Bool.noConfusion z⟩⟩⟩
      refine ⟨Ans (upd H1 dd (.xd [("name", .str (S [d]))])) False, ?_, if3 (fun z => z.elim) (fun _ => ?_)⟩
      · refine ⟨_, rfl, _, _, true, _, dd, _, rfl, rfl, rfl, x_UnknownName.ec, upd_same, fun u h => h, Y.k1, _, rfl, ?_⟩
        refine ⟨_, rfl, _, _, true, _, dd, _, rfl, rfl, rfl, x_UnknownName.ec, upd_same, fun u h => h, Y.k2, _, rfl, ?_⟩
        exact ⟨rfl, by simp⟩
      · refine ⟨_, rfl, rfl, rfl, dd, _, _, rfl, upd_same, rfl, (show 2 ≤ sizeLine by decide), fun p hp => ?_⟩
        exact kq _ p (sNew (sNew s1 hd) hp) upd_same
    · have ea : ansM lib n = .place i := by unfold ansM; rw [(read_scn true n).2 its er]; dsimp only; rw [hm]; dsimp only; rw [(read_scn false _).1 i er2]
      rw [ea] at kq
      intro H1 dd s1 hd
      refine ⟨true, Y.e1, fun _ a0 ha0 => ?_, fun z => Bool.noConfusion z⟩
      refine ⟨_, rfl, rfl, rfl, dd, _, _, rfl, upd_same, rfl, (show 2 ≤ sizeLine by decide), fun p hp => ?_⟩
      exact kq _ p (sNew (sNew s1 hd) hp) upd_same
    · have ea : ansM lib n = .keys := by
        unfold ansM; rw [(read_scn true n).2 its er]; dsimp only; rw [hm]; dsimp only; rw [(read_scn false _).2 j er2]; dsimp only
        rw [if_pos (by rw [← (read_keysT er2).1]; exact h60)]
      rw [ea] at kq
      intro H1 dd s1 hd
      refine ⟨false, Y.e2, fun z => Bool.noConfusion z, fun _ => ⟨true, Y.e3, fun _ a0 ha0 => ?_, fun z => Bool.noConfusion z⟩⟩
      refine ⟨_, rfl, rfl, rfl, dd, _, _, rfl, upd_same, rfl, (show 2 ≤ sizeLine by decide), fun p hp => ?_⟩
      exact kq _ p (sNew (sNew s1 hd) hp) upd_same
    · have ea : ansM lib n = .text (wholeM lib (spl n none)) := by
        unfold ansM; rw [(read_scn true n).2 its er]; dsimp only; rw [hm]; dsimp only; rw [(read_scn false _).2 j er2]; dsimp only
        rw [if_neg (by rw [← (read_keysT er2).1]; omega)]
      rw [ea] at kq
      exact ⟨(show 2 ≤ sizeLine by decide), fun p hp => kq _ p (sNew s1 hp) upd_same⟩
def spLDue68 : Sp := fun vs H Q _ => ∃ (n : List Nat) (a : Addr) (lib : Nat → Option (List Nat)), vs = [.str (S n), .ref a] ∧ LibAt H a lib ∧ LibOk lib ∧ n.length ≤ 200 ∧ ∀ H' p, Same H H' → H' p = some (.tup (ansM lib n).v) → Q (.ref p) H'
abbrev s_ldue68 : Stmt := top 30
theorem sc_ldue68 : FnScope ["_law_notation", "_law_library", "_law_parts", "_law_plain", "_law_part", "_law_place", "_law_whole"] ["_law_notation", "_law_library"] (defScope s_ldue68) := ⟨rfl, rfl, rfl, by decide +kernel, rfl, by decide +kernel, by decide +kernel⟩
theorem ok_ldue68 (T : TX K mg) (c__law_split : KCal P w K mg base 1 "_law_split" spLSplit []) (c__law_fault : KCal P w K mg base 2 "_law_fault" spLFault []) {f : Addr} {fd : FuncData} (F : FunD K "_law_due" "_law_due" (defArgs s_ldue68) (defBody s_ldue68) (defScope s_ldue68) [] [] f fd) : FnOk P w K mg base (CX P w) 3 f fd ["_law_notation", "_law_library"] spLDue68 := by
  refine F.ok sc_ldue68 (fun vs H Q E h => ?_) (fun cdv A outer s H vs Q E hr h => ?_)
  · obtain ⟨n, a, lib, rfl, _⟩ := h
    rfl
  · obtain ⟨n, a, lib, rfl, hL, hO, hn, kq⟩ := h
    refine ⟨_, (pss_cons (ps_set (i := 2) sc_ldue68.nd rfl (Or.inl rfl) (kc c__law_split hr (by decide) rfl (pa_cons (pv 0) pa_nil))) (pss_cons (ps_set (i := 3) sc_ldue68.nd rfl (Or.inl rfl) (pe_strS [] (by decide +kernel))) (pss_cons (ps_for (passes_of rfl) rfl (pi_list (pv 2)) (pg_name (i := 4) sc_ldue68.nd rfl (Or.inl rfl)) (pss_one (ps_if (pt_cut (PW.pt (pw_and (pt_cmpR op_eqS (pe_ix ix_S (pv 4) pe_int (fun _ _ => rfl)) (pe_strS [64] (by decide +kernel)) (nomark _)) (pw_and (pt_cmpR op_eq (pe_callB call_lenS (by rfl) T.b_len PySem.boot_len (pa_cons (pv 4) pa_nil)) pe_int (nomark _)) (pw_and1 (pt_cmpR op_inS (pe_ix ix_S (pv 4) pe_int (fun _ _ => rfl)) (pe_strS [97, 98, 99, 100, 101, 102, 103, 104, 105, 106, 107, 108, 109, 110, 111, 112, 113, 114, 115, 116, 117, 118, 119, 120, 121, 122] (by decide +kernel)) rfl)))))) (pss_one (ps_set (i := 3) sc_ldue68.nd rfl (Or.inl rfl) (pe_op op_addS (pv 3) (pe_strS [39, 97] (by decide +kernel))))) (pss_one (ps_set (i := 3) sc_ldue68.nd rfl (Or.inl rfl) (pe_op op_addS (pv 3) (pv 4))))))) (pss_cons (ps_set (i := 5) sc_ldue68.nd rfl (Or.inl rfl) (kc c__law_fault hr (by decide) rfl (pa_cons (pv 3) pa_nil))) (C8.pss_cut (ps_if (pt_cut (PW.pt (pw_and (pt_cmpR op_ge (pv 5) pe_int (nomark _)) (pw_and1 (pt_cmpR op_eqS (pe_slice sl_S (pv 3) (po_some (pv 5)) (po_some (pe_op op_add (pv 5) pe_int))) (pe_strS [64] (by decide +kernel)) (nomark _)))))) (pss_one (ps_set (i := 5) sc_ldue68.nd rfl (Or.inl rfl) (pe_op op_add (pv 5) pe_int))) pss_nil) (pss_cons (ps_if (pt_cmpR op_ge (pv 5) pe_int (nomark _)) (pss_one (ps_ret (pe_tup (pa_cons (pe_strS [112, 108, 97, 99, 101] (by decide +kernel)) (pa_cons (pv 5) pa_nil))))) pss_nil) (pss_cons (ps_for (passes_of rfl) rfl (pi_list (pv 2)) (pg_name (i := 4) sc_ldue68.nd rfl (Or.inl rfl)) (pss_one (ps_if (pt_cut (PW.pt (pw_and (pt_cmpR op_eqS (pe_ix ix_S (pv 4) pe_int (fun _ _ => rfl)) (pe_strS [64] (by decide +kernel)) (nomark _)) (pw_and1 (pt_cmp (pc_dnotin (hu_of hr) (pe_ix ix_S (pv 4) pe_int (fun _ _ => rfl)) (pv 1))))))) (pss_one (ps_ret (pe_tup (pa_cons (pe_strS [110, 97, 109, 101] (by decide +kernel)) (pa_cons (pe_ix ix_S (pv 4) pe_int (fun _ _ => rfl)) pa_nil))))) pss_nil))) (pss_cons (ps_set (i := 6) sc_ldue68.nd rfl (Or.inl rfl) (pe_join0 (pe_strS [] (by decide +kernel)) (pe_lc (own := [("_law_part", 4)]) rfl sc_ldue68.nd (pi_list (pv 2)) (blkOk_by (own := [("_law_part", 4)]) (N := ["_law_notation", "_law_library", "_law_parts", "_law_plain", "_law_part", "_law_place", "_law_whole"]) (sc := defScope s_ldue68) (by decide +kernel)) (fun _ _ _ _ _ => (pg_name (i := 4) sc_ldue68.nd rfl (Or.inl rfl))) (fun _ _ _ _ _ => pts_nil) (fun _ _ _ _ _ => (pe_ifExp (pt_cmpR op_eqS (pe_ix ix_S (pv 4) pe_int (fun _ _ => rfl)) (pe_strS [64] (by decide +kernel)) (nomark _)) (pe_dget (hu_of hr) (pv 1) (pe_ix ix_S (pv 4) pe_int (fun _ _ => rfl)) (fun _ _ => rfl)) (pv 4)))))) (pss_cons (ps_if (pt_cmpR op_ge (kc c__law_fault hr (by decide) rfl (pa_cons (pv 6) pa_nil)) pe_int (nomark _)) (pss_one (ps_ret (pe_tup (pa_cons (pe_strS [112, 108, 97, 99, 101] (by decide +kernel)) (pa_cons (kc c__law_fault hr (by decide) rfl (pa_cons (pv 6) pa_nil)) pa_nil))))) pss_nil) (pss_cons (ps_if (pt_cmpR op_gt (pe_callB call_len_seq (by rfl) T.b_len PySem.boot_len (pa_cons (pe_lc (own := [("_law_part", 4)]) rfl sc_ldue68.nd (pi_list (kc c__law_split hr (by decide) rfl (pa_cons (pv 6) pa_nil))) (blkOk_by (own := [("_law_part", 4)]) (N := ["_law_notation", "_law_library", "_law_parts", "_law_plain", "_law_part", "_law_place", "_law_whole"]) (sc := defScope s_ldue68) (by decide +kernel)) (fun _ _ _ _ _ => (pg_name (i := 4) sc_ldue68.nd rfl (Or.inl rfl))) (fun _ _ _ _ _ => (pts_one (pt_cmpR op_notInB (pv 4) (pe_strS [40, 91, 124, 93, 41] (by decide +kernel)) rfl))) (fun _ _ _ _ _ => (pv 4))) pa_nil)) pe_int (nomark _)) (pss_one (ps_ret (pe_tup (pa_cons (pe_strS [107, 101, 121, 115] (by decide +kernel)) (pa_cons pe_int pa_nil))))) pss_nil) (pss_one (ps_ret (pe_tup (pa_cons (pe_strS [116, 101, 120, 116] (by decide +kernel)) (pa_cons (pv 6) pa_nil))))))))))))))), ?_⟩
    refine ⟨_, rfl, n, rfl, by omega, fun H1 pl s1 hpl hp1 => ?_⟩
    have hpart := spl_part n none (fun _ z => by cases z)
    have hpsl := (spl_len n none).2 rfl
    have sf := scn_plain n
    generalize eps : spl n none = ps at *
    have hxl : (ps.map tV).length = ps.length := List.length_map ..
    have pl2 : ∀ t ∈ ps, 1 ≤ t.length ∧ t.length ≤ 2 := fun t ht => by
      rcases hpart t ht with ⟨c, rfl⟩ | ⟨c, d, rfl, _⟩ <;> simp
    have plen : ∀ i, (plM (ps.take i)).length ≤ 400 := fun i => by
      have h1 := flat_le (f := pl1) (m := 2) (ps := ps.take i) fun t ht => by
        unfold pl1
        split
        · simp
        · exact (pl2 t (List.mem_of_mem_take ht)).2
      have h2 : (ps.take i).length ≤ ps.length := by rw [List.length_take]; omega
      show ((ps.take i).map pl1).flatten.length ≤ 400
      omega
    refine ⟨_, rfl, pl, rfl, ⟨_, SqL.of hp1⟩, ?_⟩
    refine for_list (xs := ps.map tV) (fun i σ' H' => ∃ (u4 : Option V), σ' = [some (.str (S n)), some (.ref a), some (.ref pl), some (.str (S (plM (ps.take i)))), u4, none, none] ∧ H' = H1) ?_ ?_ ?_ ?_
    · exact ⟨none, rfl, rfl⟩
    · rintro i σ' H2 hi ⟨u, rfl, rfl⟩
      exact SqL.of hp1
    · rintro i x σ' H2 hx ⟨u, rfl, eH⟩
      rw [List.getElem?_map] at hx
      cases e : ps[i]? with
      | none => rw [e] at hx; cases hx
      | some t =>
        rw [e] at hx
        have ex : x = .str (S t) := by cases hx; rfl
        subst ex
        have wl := plen i
        have wl2 := plen (i + 1)
        have ew : plM (ps.take (i + 1)) = plM (ps.take i) ++ pl1 t := by unfold plM; rw [take_snoc e]; simp
        rw [ew]
        rw [ew, List.length_append] at wl2
        obtain ⟨l1, l2⟩ := pl2 t (mem_at e)
        obtain ⟨c, t', rfl⟩ : ∃ c t', t = c :: t' := by cases t with | nil => simp at l1 | cons c t' => exact ⟨c, t', rfl⟩
        refine ⟨Ans H2 ((c :: t').length = 2 ∧ (c :: t').head? = some 64 ∧ (c :: t').getD 1 0 ∈ ltr), ?_, if3 (fun hc => ?_) (fun hc => ?_)⟩
        · refine ⟨_, rfl, _, _, c, rfl, rfl, by simp at l2 ⊢; omega, by decide, rfl, _, _, rfl, rfl, _, rfl, if2 (fun a1 => ?_) (fun a1 => ?_)⟩
          · have a1' : c = 64 := by simpa using a1
            refine ⟨_, rfl, _, rfl, by omega, rfl, _, rfl, ?_⟩
            rw [dI]
            refine if2 (fun a2 => ?_) (fun a2 => ?_)
            · have a2' : ((c :: t').length : Int) = 2 := of_decide_eq_true a2
              obtain ⟨d, rfl⟩ : ∃ d, t' = [d] := by
                cases t' with
                | nil => simp at a2'
                | cons d r => cases r with
                  | nil => exact ⟨d, rfl⟩
                  | cons => simp at a2'; omega
              refine ⟨_, rfl, _, _, d, rfl, rfl, by simp, by decide, rfl, _, _, rfl, rfl, _, rfl, ?_⟩
              refine ⟨rfl, ?_⟩
              show decide (d ∈ ltr) = true ↔ _
              simp [a1']
            · have a2' : ¬ ((c :: t').length : Int) = 2 := of_decide_eq_false a2
              exact ansF fun z => a2' (by have := z.1; omega)
          · have a1' : ¬ c = 64 := by simpa using a1
            exact ansF fun z => a1' (by simpa using z.2.1)
        · have e1 : pl1 (c :: t') = [39, 97] := by unfold pl1; rw [if_pos hc]
          rw [e1]
          rw [e1] at wl2
          exact ⟨_, rfl, _, _, rfl, rfl, by omega, _, rfl, eH⟩
        · have e1 : pl1 (c :: t') = c :: t' := by unfold pl1; rw [if_neg hc]
          rw [e1]
          rw [e1] at wl2
          exact ⟨_, rfl, _, rfl, _, _, rfl, rfl, by omega, _, rfl, eH⟩
    · rintro σ' H2 ⟨u4, rfl, eH⟩
      subst eH
      rw [hxl, List.take_length]
      have wl := plen ps.length
      rw [List.take_length] at wl
      refine ⟨_, rfl, _, rfl, by omega, fun H3 s3 => ?_⟩
      have s13 := s1.trans s3
      have hp3 := s3 _ _ hp1
      refine ⟨fun σ' H' => σ' = [some (.str (S n)), some (.ref a), some (.ref pl), some (.str (S (plM ps))), u4, some (.int (foN (scn true n))), none] ∧ H' = H3, ?_, ?_⟩
      · obtain ⟨sfn, sfs⟩ := sf
        cases et : scn true n with
        | none =>
          rw [sfn et]
          refine ⟨Ans H3 False, ?_, if3 (fun z => z.elim) (fun _ => ?_)⟩
          · exact ⟨_, rfl, _, _, rfl, rfl, _, rfl, iff' (by decide) (ansF fun z => z)⟩
          · exact ⟨rfl, rfl⟩
        | some k =>
          obtain ⟨p, e1, e2, e3⟩ := sfs k et
          rw [e1]
          have ecu : cutL (plM ps) (some ((p : Nat) : Int)) (some (((p : Nat) : Int) + 1)) = [64] ↔ (plM ps)[p]? = some 64 := by
            have e : ((p : Nat) : Int) + 1 = ((p + 1 : Nat) : Int) := by omega
            rw [e, cutL_mid, List.drop_take, Nat.add_sub_cancel_left]
            by_cases hp : p < (plM ps).length
            · rw [List.drop_eq_getElem_cons hp, List.getElem?_eq_getElem hp]
              show [(plM ps)[p]] = [64] ↔ _
              simp
            · rw [List.drop_eq_nil_of_le (by omega), List.getElem?_eq_none (by omega)]; simp
          refine ⟨Ans H3 ((plM ps)[p]? = some 64), ?_, if3 (fun hc => ?_) (fun hc => ?_)⟩
          · refine ⟨_, rfl, _, _, rfl, rfl, _, rfl, ift (decide_eq_true (show (0 : Int) ≤ (p : Nat) by omega)) ?_⟩
            refine ⟨_, rfl, _, rfl, _, rfl, _, rfl, _, _, rfl, rfl, _, rfl, _, rfl, by omega, (show (0 : Int) ≤ (p : Nat) by omega), (show (0 : Int) ≤ (p : Nat) + 1 by omega), _, _, rfl, rfl, _, rfl, rfl, ?_⟩
            show decide (cutL (plM ps) (some ((p : Nat) : Int)) (some (((p : Nat) : Int) + 1)) = [64]) = true ↔ _
            rw [decide_eq_true_iff]; exact ecu
          · rcases e3 with e3 | e3
            · exact absurd (by simpa using hc) e3.1
            · refine ⟨_, rfl, _, _, rfl, rfl, ?_, rfl⟩
              rw [e3.2]; rfl
          · rcases e3 with e3 | e3
            · rw [e3.2]; exact ⟨rfl, rfl⟩
            · exact absurd (by simpa using e3.1) hc
      · rintro σ' H4 ⟨rfl, rfl⟩
        cases et : scn true n with
        | some k =>
          have ea : ansM lib n = .place k := by unfold ansM; rw [et]
          rw [ea] at kq
          refine ⟨_, rfl, _, _, rfl, rfl, _, rfl, ift (decide_eq_true (show (0 : Int) ≤ (k : Nat) by omega)) ?_⟩
          exact ⟨_, rfl, (show 2 ≤ sizeLine by decide), fun p hp => kq _ p (sNew s13 hp) upd_same⟩
        | none =>
          have tok : ∀ t ∈ ps, tokOk true t := by
            cases er : read true n with
            | inl i => rw [(read_scn true n).1 i er] at et; cases et
            | inr its => rw [← eps]; exact (read_keysT er).2
          have hL3 := hL.same s13
          refine ⟨_, rfl, _, _, rfl, rfl, _, rfl, iff' (by decide) ?_⟩
          refine ⟨_, rfl, pl, rfl, ⟨_, SqL.of hp3⟩, ?_⟩
          refine for_list (xs := ps.map tV) (fun i σ' H' => ∃ (u4 : Option V), σ' = [some (.str (S n)), some (.ref a), some (.ref pl), some (.str (S (plM ps))), u4, some (.int (foN none)), none] ∧ H' = H4 ∧ ∀ (j : Nat) t, j < i → ps[j]? = some t → ¬ (t.head? = some 64 ∧ lib (t.getD 1 0) = none)) ?_ ?_ ?_ ?_
          · exact ⟨u4, rfl, rfl, fun j t hj => by omega⟩
          · rintro i σ' H5 hi ⟨u, rfl, rfl, _⟩
            exact SqL.of hp3
          · rintro i x σ' H5 hx ⟨u, rfl, eH, h3⟩
            rw [List.getElem?_map] at hx
            cases e : ps[i]? with
            | none => rw [e] at hx; cases hx
            | some t =>
              rw [e] at hx
              have ex : x = .str (S t) := by cases hx; rfl
              subst ex
              subst eH
              obtain ⟨l1, l2, l3, l4⟩ := tok_len (tok t (mem_at e))
              obtain ⟨c, t', rfl⟩ : ∃ c t', t = c :: t' := by cases t with | nil => simp at l1 | cons c t' => exact ⟨c, t', rfl⟩
              refine ⟨Ans H5 (c = 64 ∧ lib ((c :: t').getD 1 0) = none), ?_, if3 (fun hc => ?_) (fun hc => ?_)⟩
              · refine ⟨_, rfl, _, _, c, rfl, rfl, by simp at l2 ⊢; omega, by decide, rfl, _, _, rfl, rfl, _, rfl, if2 (fun a1 => ?_) (fun a1 => ?_)⟩
                · have a1' : c = 64 := by simpa using a1
                  obtain ⟨d, hd⟩ := l4 (by rw [a1']; rfl)
                  cases hd
                  refine ⟨_, rfl, _, _, d, rfl, rfl, by simp, by decide, rfl, _, rfl, a, _, rfl, hL3.get d, ?_⟩
                  refine ⟨_, rfl, rfl, ?_⟩
                  show (!((lib d).map fun t => V.str (S t)).isSome) = true ↔ _
                  have eg : lib ([64, d].getD 1 0) = lib d := rfl
                  rw [eg]
                  cases lib d <;> simp
                · have a1' : ¬ c = 64 := by simpa using a1
                  exact ansF fun z => a1' z.1
              · obtain ⟨c1, c2⟩ := hc
                obtain ⟨d, hd⟩ := l4 (by rw [c1]; rfl)
                cases hd
                have em : miss lib ps = some d := miss_take e (fun j u hj hu => h3 j u hj hu) ⟨rfl, c2⟩
                have ea : ansM lib n = .name d := by unfold ansM; rw [et]; dsimp only; rw [eps, em]
                rw [ea] at kq
                exact ⟨_, rfl, _, _, d, rfl, rfl, by simp, by decide, rfl, (show 2 ≤ sizeLine by decide), fun p hp => kq _ p (sNew s13 hp) upd_same⟩
              · refine ⟨_, rfl, rfl, fun j t hj ht => ?_⟩
                by_cases hji : j = i
                · subst hji
                  rw [e] at ht
                  cases ht
                  intro z
                  exact hc ⟨by simpa using z.1, z.2⟩
                · exact h3 j t (by omega) ht
          · rintro σ' H5 ⟨u, rfl, eH, h3⟩
            subst eH
            have hm : miss lib ps = none := miss_all fun j t ht => h3 j t (by rw [hxl]; exact (List.getElem?_eq_some_iff.mp ht).1) ht
            have lib64 := miss_none hm
            have wlen : (wholeM lib ps).length ≤ 20000 := by
              have h1 := flat_le (f := sub1 lib) (m := 100) (ps := ps) fun t ht => sub1_len hO (tok_len (tok t ht)).2.1
              show (ps.map (sub1 lib)).flatten.length ≤ 20000
              omega
            refine ⟨⟨_, rfl⟩, _, rfl, pl, rfl, ⟨_, SqL.of hp3⟩, fun D hD => ?_⟩
            refine lc_list (K := K) (a := pl) (xs := ps.map tV) (fun i H6 => H6 D = some (.lst ((ps.take i).map fun t => V.str (S (sub1 lib t)))) ∧ Same H5 H6) ?_ ?_ ?_ ?_
            · exact ⟨upd_same, sNew (Same.refl _) hD⟩
            · rintro i H6 hi ⟨h6, s6⟩
              exact SqL.of (s6 _ _ hp3)
            · rintro i x H6 hx ⟨h6, s6⟩
              rw [List.getElem?_map] at hx
              cases e : ps[i]? with
              | none => rw [e] at hx; cases hx
              | some t =>
                rw [e] at hx
                have ex : x = .str (S t) := by cases hx; rfl
                subst ex
                obtain ⟨l1, l2, l3, l4⟩ := tok_len (tok t (mem_at e))
                obtain ⟨c, t', rfl⟩ : ∃ c t', t = c :: t' := by cases t with | nil => simp at l1 | cons c t' => exact ⟨c, t', rfl⟩
                have hil := (List.getElem?_eq_some_iff.mp e).1
                have hnx : ∀ v, v = V.str (S (sub1 lib (c :: t'))) → ∃ acc, H6 D = some (.lst acc) ∧ acc.length < sizeLine ∧ (upd H6 D (.lst (acc ++ [v])) D = some (.lst ((ps.take (i + 1)).map fun t => V.str (S (sub1 lib t)))) ∧ Same H5 (upd H6 D (.lst (acc ++ [v])))) := fun v hv => by
                  refine ⟨_, h6, by rw [List.length_map, List.length_take]; exact ltSz (by omega), ?_, sMut s6 hD⟩
                  rw [upd_same, take_snoc e, hv]; simp
                refine ⟨rfl, ?_⟩
                refine ⟨_, rfl, _, _, c, rfl, rfl, by simp at l2 ⊢; omega, by decide, rfl, _, _, rfl, rfl, _, rfl, if2 (fun a1 => ?_) (fun a1 => ?_)⟩
                · have a1' : c = 64 := by simpa using a1
                  obtain ⟨d, hd⟩ := l4 (by rw [a1']; rfl)
                  cases hd
                  obtain ⟨x, hx⟩ := lib64 _ (mem_at e) rfl
                  have hx' : lib d = some x := hx
                  have es : sub1 lib [64, d] = x := by show (if _ then _ else _) = x; rw [if_pos (show [64, d].head? = some 64 from rfl), hx]; rfl
                  have g5 := (hL3.same s6).get d
                  rw [hx'] at g5
                  refine ⟨_, rfl, _, rfl, _, _, d, rfl, rfl, by simp, by decide, rfl, a, _, rfl, g5, ?_⟩
                  exact hnx _ (by rw [es])
                · have a1' : ¬ c = 64 := by simpa using a1
                  have es : sub1 lib (c :: t') = c :: t' := by show (if _ then _ else _) = _; rw [if_neg (by simpa using a1')]
                  refine ⟨_, rfl, ?_⟩
                  exact hnx _ (by rw [es])
            · rintro H6 ⟨h6, s6⟩
              rw [hxl, List.take_length] at h6
              have hj : (ps.map fun t => V.str (S (sub1 lib t))) = (ps.map (sub1 lib)).map fun y => V.str (S y) := by rw [List.map_map]; rfl
              rw [hj] at h6
              refine ⟨D, ps.map (sub1 lib), rfl, rfl, SqL.of h6, by show (wholeM lib ps).length ≤ _; omega, ?_⟩
              have s16 := s13.trans s6
              show _
              refine ⟨_, rfl, wholeM lib ps, rfl, by omega, fun H7 s7 => ?_⟩
              cases ew : scn false (wholeM lib ps) with
              | some k =>
                have ea : ansM lib n = .place k := by unfold ansM; rw [et]; dsimp only; rw [eps, hm]; dsimp only; rw [ew]
                rw [ea] at kq
                refine ⟨_, _, rfl, rfl, _, rfl, ift (decide_eq_true (show (0 : Int) ≤ (k : Nat) by omega)) ?_⟩
                refine ⟨_, rfl, wholeM lib ps, rfl, by omega, fun H8 s8 => ?_⟩
                rw [ew]
                exact ⟨(show 2 ≤ sizeLine by decide), fun p hp => kq _ p (sNew ((s16.trans s7).trans s8) hp) upd_same⟩
              | none =>
                refine ⟨_, _, rfl, rfl, _, rfl, iff' (by decide) ?_⟩
                refine ⟨_, rfl, wholeM lib ps, rfl, by omega, fun H8 l8 s8 hl8 h8 => ?_⟩
                have hpart8 := spl_part (wholeM lib ps) none (fun _ z => by cases z)
                have hwl8 := (spl_len (wholeM lib ps) none).2 rfl
                refine ⟨l8, rfl, ⟨_, SqL.of h8⟩, fun D8 hD8 => ?_⟩
                generalize eqs : spl (wholeM lib ps) none = qs at *
                refine lc_list (K := K) (a := l8) (xs := qs.map tV) (fun i H9 => H9 D8 = some (.lst (((qs.take i).filter fun x => !isBr x).map tV)) ∧ Same H8 H9) ?_ ?_ ?_ ?_
                · exact ⟨upd_same, sNew (Same.refl _) hD8⟩
                · rintro i H9 hi ⟨h9, s9⟩
                  exact SqL.of (s9 _ _ h8)
                · rintro i x H9 hx ⟨h9, s9⟩
                  rw [List.getElem?_map] at hx
                  cases e : qs[i]? with
                  | none => rw [e] at hx; cases hx
                  | some t =>
                    rw [e] at hx
                    have ex : x = .str (S t) := by cases hx; rfl
                    subst ex
                    have hil := (List.getElem?_eq_some_iff.mp e).1
                    have hfl : ((qs.take i).filter fun x => !isBr x).length ≤ 20000 := Nat.le_trans (List.length_filter_le _ _) (by rw [List.length_take]; omega)
                    have ef : (qs.take (i + 1)).filter (fun x => !isBr x) = (qs.take i).filter (fun x => !isBr x) ++ if (!isBr t) then [t] else [] := by
                      rw [take_snoc e, List.filter_append]
                      congr 1
                      by_cases q : (!isBr t) = true
                      · simp [q]
                      · simp [q]
                    refine ⟨rfl, _, rfl, t, rfl, rfl, hpart8 t (mem_at e), _, rfl, if2 (fun b => ?_) (fun b => ?_)⟩
                    · have b' : (!isBr t) = true := b
                      refine ⟨_, rfl, _, h9, by rw [List.length_map]; exact ltSz (by omega), ?_, sMut s9 hD8⟩
                      rw [upd_same, ef, b']; simp
                    · have b' : (!isBr t) = false := b
                      refine ⟨?_, s9⟩
                      rw [ef, b']; simpa using h9
                · rintro H9 ⟨h9, s9⟩
                  have s19 := ((s16.trans s7).trans s8).trans s9
                  rw [List.length_map, List.take_length] at h9
                  refine ⟨D8, _, rfl, .inl (SqL.of h9), _, _, rfl, rfl, _, rfl, ?_⟩
                  rw [List.length_map]
                  refine if2 (fun c => ?_) (fun c => ?_)
                  · have c' : (60 : Int) < ((qs.filter fun x => !isBr x).length : Nat) := of_decide_eq_true c
                    have ea : ansM lib n = .keys := by
                      unfold ansM; rw [et]; dsimp only; rw [eps, hm]; dsimp only; rw [ew]; dsimp only
                      rw [eqs, if_pos (by omega)]
                    rw [ea] at kq
                    exact ⟨(show 2 ≤ sizeLine by decide), fun p hp => kq _ p (sNew s19 hp) upd_same⟩
                  · have c' : ¬ (60 : Int) < ((qs.filter fun x => !isBr x).length : Nat) := of_decide_eq_false c
                    have ea : ansM lib n = .text (wholeM lib ps) := by
                      unfold ansM; rw [et]; dsimp only; rw [eps, hm]; dsimp only; rw [ew]; dsimp only
                      rw [eqs, if_neg (by omega)]
                    rw [ea] at kq
                    exact ⟨_, rfl, (show 2 ≤ sizeLine by decide), fun p hp => kq _ p (sNew s19 hp) upd_same⟩
abbrev pk : List Nat := plk
abbrev sk : List Nat := sgk
def spLKey : Sp := fun vs H Q _ => ∃ (b l : Addr) (sg : List Nat), vs = [.ref b, .str (S sg)] ∧ Box H b l ∧ sg ≠ [] ∧ sg.length ≤ 1000 ∧ (∀ a ∈ sg, a ∈ sgn) ∧ ∀ (H' : Hp) (key : Nat) (s : List Nat), Kp [b, l] H H' → Box H' b l → vk key s → Q (.str (S (key :: s))) H'
abbrev s_lkey : Stmt := top 25
theorem sc_lkey : FnScope ["_law_box_here", "_law_signs_here", "_law_choice"] ["_law_box_here", "_law_signs_here"] (defScope s_lkey) := ⟨rfl, rfl, rfl, by decide +kernel, rfl, by decide +kernel, by decide +kernel⟩
theorem ok_lkey (T : TX K mg) (c__law_take : KCal P w K mg base 1 "_law_take" spTake []) {f : Addr} {fd : FuncData} (F : FunD K "_law_key" "_law_key" (defArgs s_lkey) (defBody s_lkey) (defScope s_lkey) [] [] f fd) : FnOk P w K mg base (CX P w) 2 f fd ["_law_box_here", "_law_signs_here"] spLKey := by
  refine F.ok sc_lkey (fun vs H Q E h => ?_) (fun cdv A outer s H vs Q E hr h => ?_)
  · obtain ⟨b, l, sg, rfl, _⟩ := h
    rfl
  · obtain ⟨b, l, sg, rfl, B, hne, hsl, hss, k⟩ := h
    refine ⟨_, (pss_cons (ps_set (i := 2) sc_lkey.nd rfl (Or.inl rfl) (kc c__law_take hr (by decide) rfl (pa_cons (pv 0) (pa_cons pe_int pa_nil)))) (pss_cons (ps_if (pt_cmpR op_lt (pv 2) pe_int (nomark _)) (pss_one (ps_ret (pe_ix ix_S (pe_strS [62, 120, 119, 110, 36, 94, 109, 98, 107, 99, 112] (by decide +kernel)) (pv 2) (fun _ _ => rfl)))) pss_nil) (pss_one (ps_ret (pe_op op_addS (pe_ix ix_S (pe_strS [39, 61, 47] (by decide +kernel)) (pe_op op_mod (pv 2) pe_int) (fun _ _ => rfl)) (pe_ix ix_S (pv 1) (kc c__law_take hr (by decide) rfl (pa_cons (pv 0) (pa_cons (pe_callB call_lenS (by rfl) T.b_len PySem.boot_len (pa_cons (pv 1) pa_nil)) pa_nil))) (fun _ _ => rfl))))))), ?_⟩
    refine ⟨_, rfl, b, l, 17, rfl, B, by decide, by decide, fun H1 r k1 B1 r0 r1 => ?_⟩
    refine ⟨_, rfl, _, _, rfl, rfl, _, rfl, ?_⟩
    refine if2 (fun c => ?_) (fun c => ?_)
    · have c1 : r < 11 := of_decide_eq_true c
      have hr' : r.toNat < pk.length := by show r.toNat < 11; omega
      refine ⟨_, rfl, _, _, _, rfl, rfl, by decide, r0, List.getElem?_eq_getElem hr', ?_⟩
      exact k H1 _ [] k1 B1 (.inl ⟨List.getElem_mem hr', rfl⟩)
    · have c1 : ¬ r < 11 := of_decide_eq_false c
      have h3 : 0 ≤ r % 3 ∧ r % 3 < 3 := ⟨Int.emod_nonneg _ (by decide), Int.emod_lt_of_pos _ (by decide)⟩
      have hr' : (r % 3).toNat < sk.length := by show (r % 3).toNat < 3; omega
      refine ⟨_, rfl, _, _, rfl, rfl, (show (0 : Int) < 3 by decide), _, _, _, rfl, rfl, by decide, h3.1, List.getElem?_eq_getElem hr', ?_⟩
      have hp := List.length_pos_iff.mpr hne
      refine ⟨_, rfl, _, rfl, _, rfl, _, rfl, by omega, b, l, (sg.length : Int), rfl, B1, by omega, by omega, fun H2 x k2 B2 x0 x1 => ?_⟩
      have hx : x.toNat < sg.length := by omega
      refine ⟨_, _, _, rfl, rfl, by omega, x0, List.getElem?_eq_getElem hx, _, _, rfl, rfl, by simp, ?_⟩
      exact k H2 _ [sg[x.toNat]] (k1.trans k2) B2 (.inr ⟨List.getElem_mem hr', _, hss _ (List.getElem_mem hx), rfl⟩)
abbrev clo : List (Key × V) := [(.inr (S [40]), .str (S [41])), (.inr (S [91]), .str (S [124])), (.inr (S [124]), .str (S [93]))]
theorem vk_w {key : Nat} {s : List Nat} (h : vk key s) : wKey (key :: s) := by
  rcases h with ⟨h, rfl⟩ | ⟨h, a, ha, rfl⟩
  · exact .inl ⟨key, h, rfl⟩
  · exact .inr ⟨key, a, h, ha, rfl⟩
abbrev mks (gs : List Grp) : List V := gs.reverse.map fun g => V.str (S [g.mk'])
/-- a text of the law's own: a recording -/
def spLRec : Sp := fun vs H Q _ => ∃ (b l : Addr) (m deep : Int) (sg : List Nat), vs = [.ref b, .int m, .str (S sg), .int deep] ∧ Box H b l ∧ 0 ≤ m ∧ m ≤ 200 ∧ sg ≠ [] ∧ sg.length ≤ 1000 ∧ (∀ a ∈ sg, a ∈ sgn) ∧ 0 ≤ deep ∧ deep ≤ 8 ∧
  ∀ (H' : Hp) (n : List Nat) (its : List It), Kp [b, l] H H' → Box H' b l → read false n = .inr its → ((keysL its).length : Int) ≤ m → (n.length : Int) ≤ 4 * m + 16 → (∀ c ∈ n, c ∈ sgn) → Q (.str (S n)) H'
def closeOf (m : Nat) : Nat := if m = 40 then 41 else if m = 91 then 124 else 93
theorem clo_get {H : Hp} {cd : Addr} (h : H cd = some (.dK clo)) {m : Nat} (hm : m = 40 ∨ m = 91 ∨ m = 124) : DGet H cd (.str (S [m])) (some (.str (S [closeOf m]))) := by
  have g : ∀ m c : Nat, valV clo (.inr (S [m])) = some (.str (S [c])) → DGet H cd (.str (S [m])) (some (.str (S [c]))) := fun m c e => by
    have := DGet.k (k := .inr (S [m])) h
    rw [e] at this
    exact this
  rcases hm with rfl | rfl | rfl
  · exact g 40 41 (by kernel_rfl)
  · exact g 91 124 (by kernel_rfl)
  · exact g 124 93 (by kernel_rfl)
theorem mks_cons (g : Grp) (gs : List Grp) : mks (g :: gs) = mks gs ++ [V.str (S [g.mk'])] := by simp [mks]
abbrev s_lrec : Stmt := top 26
theorem sc_lrec : FnScope ["_law_box_here", "_law_most", "_law_signs_here", "_law_deep", "_law_closing", "_law_notation", "_law_groups", "_law_k", "_law_mark", "_law_empty", "_law_turn", "_law_choice"] ["_law_box_here", "_law_most", "_law_signs_here", "_law_deep"] (defScope s_lrec) := ⟨rfl, rfl, rfl, by decide +kernel, rfl, by decide +kernel, by decide +kernel⟩
theorem ok_lrec (T : TX K mg) (c__law_take : KCal P w K mg base 1 "_law_take" spTake []) (c__law_key : KCal P w K mg base 2 "_law_key" spLKey []) {f : Addr} {fd : FuncData} (F : FunD K "_law_recording" "_law_recording" (defArgs s_lrec) (defBody s_lrec) (defScope s_lrec) [] [] f fd) : FnOk P w K mg base (CX P w) 3 f fd ["_law_box_here", "_law_most", "_law_signs_here", "_law_deep"] spLRec := by
  refine F.ok sc_lrec (fun vs H Q E h => ?_) (fun cdv A outer s H vs Q E hr h => ?_)
  · obtain ⟨b, l, m, deep, sg, rfl, _⟩ := h
    rfl
  · obtain ⟨b, l, m, deep, sg, rfl, B, hm, hm2, hne, hsl, hss, hd0, hd8, k⟩ := h
    refine ⟨_, (pss_cons (ps_set (i := 4) sc_lrec.nd rfl (Or.inl rfl) (pe_disp (pps_cons (pe_strS [40] (by decide +kernel)) (pe_strS [41] (by decide +kernel)) (pps_cons (pe_strS [91] (by decide +kernel)) (pe_strS [124] (by decide +kernel)) (pps_cons (pe_strS [124] (by decide +kernel)) (pe_strS [93] (by decide +kernel)) pps_nil))) rfl rfl (by intro z; cases z) (by decide))) (pss_cons (ps_set (i := 5) sc_lrec.nd rfl (Or.inl rfl) (pe_strS [] (by decide +kernel))) (pss_cons (ps_set (i := 6) sc_lrec.nd rfl (Or.inl rfl) (pe_lst pa_nil)) (pss_cons (ps_for (passes_of rfl) rfl (pi_range1 (by rfl) T.b_range (pa_cons (kc c__law_take hr (by decide) rfl (pa_cons (pv 0) (pa_cons (pe_op op_add (pv 1) pe_int) pa_nil))) pa_nil)) (pg_name (i := 7) sc_lrec.nd rfl (Or.inl rfl)) (pss_cons (ps_set (i := 9) sc_lrec.nd rfl (Or.inl rfl) pe_bl) (pss_cons (ps_for (passes_of rfl) rfl (pi_range1 (by rfl) T.b_range (pa_cons pe_int pa_nil)) (pg_name (i := 10) sc_lrec.nd rfl (Or.inl rfl)) (pss_cons (ps_set (i := 11) sc_lrec.nd rfl (Or.inl rfl) (kc c__law_take hr (by decide) rfl (pa_cons (pv 0) (pa_cons pe_int pa_nil)))) (pss_one (ps_if (pt_cut (PW.pt (pw_and (pt_cmpR op_ge (pv 11) pe_int (nomark _)) (pw_and1 (pt_cmpR op_lt (pe_callB call_len_seq (by rfl) T.b_len PySem.boot_len (pa_cons (pv 6) pa_nil)) (pv 3) (nomark _)))))) (pss_cons (ps_expr (pe_bm PySem.F.plainAttrs_list PySem.F.slot_list_append PySem.F.type_list_append mt_append (pv 6) (pa_cons (pe_ix ix_S (pe_strS [40, 91] (by decide +kernel)) (pe_op op_sub (pv 11) pe_int) (fun _ _ => rfl)) pa_nil))) (pss_cons (ps_set (i := 5) sc_lrec.nd rfl (Or.inl rfl) (pe_op op_addS (pv 5) (pe_ix ix_list (pv 6) (pe_un un_neg pe_int) (fun _ _ => rfl)))) (pss_one (ps_set (i := 9) sc_lrec.nd rfl (Or.inl rfl) pe_bl)))) (pss_one (ps_if (pt_cut (PW.pt (pw_and (pt_cmpR op_ge (pv 11) pe_int (nomark _)) (pw_and (pt_cmpR (op_neD hr.units) (pv 6) (pe_lst pa_nil) (nomark _)) (pw_and1 (pt_not (pt_val (pv 9)))))))) (pss_cons (ps_set (i := 8) sc_lrec.nd rfl (Or.inl rfl) (pe_bm0 PySem.F.plainAttrs_list PySem.F.slot_list_pop PySem.F.type_list_pop mt_pop (pv 6))) (pss_cons (ps_set (i := 5) sc_lrec.nd rfl (Or.inl rfl) (pe_op op_addS (pv 5) (pe_dget (hu_of hr) (pv 4) (pv 8) (fun _ _ => rfl)))) (pss_one (ps_if (pt_cmpR op_eqS (pv 8) (pe_strS [91] (by decide +kernel)) (nomark _)) (pss_one (ps_expr (pe_bm PySem.F.plainAttrs_list PySem.F.slot_list_append PySem.F.type_list_append mt_append (pv 6) (pa_cons (pe_strS [124] (by decide +kernel)) pa_nil)))) pss_nil)))) pss_nil)))))) (pss_one (ps_set (i := 5) sc_lrec.nd rfl (Or.inl rfl) (pe_op op_addS (pv 5) (kc c__law_key hr (by decide) rfl (pa_cons (pv 0) (pa_cons (pv 2) pa_nil))))))))) (pss_cons (ps_for (passes_of rfl) rfl (pi_list (pe_revL (pv 6))) (pg_name (i := 8) sc_lrec.nd rfl (Or.inl rfl)) (pss_cons (ps_set (i := 5) sc_lrec.nd rfl (Or.inl rfl) (pe_op op_addS (pv 5) (pe_dget (hu_of hr) (pv 4) (pv 8) (fun _ _ => rfl)))) (pss_one (ps_if (pt_cmpR op_eqS (pv 8) (pe_strS [91] (by decide +kernel)) (nomark _)) (pss_one (ps_set (i := 5) sc_lrec.nd rfl (Or.inl rfl) (pe_op op_addS (pv 5) (pe_strS [93] (by decide +kernel))))) pss_nil)))) (pss_one (ps_ret (pv 5)))))))), ?_⟩
    intro cd hcd
    have eclo : mergeK [] clo = clo := by kernel_rfl
    refine ⟨upd_same, clo, rfl, by decide, ?_⟩
    rw [eclo]
    refine ⟨(show 0 ≤ sizeLine by decide), fun gp hgp => ?_⟩
    have s1 : Same H (upd (upd (upd H cd (.dK [])) cd (.dK clo)) gp (.lst [])) := sNew (sMut (sNew (Same.refl H) hcd) hcd) hgp
    have ngp : gp ≠ cd := fun z => by rw [z, upd_same] at hgp; cases hgp
    have hgp0 : H gp = none := by rw [upd_ne ngp, upd_ne ngp] at hgp; exact hgp
    have nb : b ≠ cd ∧ l ≠ cd ∧ b ≠ gp ∧ l ≠ gp := by
      obtain ⟨_, _, _, _, e1, e2, _⟩ := B
      exact ⟨ne_of_none e1 hcd, ne_of_none e2 hcd, ne_of_none e1 hgp0, ne_of_none e2 hgp0⟩
    have B1 := B.same s1
    refine ⟨_, rfl, _, rfl, _, _, rfl, rfl, b, l, m + 1, rfl, B1, by omega, by omega, fun H2 kn k2 B2 kn0 kn1 => ?_⟩
    have hcd2 : H2 cd = some (.dK clo) := k2 cd _ (by simp; exact ⟨nb.1.symm, nb.2.1.symm⟩) (by rw [upd_ne ngp.symm, upd_same])
    have hgp2 : H2 gp = some (.lst []) := k2 gp _ (by simp; exact ⟨nb.2.2.1.symm, nb.2.2.2.symm⟩) upd_same
    have kp2 : Kp [b, l] H H2 := (Kp.of_same s1).trans k2
    refine ⟨kn, rfl, by omega, by omega, ?_⟩
    refine for_range (lo := 0) (n := kn.toNat) (fun j σ' H' => ∃ (u7 u8 u9 u10 u11 : Option V) (n : List Nat) (gs : List Grp) (its : List It), σ' = [some (.ref b), some (.int m), some (.str (S sg)), some (.int deep), some (.ref cd), some (.str (S n)), some (.ref gp), u7, u8, u9, u10, u11] ∧ H' cd = some (.dK clo) ∧ H' gp = some (.lst (mks gs)) ∧ Box H' b l ∧ Kp [b, l] H H' ∧ Mk n gs its j ∧ n.length ≤ 4 * j ∧ (gs.length : Int) ≤ deep ∧ (gs = [] ∨ its ≠ [])) ?_ ?_ ?_
    · exact ⟨_, _, _, _, _, [], [], [], rfl, hcd2, hgp2, B2, kp2, mk0, by simp, by simpa using hd0, .inl rfl⟩
    · rintro j σ' H3 hj ⟨u7, u8, u9, u10, u11, n, gs, its, rfl, hcd3, hgp3, B3, kp3, M3, hn3, hg3, hi3⟩
      refine ⟨2, rfl, by decide, by decide, ?_⟩
      refine for_range (lo := 0) (n := 2) (fun j2 σ' H' => ∃ (u8 u10 u11 : Option V) (e : Bool) (n : List Nat) (gs : List Grp) (its : List It), σ' = [some (.ref b), some (.int m), some (.str (S sg)), some (.int deep), some (.ref cd), some (.str (S n)), some (.ref gp), some (.int ((0 : Int) + (j : Nat))), u8, some (.bl e), u10, u11] ∧ H' cd = some (.dK clo) ∧ H' gp = some (.lst (mks gs)) ∧ Box H' b l ∧ Kp [b, l] H H' ∧ Mk n gs its j ∧ n.length ≤ 4 * j + j2 ∧ (gs.length : Int) ≤ deep ∧ (e = false → ∀ g r, gs = g :: r → its ≠ [] ∨ g.mk' = 124)) ?_ ?_ ?_
      · refine ⟨_, _, _, false, n, gs, its, rfl, hcd3, hgp3, B3, kp3, M3, by omega, hg3, fun _ g r e => ?_⟩
        rcases hi3 with h | h
        · rw [h] at e; cases e
        · exact .inl h
      · rintro j2 σ' H4 hj2 ⟨u8, u10, u11, e, n, gs, its, rfl, hcd4, hgp4, B4, kp4, M4, hn4, hg4, hi4⟩
        refine ⟨_, rfl, b, l, 8, rfl, B4, by decide, by decide, fun H5 c k5 B5 c0 c1 => ?_⟩
        have hcd5 := k5 cd _ (by simp; exact ⟨nb.1.symm, nb.2.1.symm⟩) hcd4
        have hgp5 := k5 gp _ (by simp; exact ⟨nb.2.2.1.symm, nb.2.2.2.symm⟩) hgp4
        have kp5 := kp4.trans k5
        have hml : (mks gs).length = gs.length := by simp [mks]
        refine ⟨Ans H5 (6 ≤ c ∧ (gs.length : Int) < deep), ?_, if3 (fun hc => ?_) (fun hc => ?_)⟩
        · refine ⟨_, rfl, _, _, rfl, rfl, _, rfl, if2 (fun a1 => ?_) (fun a1 => ?_)⟩
          · have a1' : (6 : Int) ≤ c := of_decide_eq_true a1
            refine ⟨_, rfl, gp, _, rfl, .inl (SqL.of hgp5), _, rfl, _, _, rfl, rfl, _, rfl, rfl, ?_⟩
            rw [hml]; simp [a1']
          · have a1' : ¬ (6 : Int) ≤ c := of_decide_eq_false a1
            exact ansF fun z => a1' z.1
        · have hq : c = 6 ∨ c = 7 := by omega
          obtain ⟨ch, hch, hget⟩ : ∃ ch : Nat, (ch = 40 ∨ ch = 91) ∧ [40, 91][(c - 6).toNat]? = some ch := by
            rcases hq with rfl | rfl
            · exact ⟨40, .inl rfl, rfl⟩
            · exact ⟨91, .inr rfl, rfl⟩
          have ech : (⟨ch, its, none⟩ : Grp).mk' = ch := by rcases hch with rfl | rfl <;> rfl
          refine ⟨_, rfl, tyL hgp5, _, rfl, _, _, rfl, rfl, _, _, ch, rfl, rfl, by decide, by omega, hget, ?_⟩
          refine ⟨gp, _, _, rfl, rfl, hgp5, ltSz (by rw [hml]; omega), ?_⟩
          refine ⟨_, rfl, _, rfl, 1, rfl, gp, _, -1, _, rfl, rfl, SqL.of upd_same, atI_last _ _, _, _, rfl, rfl, by simp; omega, ?_⟩
          refine ⟨_, _, _, true, n ++ [ch], ⟨ch, its, none⟩ :: gs, [], rfl, by rw [upd_ne ngp.symm]; exact hcd5, ?_, B5.mut nb.2.2.1.symm nb.2.2.2.symm, kp5.mut hgp0, M4.opn hch (by omega), by simp; omega, by simp; omega, fun z => (by cases z)⟩
          rw [upd_same, mks_cons, ech]
        · refine ⟨AnsS H5 (4 ≤ c ∧ gs ≠ [] ∧ e = false), ?_, if3S (fun H6 s6 hc2 => ?_) (fun H6 s6 hc2 => ?_)⟩
          · refine ⟨_, rfl, _, _, rfl, rfl, _, rfl, if2 (fun a1 => ?_) (fun a1 => ?_)⟩
            · have a1' : (4 : Int) ≤ c := of_decide_eq_true a1
              refine ⟨_, rfl, (show 0 ≤ sizeLine by decide), fun t0 ht0 => ?_⟩
              have s0 := sNew (o := .lst []) (Same.refl H5) ht0
              have em : mks gs = (gs.reverse.map fun g => [g.mk']).map tV := by simp [mks]
              refine ⟨_, _, .lst (SqL.of (s0 _ _ hgp5)) (by rw [em]; exact dpTx _), .lst (SqL.of upd_same) .nil, shTx (by simp; intro g _; exact mk_sgn g), rfl, _, rfl, ?_⟩
              rw [eqvL_nil]
              refine if2 (fun a2 => ?_) (fun a2 => ?_)
              · have a2' : gs ≠ [] := by simpa using a2
                refine ⟨_, rfl, e, rfl, ?_⟩
                refine ⟨s0, ?_⟩
                simp [a1', a2']
              · have a2' : gs = [] := by simpa using a2
                exact ansSF s0 fun z => z.2.1 a2'
            · have a1' : ¬ (4 : Int) ≤ c := of_decide_eq_false a1
              exact ansSF (Same.refl _) fun z => a1' z.1
          · obtain ⟨h4, hne2, rfl⟩ := hc2
            have hcd6 := s6 _ _ hcd5
            have hgp6 := s6 _ _ hgp5
            have B6 := B5.same s6
            have kp6 := kp5.trans (Kp.of_same s6)
            cases gs with
            | nil => exact absurd rfl hne2
            | cons g r =>
              have hcl := hi4 rfl g r rfl
              rw [mks_cons] at hgp6
              have hlast : (mks r ++ [V.str (S [g.mk'])])[(mks r ++ [V.str (S [g.mk'])]).length - 1]? = some (V.str (S [g.mk'])) := by simp
              refine ⟨_, rfl, tyL hgp6, gp, _, _, rfl, rfl, hgp6, hlast, ?_⟩
              rw [List.dropLast_concat]
              have hcd7 : upd H6 gp (.lst (mks r)) cd = some (.dK clo) := by rw [upd_ne ngp.symm]; exact hcd6
              have B7 : Box (upd H6 gp (.lst (mks r))) b l := B6.mut nb.2.2.1.symm nb.2.2.2.symm
              have kp7 : Kp [b, l] H (upd H6 gp (.lst (mks r))) := kp6.mut hgp0
              have hrl : (mks r).length = r.length := by simp [mks]
              simp at hg4
              refine ⟨_, rfl, _, rfl, _, rfl, cd, _, rfl, clo_get hcd7 (mk_cases g), _, _, rfl, rfl, by simp; omega, ?_⟩
              refine ⟨_, rfl, _, _, rfl, rfl, _, rfl, ?_⟩
              refine if2 (fun a1 => ?_) (fun a1 => ?_)
              · have a1' : g.mk' = 91 := by simpa using a1
                have hi : its ≠ [] := by
                  rcases hcl with h | h
                  · exact h
                  · rw [a1'] at h; cases h
                obtain ⟨M5, e5⟩ := M4.bar a1' hi
                have ec : closeOf g.mk' = 124 := by rw [a1']; rfl
                rw [ec]
                refine ⟨_, rfl, tyL upd_same, gp, _, _, rfl, rfl, upd_same, ltSz (by rw [hrl]; omega), ?_⟩
                refine ⟨_, _, _, false, n ++ [124], _, [], rfl, by rw [upd_ne ngp.symm]; exact hcd7, ?_, B7.mut nb.2.2.1.symm nb.2.2.2.symm, kp7.mut hgp0, M5, by simp; omega, by simp; omega, fun _ g' r' e => ?_⟩
                · rw [upd_same, mks_cons, e5]
                · cases e
                  exact .inr e5
              · have a1' : ¬ g.mk' = 91 := by simpa using a1
                rcases mk_cases g with h | h | h
                · have hi : its ≠ [] := by
                    rcases hcl with h2 | h2
                    · exact h2
                    · rw [h] at h2; cases h2
                  have ec : closeOf g.mk' = 41 := by rw [h]; rfl
                  rw [ec]
                  exact ⟨_, _, _, false, n ++ [41], r, _, rfl, hcd7, upd_same, B7, kp7, M4.rep h hi, by simp; omega, by omega, fun _ g' r' e => .inl (by simp)⟩
                · exact absurd h a1'
                · obtain ⟨f', hf, M5⟩ := M4.cho h
                  have ec : closeOf g.mk' = 93 := by rw [h]; rfl
                  rw [ec]
                  exact ⟨_, _, _, false, n ++ [93], r, _, rfl, hcd7, upd_same, B7, kp7, M5, by simp; omega, by omega, fun _ g' r' e => .inl (by simp)⟩
          · exact ⟨_, _, _, e, n, gs, its, rfl, s6 _ _ hcd5, s6 _ _ hgp5, B5.same s6, kp5.trans (Kp.of_same s6), M4, by omega, hg4, hi4⟩
      · rintro σ' H4 ⟨u8, u10, u11, e, n, gs, its, rfl, hcd4, hgp4, B4, kp4, M4, hn4, hg4, hi4⟩
        refine ⟨_, rfl, _, rfl, _, rfl, b, l, sg, rfl, B4, hne, hsl, hss, fun H5 key s5 k5 B5 hv => ?_⟩
        have hkl : s5.length ≤ 1 := by rcases hv with ⟨_, rfl⟩ | ⟨_, a, _, rfl⟩ <;> simp
        refine ⟨_, _, rfl, rfl, by simp; omega, ?_⟩
        exact ⟨_, _, _, _, _, _, gs, _, rfl, k5 cd _ (by simp; exact ⟨nb.1.symm, nb.2.1.symm⟩) hcd4, k5 gp _ (by simp; exact ⟨nb.2.2.1.symm, nb.2.2.2.symm⟩) hgp4, B5, kp4.trans k5, M4.key (vk_w hv), by simp; omega, hg4, .inr (by simp)⟩
    · rintro σ' H3 ⟨u7, u8, u9, u10, u11, n, gs, its, rfl, hcd3, hgp3, B3, kp3, M3, hn3, hg3, hi3⟩
      refine ⟨_, rfl, gp, _, rfl, SqL.of hgp3, fun rv hrv => ?_⟩
      have s4 := sNew (o := .lst (mks gs).reverse) (Same.refl H3) hrv
      refine ⟨rv, rfl, ⟨_, SqL.of upd_same⟩, for_list (xs := (mks gs).reverse) (fun i σ' H' => ∃ (u8 : Option V) (n' : List Nat) (its' : List It), σ' = [some (.ref b), some (.int m), some (.str (S sg)), some (.int deep), some (.ref cd), some (.str (S n')), some (.ref gp), u7, u8, u9, u10, u11] ∧ H' = upd H3 rv (.lst (mks gs).reverse) ∧ Mk n' (gs.drop i) its' kn.toNat ∧ n'.length ≤ 4 * kn.toNat + 2 * i ∧ (gs.drop i = [] ∨ its' ≠ [])) ?_ ?_ ?_ ?_⟩
      · exact ⟨u8, n, its, rfl, rfl, M3, by omega, hi3⟩
      · rintro i σ' H' hi ⟨u8, n', its', rfl, rfl, _⟩
        exact SqL.of upd_same
      · rintro i x σ' H' hx ⟨u8, n', its', rfl, rfl, M5, hn5, hi5⟩
        have hx2 : (gs.map fun g => V.str (S [g.mk']))[i]? = some x := by simpa [mks] using hx
        rw [List.getElem?_map] at hx2
        obtain ⟨g, hg, rfl⟩ := Option.map_eq_some_iff.mp hx2
        have hil : i < gs.length := by
          rcases Nat.lt_or_ge i gs.length with h | h
          · exact h
          · rw [List.getElem?_eq_none h] at hg; cases hg
        have ed : gs.drop i = g :: gs.drop (i + 1) := by
          rw [List.drop_eq_getElem_cons hil]
          rw [List.getElem?_eq_getElem hil] at hg
          rw [Option.some.inj hg]
        rw [ed] at M5 hi5
        have hi6 : its' ≠ [] := by
          rcases hi5 with h | h
          · cases h
          · exact h
        have hcd4 := s4 _ _ hcd3
        refine ⟨_, rfl, _, rfl, _, rfl, cd, _, rfl, clo_get hcd4 (mk_cases g), _, _, rfl, rfl, by simp; omega, ?_⟩
        refine ⟨_, rfl, _, _, rfl, rfl, _, rfl, ?_⟩
        refine if2 (fun a1 => ?_) (fun a1 => ?_)
        · have a1' : g.mk' = 91 := by simpa using a1
          obtain ⟨M6, e6⟩ := M5.bar a1' hi6
          obtain ⟨f', hf, M7⟩ := M6.cho e6
          have ec : closeOf g.mk' = 124 := by rw [a1']; rfl
          rw [ec]
          refine ⟨_, rfl, _, _, rfl, rfl, by simp; omega, ?_⟩
          exact ⟨_, _, _, rfl, rfl, M7, by simp; omega, .inr (by simp)⟩
        · have a1' : ¬ g.mk' = 91 := by simpa using a1
          rcases mk_cases g with h | h | h
          · have ec : closeOf g.mk' = 41 := by rw [h]; rfl
            rw [ec]
            exact ⟨_, _, _, rfl, rfl, M5.rep h hi6, by simp; omega, .inr (by simp)⟩
          · exact absurd h a1'
          · obtain ⟨f', hf, M6⟩ := M5.cho h
            have ec : closeOf g.mk' = 93 := by rw [h]; rfl
            rw [ec]
            exact ⟨_, _, _, rfl, rfl, M6, by simp; omega, .inr (by simp)⟩
      · rintro σ' H' ⟨u8, n', its', rfl, rfl, M5, hn5, hi5⟩
        have hl : (mks gs).reverse.length = gs.length := by simp [mks]
        rw [hl, List.drop_length] at M5
        rw [hl] at hn5
        refine ⟨_, rfl, ?_⟩
        have hk := M5.k
        simp [Gk] at hk
        exact k _ n' its' (kp3.trans (Kp.of_same s4)) (B3.same s4) (lead_read M5.ld) (by omega) (by omega) M5.s
/-! ### the law's library -/
abbrev nK (d : Nat) : Key := .inr (S [d])
theorem nK_inj {a b : Nat} (h : nK a = nK b) : a = b := by
  have h1 : S [a] = S [b] := Sum.inr.inj h
  have h2 := SX.S_inj h1
  simpa using h2
structure LkOk (kvs : List (Key × V)) (lib : Nat → Option (List Nat)) (m : Nat) : Prop where
  le : kvs.length ≤ m
  nd : (kvs.map (·.1)).Nodup
  fm : ∀ p ∈ kvs, ∃ d t, p = (nK d, V.str (S t))
  vl : ∀ d, valV kvs (nK d) = (lib d).map fun t => V.str (S t)
  ok : LibOk lib
  sg : ∀ d t, lib d = some t → ∀ c ∈ t, c ∈ sgn
theorem putK_fst (kvs : List (Key × V)) (k : Key) (v : V) : (putK kvs k v).map (·.1) = if (valV kvs k).isSome then kvs.map (·.1) else kvs.map (·.1) ++ [k] := by
  unfold putK
  rw [valV_any]
  by_cases h : (valV kvs k).isSome = true
  · rw [if_pos h, if_pos h, List.map_map]
    refine List.map_congr_left fun p _ => ?_
    show (if p.1 = k then (p.1, v) else p).1 = p.1
    split <;> rfl
  · rw [if_neg h, if_neg h]; simp
theorem valV_mem {kvs : List (Key × V)} {k : Key} (h : k ∈ kvs.map (·.1)) : (valV kvs k).isSome = true := by
  rw [← valV_any, List.any_eq_true]
  obtain ⟨p, hp, e⟩ := List.mem_map.mp h
  exact ⟨p, hp, decide_eq_true e⟩
theorem putK_nd {kvs : List (Key × V)} {k : Key} {v : V} (h : (kvs.map (·.1)).Nodup) : ((putK kvs k v).map (·.1)).Nodup := by
  rw [putK_fst]
  split
  · exact h
  · rename_i n
    rw [List.nodup_append]
    refine ⟨h, by simp, ?_⟩
    intro a ha b hb
    have : b = k := by simpa using hb
    subst this
    rintro rfl
    exact n (valV_mem ha)
theorem putK_mem {kvs : List (Key × V)} {k : Key} {v : V} {p : Key × V} (h : p ∈ putK kvs k v) : p ∈ kvs ∨ p = (k, v) := by
  unfold putK at h
  split at h
  · obtain ⟨q, hq, e⟩ := List.mem_map.mp h
    by_cases hk : q.1 = k
    · rw [if_pos hk] at e
      exact .inr (by rw [← e, hk])
    · rw [if_neg hk] at e
      exact .inl (by rw [← e]; exact hq)
  · rcases List.mem_append.mp h with h | h
    · exact .inl h
    · exact .inr (by simpa using h)
theorem LkOk.nil : LkOk [] (fun _ => none) 0 := ⟨by simp, by simp, by simp, fun d => rfl, (fun d t h => by cases h), (fun d t h => by cases h)⟩
theorem LkOk.put {kvs : List (Key × V)} {lib : Nat → Option (List Nat)} {m d : Nat} {t : List Nat} (h : LkOk kvs lib m) (hl : t.length ≤ 100) (hs : ∀ c ∈ t, c ∈ sgn) : LkOk (putK kvs (nK d) (.str (S t))) (fun e => if e = d then some t else lib e) (m + 1) := by
  refine ⟨?_, putK_nd h.nd, fun p hp => ?_, fun e => ?_, fun e u he => ?_, fun e u he => ?_⟩
  · have := length_putK kvs (nK d) (.str (S t))
    have := h.le
    omega
  · rcases putK_mem hp with hp | rfl
    · exact h.fm p hp
    · exact ⟨d, t, rfl⟩
  · rw [valV_put]
    by_cases q : e = d
    · subst q; rw [if_pos rfl, if_pos rfl]; rfl
    · rw [if_neg (fun z => q (nK_inj z)), if_neg q, h.vl e]
  · split at he
    · cases he; exact hl
    · exact h.ok e u he
  · split at he
    · cases he; exact hs
    · exact h.sg e u he
theorem LkOk.mono {kvs : List (Key × V)} {lib : Nat → Option (List Nat)} {m m' : Nat} (h : LkOk kvs lib m) (hm : m ≤ m') : LkOk kvs lib m' := ⟨Nat.le_trans h.le hm, h.nd, h.fm, h.vl, h.ok, h.sg⟩
theorem valV_at : ∀ {kvs : List (Key × V)} {i : Nat} {k : Key} {v : V}, (kvs.map (·.1)).Nodup → kvs[i]? = some (k, v) → valV kvs k = some v
  | [], i, k, v, _, h => by simp at h
  | p :: r, 0, k, v, _, h => by
    have : p = (k, v) := by simpa using h
    subst this
    exact valV_pos rfl
  | p :: r, i + 1, k, v, nd, h => by
    have h' : r[i]? = some (k, v) := by simpa using h
    rw [List.map_cons, List.nodup_cons] at nd
    have hm : k ∈ r.map (·.1) := List.mem_map.mpr ⟨_, List.mem_of_getElem? h', rfl⟩
    rw [valV_neg (fun z => nd.1 (by rw [z]; exact hm))]
    exact valV_at nd.2 h'
theorem put_take {kvs : List (Key × V)} {i : Nat} {k : Key} {v : V} (nd : (kvs.map (·.1)).Nodup) (h : kvs[i]? = some (k, v)) : putK (kvs.take i) k v = kvs.take (i + 1) := by
  have hk : valV (kvs.take i) k = none := by
    cases e : valV (kvs.take i) k with
    | none => rfl
    | some u =>
      exfalso
      have h1 : (valV (kvs.take i) k).isSome = true := by rw [e]; rfl
      rw [← valV_any, List.any_eq_true] at h1
      obtain ⟨p, hp, e1⟩ := h1
      have e2 : p.1 = k := of_decide_eq_true e1
      have e3 : kvs.take (i + 1) = kvs.take i ++ [(k, v)] := take_snoc h
      have nd2 : ((kvs.take (i + 1)).map (·.1)).Nodup := by rw [List.map_take]; exact nd.take
      rw [e3, List.map_append, List.nodup_append] at nd2
      exact nd2.2.2 p.1 (List.mem_map.mpr ⟨p, hp, rfl⟩) k (by simp) e2
  rw [putK_new v hk, take_snoc h]
/-- the law's heap: the box and the library -/
structure LW (H : Hp) (b l lb : Addr) (lib : Nat → Option (List Nat)) (m : Nat) : Prop where
  bx : Box H b l
  n1 : lb ≠ b
  n2 : lb ≠ l
  ex : ∃ kvs, H lb = some (.dK kvs) ∧ LkOk kvs lib m
section
variable {H H' : Hp} {b l lb : Addr} {lib : Nat → Option (List Nat)} {m : Nat}
theorem LW.kp (h : LW H b l lb lib m) (k : Kp [b, l] H H') (B : Box H' b l) : LW H' b l lb lib m := by
  obtain ⟨kvs, e, o⟩ := h.ex
  exact ⟨B, h.n1, h.n2, kvs, k _ _ (by simp [h.n1, h.n2]) e, o⟩
theorem LW.same (h : LW H b l lb lib m) (s : Same H H') : LW H' b l lb lib m := by
  obtain ⟨kvs, e, o⟩ := h.ex
  exact ⟨h.bx.same s, h.n1, h.n2, kvs, s _ _ e, o⟩
theorem LW.put (h : LW H b l lb lib m) {d : Nat} {t : List Nat} (hl : t.length ≤ 100) (hs : ∀ c ∈ t, c ∈ sgn) (hm : m ≤ 100) {Q : Hp → Prop} (q : ∀ H', LW H' b l lb (fun e => if e = d then some t else lib e) (m + 1) → Kp [lb] H H' → Q H') : rSetD (.ref lb) (.str (S [d])) (.str (S t)) H Q := by
  obtain ⟨kvs, e, o⟩ := h.ex
  refine ⟨lb, _, rfl, DPut.k (k := nK d) e (ltSz (by have := o.le; omega)), q _ ⟨h.bx.mut h.n1 h.n2, h.n1, h.n2, _, upd_same, o.put hl hs⟩ (Kp.refl.upd (by simp))⟩
theorem LW.lb' (h : LW H b l lb lib m) : LibAt H lb lib := by
  obtain ⟨kvs, e, o⟩ := h.ex
  exact ⟨kvs, e, o.vl⟩
theorem LW.mono (h : LW H b l lb lib m) {m' : Nat} (hm : m ≤ m') : LW H b l lb lib m' := by
  obtain ⟨kvs, e, o⟩ := h.ex
  exact ⟨h.bx, h.n1, h.n2, kvs, e, o.mono hm⟩
end
/-- what is told, as data -/
def Rs.d : Rs → List PyData
  | .text t => [.str (S [116, 101, 120, 116]), .str (S t)]
  | .place i => [.str (S [112, 108, 97, 99, 101]), .int (i : Nat)]
  | .keys => [.str (S [107, 101, 121, 115]), .int 60]
  | .name d => [.str (S [110, 97, 109, 101]), .str (S [d])]
def Rs.ok : Rs → Prop
  | .text t => ∀ c ∈ t, c ∈ sgn
  | .place _ => True
  | .keys => True
  | .name d => d ∈ sgn
theorem Rs.dp {K : PySem.W.Frag} {H : Hp} : ∀ r : Rs, DpAll K H r.v r.d
  | .text t => .cons (.str _) (.cons (.str _) .nil)
  | .place i => .cons (.str _) (.cons (.int _) .nil)
  | .keys => .cons (.str _) (.cons (.int _) .nil)
  | .name d => .cons (.str _) (.cons (.str _) .nil)
theorem Rs.sh (r : Rs) (h : r.ok) : SeqAt.shaped (.tuple r.d) = true := by
  unfold SeqAt.shaped
  rw [Bool.and_eq_true]
  have sg : ∀ t : List Nat, (∀ c ∈ t, c ∈ sgn) → PyData.canLay0 (.str (S t)) = true := fun t ht => strOk_sgn ht
  have al : ∀ a b : PyData, PyData.canLay0 a = true → PyData.canLay0 b = true → PyData.canLay0 (.tuple [a, b]) = true := fun a b ha hb => by
    show (PyData.canLay0 a && (PyData.canLay0 b && true)) = true
    rw [ha, hb]; rfl
  refine ⟨?_, ?_⟩
  · cases r with
    | text t => exact al _ _ (sg _ (by decide)) (sg _ h)
    | place i => exact al _ _ (sg _ (by decide)) rfl
    | keys => exact al _ _ (sg _ (by decide)) rfl
    | name d => exact al _ _ (sg _ (by decide)) (sg _ (fun c hc => (by simpa using hc : c = d) ▸ h))
  · cases r <;> rfl
theorem ansM_ok {lib : Nat → Option (List Nat)} {n : List Nat} (hn : ∀ c ∈ n, c ∈ sgn) (hl : ∀ d t, lib d = some t → ∀ c ∈ t, c ∈ sgn) : (ansM lib n).ok := by
  unfold ansM
  cases et : scn true n with
  | some i => trivial
  | none =>
    dsimp only
    have tok : ∀ t ∈ spl n none, tokOk true t := by
      cases er : read true n with
      | inl i => rw [(read_scn true n).1 i er] at et; cases et
      | inr its => exact (read_keysT er).2
    cases em : miss lib (spl n none) with
    | some d =>
      show d ∈ sgn
      have : ∀ ps : List (List Nat), (∀ t ∈ ps, tokOk true t) → miss lib ps = some d → d ∈ sgn := by
        intro ps
        induction ps with
        | nil => intro _ h; cases h
        | cons t r ih =>
          intro ht h
          rw [miss] at h
          split at h
          · rename_i hc
            rcases ht t List.mem_cons_self with ⟨c, hc', rfl⟩ | ⟨c, hc', rfl⟩ | ⟨c, d', hc', hd', rfl⟩ | ⟨_, d', hd', rfl⟩
            · have : c = 64 := by simpa using hc.1
              subst this; exact absurd hc' (by decide)
            · have : c = 64 := by simpa using hc.1
              subst this; exact absurd hc' (by decide)
            · have : c = 64 := by simpa using hc.1
              subst this; exact absurd hc' (by decide)
            · have e : d' = d := by simpa using h
              subst e
              exact (show ∀ d ∈ ltr, d ∈ sgn by decide) _ hd'
          · exact ih (fun t ht' => ht t (List.mem_cons_of_mem _ ht')) h
      exact this _ tok em
    | none =>
      dsimp only
      cases ew : scn false (wholeM lib (spl n none)) with
      | some i => trivial
      | none =>
        dsimp only
        split
        · trivial
        · intro c hc
          obtain ⟨s, hs, hcs⟩ := List.mem_flatten.mp (show c ∈ ((spl n none).map (sub1 lib)).flatten from hc)
          obtain ⟨t, ht, rfl⟩ := List.mem_map.mp hs
          unfold sub1 at hcs
          split at hcs
          · cases e : lib (t.getD 1 0) with
            | none => rw [e] at hcs; simp at hcs
            | some x => rw [e] at hcs; exact hl _ _ e c hcs
          · have e : (spl n none).flatten = n := spl_flat n none
            rw [← e] at hn
            exact hn c (List.mem_flatten.mpr ⟨t, ht, hcs⟩)
def okP (qs : List (List Nat)) : Prop := ∀ q ∈ qs, q.length ≤ 2 ∧ ∀ c ∈ q, c ∈ sgn
theorem menuT (ts : List (List Nat)) {r : Int} (h0 : 0 ≤ r) (h1 : r < (ts.length : Nat)) : ∃ t ∈ ts, atI (ts.map tV) r = some (.str (S t)) := by
  obtain ⟨k, rfl⟩ := Int.eq_ofNat_of_zero_le h0
  have hk : k < ts.length := by omega
  refine ⟨ts[k], List.getElem_mem hk, ?_⟩
  unfold atI ixN
  rw [if_pos (by omega), if_pos (by rw [List.length_map]; omega)]
  simp [hk]
abbrev s_law : Stmt := top 31
theorem sc_law : FnScope ["_law_script", "_law_box_here", "_law_library", "_law_name", "_law_long", "_law_notation", "_law_parts", "_law_part", "_law_copied", "_law_at"] ["_law_script"] (defScope s_law) := ⟨rfl, rfl, rfl, by decide +kernel, rfl, by decide +kernel, by decide +kernel⟩
theorem ok_law (T : TX K mg) (c__law_box : KCal P w K mg base 1 "_law_box" (spBox K) []) (c__law_take : KCal P w K mg base 1 "_law_take" spTake []) (c__law_recording : KCal P w K mg base 3 "_law_recording" spLRec []) (c__law_split : KCal P w K mg base 1 "_law_split" spLSplit []) (c__law_asked : KCal P w K mg base 12 "_law_asked" spLAsked []) (c__law_due : KCal P w K mg base 3 "_law_due" spLDue68 []) {f : Addr} {fd : FuncData} (F : FunD K "law" "law" (defArgs s_law) (defBody s_law) (defScope s_law) [] [] f fd) : FnOk P w K mg base (CX P w) 13 f fd ["_law_script"] (spLaw K) := by
  refine F.ok sc_law (fun vs H Q E h => ?_) (fun cdv A outer s H vs Q E hr h => ?_)
  · obtain ⟨a, ns, rfl, _⟩ := h
    rfl
  · obtain ⟨a, ns, rfl, hS, kq⟩ := h
    refine ⟨_, (pss_cons (ps_set (i := 1) sc_law.nd rfl (Or.inl rfl) (kc c__law_box hr (by decide) rfl (pa_cons (pv 0) pa_nil))) (pss_cons (ps_set (i := 2) sc_law.nd rfl (Or.inl rfl) pe_dnewK) (pss_cons (ps_for (passes_of rfl) rfl (pi_list (pe_lst (pa_cons (pe_strS [112] (by decide +kernel)) (pa_cons (pe_strS [113] (by decide +kernel)) (pa_cons (pe_strS [122] (by decide +kernel)) pa_nil))))) (pg_name (i := 3) sc_law.nd rfl (Or.inl rfl)) (pss_one (ps_if (pt_cut (PW.pt (pw_or (pt_cmpR op_eqS (pv 3) (pe_strS [112] (by decide +kernel)) (nomark _)) (pw_or1 (pt_cmpR op_gt (kc c__law_take hr (by decide) rfl (pa_cons (pv 1) (pa_cons pe_int pa_nil))) pe_int (nomark _)))))) (pss_cons (ps_asg (kc c__law_recording hr (by decide) rfl (pa_cons (pv 1) (pa_cons pe_int (pa_cons (pe_strS [97, 98, 64, 40, 93] (by decide +kernel)) (pa_cons pe_int pa_nil))))) (pg_sub (pv 2) (pv 3) (set_dict (hu_of hr)))) (pss_one (ps_if (pt_cmpR op_eqS (pe_dget (hu_of hr) (pv 2) (pv 3) (fun _ _ => rfl)) (pe_strS [] (by decide +kernel)) (nomark _)) (pss_one (ps_asg (pe_ix ix_list (pe_lst (pa_cons (pe_strS [120] (by decide +kernel)) (pa_cons (pe_strS [39, 64] (by decide +kernel)) (pa_cons (pe_op op_addS (pe_slice sl_S (pe_strS [40, 64] (by decide +kernel)) po_none (po_some pe_int)) (pe_strS [62, 41] (by decide +kernel))) (pa_cons (pe_strS [61, 64, 62] (by decide +kernel)) pa_nil))))) (kc c__law_take hr (by decide) rfl (pa_cons (pv 1) (pa_cons pe_int pa_nil))) (fun _ _ => rfl)) (pg_sub (pv 2) (pv 3) (set_dict (hu_of hr))))) pss_nil))) pss_nil))) (pss_cons (ps_set (i := 4) sc_law.nd rfl (Or.inl rfl) (pe_lst (pa_cons (pe_op op_mulS (pe_strS [62] (by decide +kernel)) pe_int) (pa_cons (pe_op op_addS (pe_op op_addS (pe_op op_mulS (pe_strS [40] (by decide +kernel)) pe_int) (pe_strS [120] (by decide +kernel))) (pe_op op_mulS (pe_strS [41] (by decide +kernel)) pe_int)) (pa_cons (pe_op op_addS (pe_op op_addS (pe_op op_mulS (pe_strS [91] (by decide +kernel)) pe_int) (pe_strS [120] (by decide +kernel))) (pe_op op_mulS (pe_strS [124, 93] (by decide +kernel)) pe_int)) (pa_cons (pe_strS [39, 64] (by decide +kernel)) pa_nil)))))) (C8.pss_cut (ps_if (pt_cmpR op_eq (kc c__law_take hr (by decide) rfl (pa_cons (pv 1) (pa_cons pe_int pa_nil))) pe_int (nomark _)) (pss_one (ps_asg (pe_ix ix_list (pv 4) (kc c__law_take hr (by decide) rfl (pa_cons (pv 1) (pa_cons pe_int pa_nil))) (fun _ _ => rfl)) (pg_sub (pv 2) (pe_strS [112] (by decide +kernel)) (set_dict (hu_of hr))))) pss_nil) (pss_cons (ps_set (i := 5) sc_law.nd rfl (Or.inl rfl) (kc c__law_recording hr (by decide) rfl (pa_cons (pv 1) (pa_cons pe_int (pa_cons (pe_strS [97, 98, 64, 40, 93] (by decide +kernel)) (pa_cons pe_int pa_nil)))))) (pss_cons (ps_set (i := 6) sc_law.nd rfl (Or.inl rfl) (pe_lst pa_nil)) (pss_cons (ps_for (passes_of rfl) rfl (pi_list (kc c__law_split hr (by decide) rfl (pa_cons (pv 5) pa_nil))) (pg_name (i := 7) sc_law.nd rfl (Or.inl rfl)) (C8.pss_cut (ps_if (pt_cut (PW.pt (pw_and (pt_cmpR op_notInB (pv 7) (pe_strS [40, 91, 124, 93, 41] (by decide +kernel)) rfl) (pw_and1 (pt_cmpR op_eq (kc c__law_take hr (by decide) rfl (pa_cons (pv 1) (pa_cons pe_int pa_nil))) pe_int (nomark _)))))) (pss_one (ps_set (i := 7) sc_law.nd rfl (Or.inl rfl) (pe_op op_addS (pe_strS [64] (by decide +kernel)) (pe_ix ix_list (pe_lst (pa_cons (pe_strS [112] (by decide +kernel)) (pa_cons (pe_strS [113] (by decide +kernel)) (pa_cons (pe_strS [122] (by decide +kernel)) (pa_cons (pe_strS [121] (by decide +kernel)) pa_nil))))) (kc c__law_take hr (by decide) rfl (pa_cons (pv 1) (pa_cons pe_int pa_nil))) (fun _ _ => rfl))))) pss_nil) (pss_one (ps_expr (pe_bm PySem.F.plainAttrs_list PySem.F.slot_list_append PySem.F.type_list_append mt_append (pv 6) (pa_cons (pv 7) pa_nil)))))) (C8.pss_cut (ps_if (pt_cmpR op_eq (kc c__law_take hr (by decide) rfl (pa_cons (pv 1) (pa_cons pe_int pa_nil))) pe_int (nomark _)) (pss_cons (ps_set (i := 9) sc_law.nd rfl (Or.inl rfl) (kc c__law_take hr (by decide) rfl (pa_cons (pv 1) (pa_cons (pe_op op_add (pe_callB call_len_seq (by rfl) T.b_len PySem.boot_len (pa_cons (pv 6) pa_nil)) pe_int) pa_nil)))) (pss_one (ps_set (i := 6) sc_law.nd rfl (Or.inl rfl) (pe_op op_cat (pe_op op_cat (pe_slice sl_list (pv 6) po_none (po_some (pv 9))) (pe_lst (pa_cons (pe_ix ix_list (pe_lst (pa_cons (pe_strS [41] (by decide +kernel)) (pa_cons (pe_strS [64, 80] (by decide +kernel)) (pa_cons (pe_strS [64, 64] (by decide +kernel)) (pa_cons (pe_strS [64, 49] (by decide +kernel)) (pa_cons (pe_strS [93] (by decide +kernel)) (pa_cons (pe_strS [64, 40] (by decide +kernel)) (pa_cons (pe_strS [40] (by decide +kernel)) (pa_cons (pe_strS [38] (by decide +kernel)) pa_nil))))))))) (kc c__law_take hr (by decide) rfl (pa_cons (pv 1) (pa_cons pe_int pa_nil))) (fun _ _ => rfl)) pa_nil))) (pe_slice sl_list (pv 6) (po_some (pv 9)) po_none))))) pss_nil) (pss_cons (ps_set (i := 5) sc_law.nd rfl (Or.inl rfl) (pe_join0 (pe_strS [] (by decide +kernel)) (pv 6))) (C8.pss_cut (ps_if (pt_cmpR op_eq (kc c__law_take hr (by decide) rfl (pa_cons (pv 1) (pa_cons pe_int pa_nil))) pe_int (nomark _)) (pss_one (ps_set (i := 5) sc_law.nd rfl (Or.inl rfl) (pe_op op_addS (pv 5) (pe_strS [64] (by decide +kernel))))) pss_nil) (pss_cons (ps_set (i := 8) sc_law.nd rfl (Or.inl rfl) pe_dnewK) (pss_cons (ps_lock (ps_for (passes_of rfl) rfl (pi_keys (pv 2)) (pg_name (i := 3) sc_law.nd rfl (Or.inl rfl)) (pss_one (ps_asg (pe_dget (hu_of hr) (pv 2) (pv 3) (fun _ _ => rfl)) (pg_sub (pv 8) (pv 3) (set_dict (hu_of hr))))))) (pss_one (ps_ret (pe_and (pe_cmpR (op_eqD hr.units) (kc c__law_asked hr (by decide) rfl (pa_cons (pv 5) (pa_cons (pv 8) pa_nil))) (kc c__law_due hr (by decide) rfl (pa_cons (pv 5) (pa_cons (pv 2) pa_nil))) (nomark _)) (pe_one (pe_cmpR (op_eq_dictA (Nat.lt_trans (Nat.lt_succ_self _) (hu_of hr))) (pv 8) (pv 2) (nomark _))))))))))))))))))), ?_⟩
    and_intros
    rintro H1 b l s1 hb hl B
    and_intros
    intro lb hlb
    have nb : lb ≠ b ∧ lb ≠ l := by
      obtain ⟨_, _, _, _, e1, e2, _⟩ := id B
      exact ⟨(ne_of_none e1 hlb).symm, (ne_of_none e2 hlb).symm⟩
    have W0 : LW (upd H1 lb (.dK [])) b l lb (fun _ => none) 0 := ⟨B.new hlb, nb.1, nb.2, [], upd_same, LkOk.nil⟩
    refine ⟨(show 3 ≤ sizeLine by decide), fun nl hnl => ?_⟩
    have W1 := W0.same (sNew (o := .lst [.str (S [112]), .str (S [113]), .str (S [122])]) (Same.refl _) hnl)
    have nnl : nl ≠ b ∧ nl ≠ l ∧ nl ≠ lb := by
      obtain ⟨_, _, _, _, e1, e2, _⟩ := id W0.bx
      exact ⟨(ne_of_none e1 hnl).symm, (ne_of_none e2 hnl).symm, (ne_of_none upd_same hnl).symm⟩
    refine ⟨nl, rfl, ⟨_, SqL.of upd_same⟩, ?_⟩
    refine for_list (xs := [.str (S [112]), .str (S [113]), .str (S [122])]) (fun i σ' H' => ∃ (u3 : Option V) (lib : Nat → Option (List Nat)), σ' = [some (.ref a), some (.ref b), some (.ref lb), u3, none, none, none, none, none, none] ∧ LW H' b l lb lib (2 * i) ∧ H' nl = some (.lst [.str (S [112]), .str (S [113]), .str (S [122])])) ?_ ?_ ?_ ?_
    · exact ⟨_, _, rfl, W1, upd_same⟩
    · rintro i σ' H2 hi ⟨u, lib, rfl, W2, h2⟩
      exact SqL.of h2
    · rintro i x σ' H2 hx ⟨u, lib, rfl, W2, h2⟩
      obtain ⟨d, rfl⟩ : ∃ d, x = .str (S [d]) := by
        match i, hx with
        | 0, hx => cases hx; exact ⟨112, rfl⟩
        | 1, hx => cases hx; exact ⟨113, rfl⟩
        | 2, hx => cases hx; exact ⟨122, rfl⟩
        | i + 3, hx => simp at hx
      have hi3 : i < 3 := by have := (List.getElem?_eq_some_iff.mp hx).1; simpa using this
      refine ⟨fun _ H' => LW H' b l lb lib (2 * i) ∧ H' nl = some (.lst [.str (S [112]), .str (S [113]), .str (S [122])]), ?_, ?_⟩
      · refine ⟨_, rfl, _, _, rfl, rfl, _, rfl, if2 (fun _ => ?_) (fun _ => ?_)⟩
        · exact ⟨W2, h2⟩
        · refine ⟨_, rfl, b, l, 3, rfl, W2.bx, by decide, by decide, fun H3 r k3 B3 r0 r1 => ?_⟩
          exact ⟨_, _, rfl, rfl, _, rfl, W2.kp k3 B3, k3.get2 h2 nnl.1 nnl.2.1⟩
      · rintro tr H3 ⟨W3, h3⟩
        cases tr with
        | false => exact iff' rfl ⟨_, lib, rfl, W3.mono (by omega), h3⟩
        | true =>
          refine ift rfl ?_
          refine ⟨_, rfl, b, l, 5, 2, [97, 98, 64, 40, 93], rfl, W3.bx, by decide, by decide, by decide, by decide, by decide, by decide, by decide, fun H4 n its k4 B4 hr4 hk4 hl4 hs4 => ?_⟩
          have W4 := W3.kp k4 B4
          have h4 := k4.get2 h3 nnl.1 nnl.2.1
          refine ⟨_, rfl, _, rfl, ?_⟩
          refine W4.put (by omega) hs4 (by omega) fun H5 W5 k5 => ?_
          have h5 := k5.get1 h4 nnl.2.2
          have g5 := W5.lb'.get d
          rw [if_pos rfl] at g5
          refine ⟨_, rfl, _, rfl, lb, _, rfl, g5, _, _, rfl, rfl, _, rfl, if2 (fun e5 => ?_) (fun _ => ?_)⟩
          · refine ⟨1, rfl, _, rfl, by decide, trivial, (show (0 : Int) ≤ 1 by decide), _, _, rfl, rfl, by decide, (show 4 ≤ sizeLine by decide), fun ml hml => ?_⟩
            have W6 := W5.same (sNew (o := .lst ([[120], [39, 64], [40, 62, 41], [61, 64, 62]].map tV)) (Same.refl _) hml)
            have h6 := sNew (o := .lst ([[120], [39, 64], [40, 62, 41], [61, 64, 62]].map tV)) (Same.refl _) hml _ _ h5
            have nml : ml ≠ b ∧ ml ≠ l := by
              obtain ⟨_, _, _, _, e1, e2, _⟩ := id W5.bx
              exact ⟨(ne_of_none e1 hml).symm, (ne_of_none e2 hml).symm⟩
            refine ⟨_, rfl, b, l, 4, rfl, W6.bx, by decide, by decide, fun H7 r k7 B7 r0 r1 => ?_⟩
            obtain ⟨t, ht, et⟩ := menuT [[120], [39, 64], [40, 62, 41], [61, 64, 62]] r0 r1
            have W7 := W6.kp k7 B7
            have h7 := k7.get2 h6 nnl.1 nnl.2.1
            have hml7 := k7.get2 (upd_same (H := H5)) nml.1 nml.2
            refine ⟨ml, _, _, _, rfl, rfl, SqL.of hml7, et, _, rfl, _, rfl, ?_⟩
            have hto : t.length ≤ 100 ∧ ∀ c ∈ t, c ∈ sgn := (show ∀ t ∈ [[120], [39, 64], [40, 62, 41], [61, 64, 62]], t.length ≤ 100 ∧ ∀ c ∈ t, c ∈ sgn by decide) t ht
            refine W7.put hto.1 hto.2 (by omega) fun H8 W8 k8 => ?_
            exact ⟨_, _, rfl, W8.mono (by omega), k8.get1 h7 nnl.2.2⟩
          · exact ⟨_, _, rfl, W5.mono (by omega), h5⟩
    · rintro σ' H2 ⟨u, lib, rfl, W2, h2⟩
      clear h2 W1 W0
      and_intros
      intro lo hlo
      have W3 := fun o => W2.same (sNew (o := o) (Same.refl _) hlo)
      have nlo : lo ≠ b ∧ lo ≠ l := by
        obtain ⟨_, _, _, _, e1, e2, _⟩ := id W2.bx
        exact ⟨(ne_of_none e1 hlo).symm, (ne_of_none e2 hlo).symm⟩
      refine ⟨fun σ' H' => ∃ lib, σ' = [some (.ref a), some (.ref b), some (.ref lb), u, some (.ref lo), none, none, none, none, none] ∧ LW H' b l lb lib 10, ?_, ?_⟩
      · refine ⟨_, rfl, b, l, 3, rfl, (W3 _).bx, by decide, by decide, fun H4 r k4 B4 r0 r1 => ?_⟩
        have W4 := (W3 _).kp k4 B4
        refine ⟨rfl, _, rfl, if2 (fun e5 => ?_) (fun _ => ?_)⟩
        · have hlo4 := k4.get2 (upd_same (H := H2)) nlo.1 nlo.2
          refine ⟨_, rfl, _, rfl, b, l, 4, rfl, B4, by decide, by decide, fun H5 r5 k5 B5 r50 r51 => ?_⟩
          have W5 := W4.kp k5 B5
          have hlo5 := k5.get2 hlo4 nlo.1 nlo.2
          obtain ⟨t, ht, et⟩ := menuT [List.replicate 40 62, List.replicate 8 40 ++ [120] ++ List.replicate 8 41, List.replicate 6 91 ++ [120] ++ [124, 93, 124, 93, 124, 93, 124, 93, 124, 93, 124, 93], [39, 64]] r50 r51
          refine ⟨lo, _, _, _, rfl, rfl, SqL.of hlo5, et, _, rfl, ?_⟩
          have hto : t.length ≤ 100 ∧ ∀ c ∈ t, c ∈ sgn := (show ∀ t ∈ [List.replicate 40 62, List.replicate 8 40 ++ [120] ++ List.replicate 8 41, List.replicate 6 91 ++ [120] ++ [124, 93, 124, 93, 124, 93, 124, 93, 124, 93, 124, 93], [39, 64]], t.length ≤ 100 ∧ ∀ c ∈ t, c ∈ sgn by decide) t ht
          refine W5.put hto.1 hto.2 (by decide) fun H6 W6 k6 => ?_
          exact ⟨_, rfl, W6.mono (by decide)⟩
        · exact ⟨lib, rfl, W4.mono (by decide)⟩
      clear W2 W3 lib
      rintro σ' H3 ⟨lib, rfl, W3⟩
      refine ⟨_, rfl, b, l, 6, 2, [97, 98, 64, 40, 93], rfl, W3.bx, by decide, by decide, by decide, by decide, by decide, by decide, by decide, fun H4 n its k4 B4 hr4 hk4 hl4 hs4 => ?_⟩
      have W4 := W3.kp k4 B4
      refine ⟨(show 0 ≤ sizeLine by decide), fun pp hpp => ?_⟩
      have W5 := W4.same (sNew (o := .lst []) (Same.refl _) hpp)
      have npp : pp ≠ b ∧ pp ≠ l ∧ pp ≠ lb := by
        obtain ⟨_, _, _, _, e1, e2, _⟩ := id W4.bx
        obtain ⟨kvs, e3, _⟩ := W4.ex
        exact ⟨(ne_of_none e1 hpp).symm, (ne_of_none e2 hpp).symm, (ne_of_none e3 hpp).symm⟩
      refine ⟨_, rfl, n, rfl, by omega, fun H6 sp s6 hsp0 hsp => ?_⟩
      have W6 := W5.same s6
      have hpp6 := s6 _ _ (upd_same (H := H4))
      have nsp : sp ≠ b ∧ sp ≠ l ∧ sp ≠ lb ∧ sp ≠ pp := by
        obtain ⟨_, _, _, _, e1, e2, _⟩ := id W5.bx
        obtain ⟨kvs, e3, _⟩ := W5.ex
        exact ⟨(ne_of_none e1 hsp0).symm, (ne_of_none e2 hsp0).symm, (ne_of_none e3 hsp0).symm, (ne_of_none upd_same hsp0).symm⟩
      have hpart := spl_part n none (fun _ z => by cases z)
      have hpsl := (spl_len n none).2 rfl
      have hpfl : (spl n none).flatten = n := spl_flat n none
      generalize spl n none = ps at *
      have hxl : (ps.map tV).length = ps.length := List.length_map ..
      refine ⟨sp, rfl, ⟨_, SqL.of hsp⟩, ?_⟩
      refine for_list (xs := ps.map tV) (fun i σ' H' => ∃ (u7 : Option V) (qs : List (List Nat)), σ' = [some (.ref a), some (.ref b), some (.ref lb), u, some (.ref lo), some (.str (S n)), some (.ref pp), u7, none, none] ∧ LW H' b l lb lib 10 ∧ H' sp = some (.lst (ps.map tV)) ∧ H' pp = some (.lst (qs.map tV)) ∧ qs.length = i ∧ okP qs) ?_ ?_ ?_ ?_
      · exact ⟨_, [], rfl, W6, hsp, hpp6, rfl, fun q hq => by cases hq⟩
      · rintro i σ' H7 hi ⟨u7, qs, rfl, W7, hsp7, _⟩
        exact SqL.of hsp7
      · rintro i x σ' H7 hx ⟨u7, qs, rfl, W7, hsp7, hpp7, hql, hqo⟩
        rw [List.getElem?_map] at hx
        cases e : ps[i]? with
        | none => rw [e] at hx; cases hx
        | some t =>
          rw [e] at hx
          have ex : x = .str (S t) := by cases hx; rfl
          subst ex
          have tin := mem_at e
          have hil := (List.getElem?_eq_some_iff.mp e).1
          have tok : t.length ≤ 2 ∧ ∀ c ∈ t, c ∈ sgn := by
            refine ⟨by rcases hpart t tin with ⟨c, rfl⟩ | ⟨c, d, rfl, _⟩ <;> simp, fun c hc => hs4 c ?_⟩
            rw [← hpfl]
            exact List.mem_flatten.mpr ⟨t, tin, hc⟩
          refine ⟨fun σ' H' => ∃ t : List Nat, σ' = [some (.ref a), some (.ref b), some (.ref lb), u, some (.ref lo), some (.str (S n)), some (.ref pp), some (.str (S t)), none, none] ∧ LW H' b l lb lib 10 ∧ H' sp = some (.lst (ps.map tV)) ∧ H' pp = some (.lst (qs.map tV)) ∧ t.length ≤ 2 ∧ ∀ c ∈ t, c ∈ sgn, ?_, ?_⟩
          · refine ⟨fun _ H' => LW H' b l lb lib 10 ∧ H' sp = some (.lst (ps.map tV)) ∧ H' pp = some (.lst (qs.map tV)), ?_, ?_⟩
            · refine ⟨_, rfl, t, rfl, rfl, hpart t tin, _, rfl, if2 (fun _ => ?_) (fun _ => ?_)⟩
              · refine ⟨_, rfl, b, l, 3, rfl, W7.bx, by decide, by decide, fun H8 r k8 B8 r0 r1 => ?_⟩
                exact ⟨rfl, _, rfl, W7.kp k8 B8, k8.get2 hsp7 nsp.1 nsp.2.1, k8.get2 hpp7 npp.1 npp.2.1⟩
              · exact ⟨W7, hsp7, hpp7⟩
            · rintro tr H8 ⟨W8, hsp8, hpp8⟩
              cases tr with
              | false => exact iff' rfl ⟨t, rfl, W8, hsp8, hpp8, tok⟩
              | true =>
                refine ift rfl ⟨(show 4 ≤ sizeLine by decide), fun ml hml => ?_⟩
                have s9 := sNew (o := .lst ([[112], [113], [122], [121]].map tV)) (Same.refl _) hml
                have W9 := W8.same s9
                have nml : ml ≠ b ∧ ml ≠ l := by
                  obtain ⟨_, _, _, _, e1, e2, _⟩ := id W8.bx
                  exact ⟨(ne_of_none e1 hml).symm, (ne_of_none e2 hml).symm⟩
                refine ⟨_, rfl, b, l, 4, rfl, W9.bx, by decide, by decide, fun Ha r ka Ba r0 r1 => ?_⟩
                obtain ⟨t2, ht2, et2⟩ := menuT [[112], [113], [122], [121]] r0 r1
                have hto : t2.length ≤ 1 ∧ ∀ c ∈ t2, c ∈ sgn := (show ∀ t ∈ [[112], [113], [122], [121]], t.length ≤ 1 ∧ ∀ c ∈ t, c ∈ sgn by decide) t2 ht2
                refine ⟨ml, _, _, _, rfl, rfl, SqL.of (ka.get2 (upd_same (H := H8)) nml.1 nml.2), et2, _, _, rfl, rfl, by simp; omega, ?_⟩
                refine ⟨_, rfl, W9.kp ka Ba, ka.get2 (s9 _ _ hsp8) nsp.1 nsp.2.1, ka.get2 (s9 _ _ hpp8) npp.1 npp.2.1, by simp; omega, fun c hc => ?_⟩
                rcases List.mem_cons.mp (show c ∈ 64 :: t2 from hc) with rfl | hc
                · decide
                · exact hto.2 c hc
          rintro σ' H8 ⟨t2, rfl, W8, hsp8, hpp8, tok2⟩
          have hqm : (qs.map tV).length = qs.length := List.length_map ..
          refine ⟨_, rfl, tyL hpp8, _, rfl, pp, _, _, rfl, rfl, hpp8, ltSz (by rw [hqm]; omega), ?_⟩
          have eg : qs.map tV ++ [V.str (S t2)] = (qs ++ [t2]).map tV := by simp
          rw [eg]
          obtain ⟨kvs, e8, o8⟩ := id W8.ex
          refine ⟨_, qs ++ [t2], rfl, ⟨W8.bx.mut npp.1 npp.2.1, W8.n1, W8.n2, kvs, by rw [upd_ne npp.2.2.symm]; exact e8, o8⟩, by rw [upd_ne nsp.2.2.2]; exact hsp8, upd_same, by simp; exact hql, fun q hq => ?_⟩
          rcases List.mem_append.mp hq with hq | hq
          · exact hqo q hq
          · have : q = t2 := by simpa using hq
            subst this; exact tok2
      · rintro σ' H7 ⟨u7, qs, rfl, W7, hsp7, hpp7, hql, hqo⟩
        rw [hxl] at hql
        have hqm : (qs.map tV).length = qs.length := List.length_map ..
        refine ⟨fun σ' H' => ∃ (pp : Addr) (qs : List (List Nat)) (u9 : Option V), σ' = [some (.ref a), some (.ref b), some (.ref lb), u, some (.ref lo), some (.str (S n)), some (.ref pp), u7, none, u9] ∧ LW H' b l lb lib 10 ∧ H' pp = some (.lst (qs.map tV)) ∧ qs.length ≤ 41 ∧ okP qs, ?_, ?_⟩
        · refine ⟨_, rfl, b, l, 4, rfl, W7.bx, by decide, by decide, fun H8 r k8 B8 r0 r1 => ?_⟩
          have W8 := W7.kp k8 B8
          have hpp8 := k8.get2 hpp7 npp.1 npp.2.1
          refine ⟨rfl, _, rfl, if2 (fun e5 => ?_) (fun _ => ?_)⟩
          · refine ⟨_, rfl, _, rfl, pp, _, rfl, .inl (SqL.of hpp8), _, _, rfl, rfl, b, l, _, rfl, B8, by omega, by rw [hqm]; omega, fun H9 at_ k9 B9 a0 a1 => ?_⟩
            have W9 := W8.kp k9 B9
            have hpp9 := k9.get2 hpp8 npp.1 npp.2.1
            obtain ⟨k, rfl⟩ := Int.eq_ofNat_of_zero_le a0
            have hk : k ≤ qs.length := by rw [hqm] at a1; omega
            have ec1 : cutV (qs.map tV) none (some ((k : Nat) : Int)) = (qs.take k).map tV := by rw [cutV_L (lo := none) (hi := some ((k : Nat) : Int)) trivial (show (0 : Int) ≤ (k : Nat) by omega), cutL_to, List.map_take]
            have ec2 : cutV (qs.map tV) (some ((k : Nat) : Int)) none = (qs.drop k).map tV := by rw [cutV_L (lo := some ((k : Nat) : Int)) (hi := none) (show (0 : Int) ≤ (k : Nat) by omega) trivial, cutL_from, List.map_drop]
            refine ⟨_, rfl, _, rfl, _, rfl, pp, _, rfl, SqL.of hpp9, fun x1 hx1 => ?_⟩
            rw [ec1]
            have t1 := sNew (o := .lst ((qs.take k).map tV)) (Same.refl _) hx1
            refine ⟨(show 8 ≤ sizeLine by decide), fun ml hml => ?_⟩
            have t2 := sNew (o := .lst ([[41], [64, 80], [64, 64], [64, 49], [93], [64, 40], [40], [38]].map tV)) (Same.refl _) hml
            have Wa := (W9.same t1).same t2
            have nml : ml ≠ b ∧ ml ≠ l := by
              obtain ⟨_, _, _, _, e1, e2, _⟩ := id (W9.same t1).bx
              exact ⟨(ne_of_none e1 hml).symm, (ne_of_none e2 hml).symm⟩
            have nx1 : x1 ≠ b ∧ x1 ≠ l := by
              obtain ⟨_, _, _, _, e1, e2, _⟩ := id W9.bx
              exact ⟨(ne_of_none e1 hx1).symm, (ne_of_none e2 hx1).symm⟩
            refine ⟨_, rfl, b, l, 8, rfl, Wa.bx, by decide, by decide, fun Hb rb kb Bb rb0 rb1 => ?_⟩
            have Wb := Wa.kp kb Bb
            obtain ⟨tt, htt, ett⟩ := menuT [[41], [64, 80], [64, 64], [64, 49], [93], [64, 40], [40], [38]] rb0 rb1
            have hto : tt.length ≤ 2 ∧ ∀ c ∈ tt, c ∈ sgn := (show ∀ t ∈ [[41], [64, 80], [64, 64], [64, 49], [93], [64, 40], [40], [38]], t.length ≤ 2 ∧ ∀ c ∈ t, c ∈ sgn by decide) tt htt
            have hppb := kb.get2 (t2 _ _ (t1 _ _ hpp9)) npp.1 npp.2.1
            have hx1b := kb.get2 (t2 _ _ (upd_same (H := H9))) nx1.1 nx1.2
            refine ⟨ml, _, _, _, rfl, rfl, SqL.of (kb.get2 (upd_same (a := ml)) nml.1 nml.2), ett, (show 1 ≤ sizeLine by decide), fun x2 hx2 => ?_⟩
            have t3 := sNew (o := .lst [V.str (S tt)]) (Same.refl _) hx2
            refine ⟨x1, x2, _, _, rfl, rfl, t3 _ _ hx1b, upd_same, leSz (by simp; omega), fun x3 hx3 => ?_⟩
            have t4 := sNew (o := .lst ((qs.take k).map tV ++ [V.str (S tt)])) (Same.refl _) hx3
            refine ⟨_, rfl, _, rfl, _, rfl, pp, _, rfl, SqL.of (t4 _ _ (t3 _ _ hppb)), fun x4 hx4 => ?_⟩
            rw [ec2]
            have t5 := sNew (o := .lst ((qs.drop k).map tV)) (Same.refl _) hx4
            refine ⟨x3, x4, _, _, rfl, rfl, t5 _ _ upd_same, upd_same, leSz (by simp; omega), fun x5 hx5 => ?_⟩
            have t6 := sNew (o := .lst ((qs.take k).map tV ++ [V.str (S tt)] ++ (qs.drop k).map tV)) (Same.refl _) hx5
            refine ⟨x5, qs.take k ++ [tt] ++ qs.drop k, _, rfl, (((Wb.same t3).same t4).same t5).same t6, ?_, by simp; omega, fun q hq => ?_⟩
            · rw [upd_same]; simp
            · rcases List.mem_append.mp hq with hq | hq
              · rcases List.mem_append.mp hq with hq | hq
                · exact hqo q (List.mem_of_mem_take hq)
                · have : q = tt := by simpa using hq
                  subst this; exact hto
              · exact hqo q (List.mem_of_mem_drop hq)
          · exact ⟨pp, qs, none, rfl, W8, hpp8, by omega, hqo⟩
        clear W7 hsp7 hpp7 hql hqo hqm
        rintro σ' H8 ⟨pp, qs, u9, rfl, W8, hpp8, hql, hqo⟩
        have hfl : qs.flatten.length ≤ 82 := by
          have h1 := flat_le (f := fun x => x) (m := 2) (ps := qs) fun t ht => (hqo t ht).1
          rw [List.map_id'] at h1
          omega
        have hfs : ∀ c ∈ qs.flatten, c ∈ sgn := fun c hc => by
          obtain ⟨q, hq, hcq⟩ := List.mem_flatten.mp hc
          exact (hqo q hq).2 c hcq
        refine ⟨⟨_, rfl⟩, _, rfl, pp, qs, rfl, rfl, SqL.of hpp8, by omega, ?_⟩
        refine ⟨fun σ' H' => ∃ n : List Nat, σ' = [some (.ref a), some (.ref b), some (.ref lb), u, some (.ref lo), some (.str (S n)), some (.ref pp), u7, none, u9] ∧ LW H' b l lb lib 10 ∧ n.length ≤ 83 ∧ ∀ c ∈ n, c ∈ sgn, ?_, ?_⟩
        · refine ⟨_, rfl, b, l, 8, rfl, W8.bx, by decide, by decide, fun H9 r k9 B9 r0 r1 => ?_⟩
          have W9 := W8.kp k9 B9
          refine ⟨rfl, _, rfl, if2 (fun e5 => ?_) (fun _ => ?_)⟩
          · refine ⟨_, rfl, _, _, rfl, rfl, by rw [List.length_cons, List.length_nil]; omega, _, rfl, W9, by rw [List.length_append, List.length_cons, List.length_nil]; omega, fun c hc => ?_⟩
            rcases List.mem_append.mp hc with hc | hc
            · exact hfs c hc
            · have : c = 64 := by simpa using hc
              subst this; decide
          · exact ⟨_, rfl, W9, by omega, hfs⟩
        clear n hs4 hl4 hk4 hr4 hfl hfs hpfl hpsl hsp hsp0 W8 hpp8
        rintro σ' H9 ⟨n, rfl, W9, hn, hns⟩
        intro cp hcp
        obtain ⟨kvs, hlb9, lk⟩ := W9.ex
        have ncp : cp ≠ lb := (ne_of_none hlb9 hcp).symm
        refine ⟨lb, .dK kvs, by rw [upd_ne ncp.symm]; exact hlb9, trivial, fun od => ?_⟩
        refine ⟨_, rfl, lb, od, rfl, .inl ⟨kvs, upd_same, ?_⟩⟩
        refine for_it walk_keys (fun i σ' H' => ∃ (u3 : Option V), σ' = [some (.ref a), some (.ref b), some (.ref lb), u3, some (.ref lo), some (.str (S n)), some (.ref pp), u7, some (.ref cp), u9] ∧ H' lb = some (.frz od (.dK kvs)) ∧ H' cp = some (.dK (kvs.take i))) ?_ ?_ ?_ ?_
        · exact ⟨_, rfl, upd_same, by rw [upd_ne ncp, upd_same]; rfl⟩
        · rintro i σ' Ha hi ⟨u3, rfl, ha, _⟩
          exact ha
        · rintro i x σ' Ha Hb hi ⟨u3, rfl, ha, hb'⟩ ⟨rfl, k, v, hkv, rfl⟩
          have hil := (List.getElem?_eq_some_iff.mp hkv).1
          have hle := lk.le
          refine ⟨_, rfl, _, rfl, lb, v, rfl, .inl ⟨kvs, k, .inr ⟨od, ha⟩, rfl, (valV_at lk.nd hkv).symm⟩, _, rfl, _, rfl, cp, _, rfl, DPut.k hb' (ltSz (by rw [List.length_take]; omega)), ?_⟩
          refine ⟨_, rfl, by rw [upd_ne ncp.symm]; exact ha, ?_⟩
          rw [upd_same, put_take lk.nd hkv]
        · rintro σ' Ha ⟨u3, rfl, ha, hb'⟩
          refine ⟨ha, ?_⟩
          rw [List.take_length] at hb'
          have hcpA : upd Ha lb (.dK kvs) cp = some (.dK kvs) := by rw [upd_ne ncp]; exact hb'
          have ok := ansM_ok hns lk.sg
          refine ⟨_, rfl, _, rfl, n, cp, lib, rfl, ⟨kvs, hcpA, lk.vl⟩, lk.ok, by omega, fun Hb p1 sb h1 => ?_⟩
          refine ⟨_, rfl, _, rfl, n, lb, lib, rfl, ⟨kvs, sb _ _ upd_same, lk.vl⟩, lk.ok, by omega, fun Hc p2 sc' h2 => ?_⟩
          refine ⟨_, _, .tup (SqT.of (sc' _ _ h1)) (Rs.dp _), .tup (SqT.of h2) (Rs.dp _), Rs.sh _ ok, Rs.sh _ ok, ?_⟩
          have sh := Rs.sh _ ok
          unfold SeqAt.shaped at sh
          rw [Bool.and_eq_true] at sh
          rw [eqvRefl sh.1]
          refine ⟨true, rfl, ift rfl ?_⟩
          refine ⟨_, rfl, _, rfl, cp, lb, kvs, kvs, rfl, rfl, sc' _ _ (sb _ _ hcpA), sc' _ _ (sb _ _ upd_same), rfl, fun p hp => ?_, kq _⟩
          obtain ⟨i, hi, rfl⟩ := List.getElem_of_mem hp
          refine ⟨valV_at lk.nd (List.getElem?_eq_getElem hi), ?_⟩
          obtain ⟨d, t, e⟩ := lk.fm _ hp
          rw [e]; rfl

end
/-! ### the head -/
def dd (x : Str) (st : Stmt) : He.DefD := ⟨(x, none), x, x, defArgs st, defBody st, defScope st, [], []⟩
def dx (C q : Str) (st : Stmt) : He.DefD := ⟨(C, some "__init__"), "__init__", q, defArgs st, defBody st, defScope st, [], []⟩
def dm (C m : String) (st : Stmt) : He.DefD := ⟨(Str.ofString C, some (Str.ofString m)), Str.ofString m, Str.ofString (C ++ "." ++ m), defArgs st, defBody st, defScope st, [], []⟩
def fn : List He.DefD := [dx "InvalidRecording" "InvalidRecording.__init__" s_InvalidRecording, dx "TooManyKeys" "TooManyKeys.__init__" s_TooManyKeys, dx "UnknownName" "UnknownName.__init__" s_UnknownName, dd "key_length" s_key_length, dd "read_bracket" s_read_bracket, ⟨("read", none), "read", "read", defArgs s_read, defBody s_read, defScope s_read, [.bl false], []⟩, dd "keys_in" s_keys_in, dd "items_of" s_items_of, dd "expand" s_expand, dd "_law_signs" s_signs, dd "_law_box" s_box, dd "_law_take" s_take, dd "_law_key" s_lkey, dd "_law_recording" s_lrec, dd "_law_fault" s_lfault, dd "_law_asked" s_lasked, dd "_law_split" s_lsplit, dd "_law_due" s_ldue68, dd "law" s_law]
def fa : List He.Fa := [.glo "key_length", .glo "read_bracket", .glo "read", .glo "keys_in", .glo "items_of", .glo "expand", .glo "_law_signs", .glo "_law_box", .glo "_law_take", .glo "_law_key", .glo "_law_recording", .glo "_law_fault", .glo "_law_asked", .glo "_law_split", .glo "_law_due", .glo "law", .glo "KeyreelError", .glo "DeskError", .free "len", .free "int", .free "list", .free "range", .free "max", .free "enumerate", .free "isinstance", .free "str", .free "tuple", .free "repr", .free "bool", .free "min", .free "ValueError", .str "SIGNS" (S sgn), .str "PLAIN_KEYS" (S [62, 120, 119, 110, 36, 94, 109, 98, 107, 99, 112]), .str "SIGN_KEYS" (S [39, 61, 47]), .str "LETTERS" (S ltr), .int "MOST_KEYS" 60, .int "MOST_DEPTH" 8, .exm "InvalidRecording" "InvalidRecording" true, .exm "TooManyKeys" "InvalidRecording" false, .exm "TooManyKeys" "TooManyKeys" true, .exm "UnknownName" "InvalidRecording" false, .exm "UnknownName" "TooManyKeys" false, .exm "UnknownName" "UnknownName" true]
def exq (K : PySem.W.Frag) : Bool := [He.ex1B K "InvalidRecording" "place", He.ex1B K "TooManyKeys" "limit", He.ex1B K "UnknownName" "name", He.kitB K "UnknownName" "DeskError" true, He.kitB K "UnknownName" "KeyreelError" true].all id
abbrev R : PySem.W.OpenRow := PySem.W.OpenLaw.row PySem.Challenge.rw_keyreel_k68_calls_are_expanded
def pd : List PD := []
def cd : List PD := []
def asl : List Addr := [3, 6, 4, 24, 44, 63, 75, 94, 103, 110, 118, 125, 132, 139, 146, 153, 160, 167, 174, 181, 188, 195, 200, 207, 0, 23, 43, 62, 74, 93, 102, 109, 117, 111, 124, 131, 138, 145, 152, 159, 166, 173, 180, 187, 194, 199, 206, 22, 25, 41, 42, 60, 61, 73, 91, 92, 97, 98, 99, 100, 101, 104, 105, 106, 107, 108, 112, 113, 114, 115, 116, 119, 120, 121, 122, 123, 126, 127, 128, 129, 130, 133, 134, 135, 136, 137, 140, 141, 142, 143, 144, 147, 148, 149, 150, 151, 154, 155, 156, 157, 158, 161, 162, 163, 164, 165, 168, 169, 170, 171, 172, 175, 176, 177, 178, 179, 182, 183, 184, 185, 186, 189, 190, 191, 192, 193, 196, 197, 198, 201, 202, 203, 204, 205, 40, 59, 90]
abbrev hk : PySem.W.Hook := hookL asl fa fn pd cd exq
def ob (s : PySem.W.SharedT) : AlL := obsL asl fa fn pd cd exq (HandSHeadRun.getT s)
theorem ob_eq (s : PySem.W.SharedT) : ob s = hk.obs s.abs := obsL_eq (HandSHeadRun.getT_eq s)
def loose0 : List Str := [("__name__" : Str), ("KeyreelError" : Str), ("InvalidRecording" : Str), ("TooManyKeys" : Str), ("DeskError" : Str), ("UnknownName" : Str), ("DIGITS" : Str), ("CAPITALS" : Str), ("LETTERS" : Str), ("SIGNS" : Str), ("MOST_KEYS" : Str), ("MOST_DEPTH" : Str)]
def loose1 : List Str := [("PLAIN_KEYS" : Str), ("SIGN_KEYS" : Str), ("key_length" : Str), ("read_bracket" : Str), ("read" : Str), ("keys_in" : Str), ("items_of" : Str), ("expand" : Str), ("_law_signs" : Str), ("_law_box" : Str), ("_law_take" : Str), ("_law_key" : Str)]
def loose2 : List Str := [("_law_recording" : Str), ("_law_fault" : Str), ("_law_asked" : Str), ("_law_split" : Str), ("_law_due" : Str)]
def loose : List Str := loose0 ++ loose1 ++ loose2
theorem run (w : World) : HandSHeadRun.RunEq R (PySem.W.view R.prog [31]) hk ob 6000 loose w := by
  intro os
  kernel_rfl
theorem kcal {P : Program} {w : World} {K : PySem.W.Frag} {mg : Str → Option Value} {base : Heap} {k : Nat} {x : Str} {sp : Sp} {f : Addr} {fd : FuncData} {ps : List Str} (F : FnOk P w K mg base (CX P w) k f fd ps sp) (g : mg x = some (.ref f)) (kp : PySem.W.keepIn K (.ref f) = true) (b : Binds K fd ps []) : KCal P w K mg base k x sp [] := ⟨f, fd, ps, [], F, g, kp, b, .nil⟩
theorem krec {P : Program} {w : World} {K : PySem.W.Frag} {mg : Str → Option Value} {base : Heap} {lv : Nat → Nat} {sp : Nat → Sp} {N : Nat} {x : Str} {f : Addr} {fd : FuncData} {ps : List Str} (h0 : ∀ vs H Q E, sp 0 vs H Q E → False) (g : mg x = some (.ref f)) (kp : PySem.W.keepIn K (.ref f) = true) (b : Binds K fd ps [])
    (st : ∀ d, d ≤ N → KCal P w K mg base (lv d) x (sp d) [] → FnOk P w K mg base (CX P w) (lv (d + 1)) f fd ps (sp (d + 1))) : ∀ d, d ≤ N + 1 → KCal P w K mg base (lv d) x (sp d) []
  | 0, _ => ⟨f, fd, ps, [], ⟨fun vs H Q E h => (h0 vs H Q E h).elim, fun A outer s H args us vs Q E _ _ _ _ h => (h0 vs H Q E h).elim⟩, g, kp, b, .nil⟩
  | d + 1, h => ⟨f, fd, ps, [], st d (Nat.le_of_succ_le_succ h) (krec h0 g kp b st d (Nat.le_of_succ_le h)), g, kp, b, .nil⟩
theorem facts {P : Program} {w : World} {K : PySem.W.Frag} {h : Heap} {mg : Str → Option Value} {f : Addr} (X : K.In h) (G : h.Ns mainGlobals mg) (hfa : mg ("law" : Str) = some (.ref f)) (c0 : SaysL fa fn pd cd exq K) :
    ∃ fd : FuncData, (∀ (s : Shared) (v : Value), BindsTo s fd ⟨[v], []⟩ [("_law_script", v)]) ∧ ∀ base : Heap, K.In base → base.Ns mainGlobals mg → FnOk P w K mg base CX0 13 f fd ["_law_script"] (spLaw K) := by
  have c : He.SaysD fa fn K := c0.d
  have more : ∀ i (b : Bool), [He.ex1B K "InvalidRecording" "place", He.ex1B K "TooManyKeys" "limit", He.ex1B K "UnknownName" "name", He.kitB K "UnknownName" "DeskError" true, He.kitB K "UnknownName" "KeyreelError" true][i]? = some b → b = true := fun i b hb => List.all_eq_true.mp c0.ex b (List.mem_of_getElem? hb)
  have T : TX K mg := by
    refine { b_len := ?_, b_int := ?_, b_list := ?_, b_range := ?_, b_max := ?_, b_enumerate := ?_, b_isinstance := ?_, b_str := ?_, b_tuple := ?_, b_repr := ?_, b_bool := ?_, b_min := ?_, b_ValueError := ?_, g_SIGNS := ?_, g_PLAIN_KEYS := ?_, g_SIGN_KEYS := ?_, g_LETTERS := ?_, g_MOST_KEYS := ?_, g_MOST_DEPTH := ?_ }
    · exact He.free_ok X G (c.fact 18 (f := .free "len") rfl)
    · exact He.free_ok X G (c.fact 19 (f := .free "int") rfl)
    · exact He.free_ok X G (c.fact 20 (f := .free "list") rfl)
    · exact He.free_ok X G (c.fact 21 (f := .free "range") rfl)
    · exact He.free_ok X G (c.fact 22 (f := .free "max") rfl)
    · exact He.free_ok X G (c.fact 23 (f := .free "enumerate") rfl)
    · exact He.free_ok X G (c.fact 24 (f := .free "isinstance") rfl)
    · exact He.free_ok X G (c.fact 25 (f := .free "str") rfl)
    · exact He.free_ok X G (c.fact 26 (f := .free "tuple") rfl)
    · exact He.free_ok X G (c.fact 27 (f := .free "repr") rfl)
    · exact He.free_ok X G (c.fact 28 (f := .free "bool") rfl)
    · exact He.free_ok X G (c.fact 29 (f := .free "min") rfl)
    · exact He.free_ok X G (c.fact 30 (f := .free "ValueError") rfl)
    · exact He.str_ok X G (c.fact 31 (f := .str "SIGNS" (S sgn)) rfl)
    · exact He.str_ok X G (c.fact 32 (f := .str "PLAIN_KEYS" (S [62, 120, 119, 110, 36, 94, 109, 98, 107, 99, 112])) rfl)
    · exact He.str_ok X G (c.fact 33 (f := .str "SIGN_KEYS" (S [39, 61, 47])) rfl)
    · exact He.str_ok X G (c.fact 34 (f := .str "LETTERS" (S ltr)) rfl)
    · exact He.int_ok X G (c.fact 35 (f := .int "MOST_KEYS" 60) rfl)
    · exact He.int_ok X G (c.fact 36 (f := .int "MOST_DEPTH" 8) rfl)
  obtain ⟨fdx0, Fx0⟩ := c.def_ 0 (d := dx "InvalidRecording" "InvalidRecording.__init__" s_InvalidRecording) rfl
  have bx0 : Binds K fdx0 ["self", "place"] [] := FunD.bindsN (ps := ["self", "place"]) Fx0 fun _ _ _ _ _ _ us hl => match us, hl with | [_, _], _ => rfl
  obtain ⟨fdx1, Fx1⟩ := c.def_ 1 (d := dx "TooManyKeys" "TooManyKeys.__init__" s_TooManyKeys) rfl
  have bx1 : Binds K fdx1 ["self", "limit"] [] := FunD.bindsN (ps := ["self", "limit"]) Fx1 fun _ _ _ _ _ _ us hl => match us, hl with | [_, _], _ => rfl
  obtain ⟨fdx2, Fx2⟩ := c.def_ 2 (d := dx "UnknownName" "UnknownName.__init__" s_UnknownName) rfl
  have bx2 : Binds K fdx2 ["self", "name"] [] := FunD.bindsN (ps := ["self", "name"]) Fx2 fun _ _ _ _ _ _ us hl => match us, hl with | [_, _], _ => rfl
  obtain ⟨fd0, F0⟩ := c.def_ 3 (d := dd "key_length" s_key_length) rfl
  have b0 : Binds K fd0 ["notation", "at", "calls"] [] := FunD.bindsN (ps := ["notation", "at", "calls"]) F0 fun _ _ _ _ _ _ us hl => match us, hl with | [_, _, _], _ => rfl
  obtain ⟨fd1, F1⟩ := c.def_ 4 (d := dd "read_bracket" s_read_bracket) rfl
  have b1 : Binds K fd1 ["sign", "at", "groups", "items"] [] := FunD.bindsN (ps := ["sign", "at", "groups", "items"]) F1 fun _ _ _ _ _ _ us hl => match us, hl with | [_, _, _, _], _ => rfl
  obtain ⟨fd2, F2⟩ := c.def_ 5 (d := ⟨("read", none), "read", "read", defArgs s_read, defBody s_read, defScope s_read, [.bl false], []⟩) rfl
  have G2 : FunD K "read" "read" (defArgs s_read) (defBody s_read) (defScope s_read) [.bl false] [] _ fd2 := F2
  obtain ⟨ds2, v2, b2⟩ := FunD.binds1 (ps := ["notation", "calls"]) G2 1 0 (by simp) (by rfl) (fun T kV doc pm an cdv ct us its h1 h2 => match us, its, h1, h2 with | [_], [_], _, _ => ⟨_, rfl, rfl⟩)
  obtain ⟨dz2, vz2, bz2⟩ := FunD.binds1 (ps := ["notation", "calls"]) G2 2 1 (by simp) (by rfl) (fun T kV doc pm an cdv ct us its h1 h2 => match us, its, h1, h2 with | [_, _], [_], _, _ => ⟨_, rfl, rfl⟩)
  obtain ⟨fd3, F3⟩ := c.def_ 6 (d := dd "keys_in" s_keys_in) rfl
  have b3 : Binds K fd3 ["items"] [] := FunD.bindsN (ps := ["items"]) F3 fun _ _ _ _ _ _ us hl => match us, hl with | [_], _ => rfl
  obtain ⟨fd4, F4⟩ := c.def_ 7 (d := dd "items_of" s_items_of) rfl
  have b4 : Binds K fd4 ["recording"] [] := FunD.bindsN (ps := ["recording"]) F4 fun _ _ _ _ _ _ us hl => match us, hl with | [_], _ => rfl
  obtain ⟨fd5, F5⟩ := c.def_ 8 (d := dd "expand" s_expand) rfl
  have b5 : Binds K fd5 ["notation", "library"] [] := FunD.bindsN (ps := ["notation", "library"]) F5 fun _ _ _ _ _ _ us hl => match us, hl with | [_, _], _ => rfl
  obtain ⟨fd6, F6⟩ := c.def_ 9 (d := dd "_law_signs" s_signs) rfl
  have b6 : Binds K fd6 [] [] := FunD.bindsN (ps := []) F6 fun _ _ _ _ _ _ us hl => match us, hl with | [], _ => rfl
  obtain ⟨fd7, F7⟩ := c.def_ 10 (d := dd "_law_box" s_box) rfl
  have b7 : Binds K fd7 ["_law_script"] [] := FunD.bindsN (ps := ["_law_script"]) F7 fun _ _ _ _ _ _ us hl => match us, hl with | [_], _ => rfl
  obtain ⟨fd8, F8⟩ := c.def_ 11 (d := dd "_law_take" s_take) rfl
  have b8 : Binds K fd8 ["_law_box_here", "_law_size"] [] := FunD.bindsN (ps := ["_law_box_here", "_law_size"]) F8 fun _ _ _ _ _ _ us hl => match us, hl with | [_, _], _ => rfl
  obtain ⟨fd9, F9⟩ := c.def_ 12 (d := dd "_law_key" s_lkey) rfl
  have b9 : Binds K fd9 ["_law_box_here", "_law_signs_here"] [] := FunD.bindsN (ps := ["_law_box_here", "_law_signs_here"]) F9 fun _ _ _ _ _ _ us hl => match us, hl with | [_, _], _ => rfl
  obtain ⟨fd10, F10⟩ := c.def_ 13 (d := dd "_law_recording" s_lrec) rfl
  have b10 : Binds K fd10 ["_law_box_here", "_law_most", "_law_signs_here", "_law_deep"] [] := FunD.bindsN (ps := ["_law_box_here", "_law_most", "_law_signs_here", "_law_deep"]) F10 fun _ _ _ _ _ _ us hl => match us, hl with | [_, _, _, _], _ => rfl
  obtain ⟨fd11, F11⟩ := c.def_ 14 (d := dd "_law_fault" s_lfault) rfl
  have b11 : Binds K fd11 ["_law_notation"] [] := FunD.bindsN (ps := ["_law_notation"]) F11 fun _ _ _ _ _ _ us hl => match us, hl with | [_], _ => rfl
  obtain ⟨fd12, F12⟩ := c.def_ 15 (d := dd "_law_asked" s_lasked) rfl
  have b12 : Binds K fd12 ["_law_notation", "_law_library"] [] := FunD.bindsN (ps := ["_law_notation", "_law_library"]) F12 fun _ _ _ _ _ _ us hl => match us, hl with | [_, _], _ => rfl
  obtain ⟨fd13, F13⟩ := c.def_ 16 (d := dd "_law_split" s_lsplit) rfl
  have b13 : Binds K fd13 ["_law_notation"] [] := FunD.bindsN (ps := ["_law_notation"]) F13 fun _ _ _ _ _ _ us hl => match us, hl with | [_], _ => rfl
  obtain ⟨fd14, F14⟩ := c.def_ 17 (d := dd "_law_due" s_ldue68) rfl
  have b14 : Binds K fd14 ["_law_notation", "_law_library"] [] := FunD.bindsN (ps := ["_law_notation", "_law_library"]) F14 fun _ _ _ _ _ _ us hl => match us, hl with | [_, _], _ => rfl
  obtain ⟨fd15, F15⟩ := c.def_ 18 (d := dd "law" s_law) rfl
  have b15 : Binds K fd15 ["_law_script"] [] := FunD.bindsN (ps := ["_law_script"]) F15 fun _ _ _ _ _ _ us hl => match us, hl with | [_], _ => rfl
  have e := hfa.symm.trans (He.glo_ok X G (c.fact 15 (f := .glo "law") rfl))
  cases e
  have bA := FunD.bindsA (ps := ["_law_script"]) F15 fun _ _ _ _ _ _ us hl => match us, hl with | [_], _ => rfl
  refine ⟨fd15, fun s v => bA s [v] rfl, fun base _ _ => ?_⟩
  have x_InvalidRecording : Ex1 P w K mg base "InvalidRecording" "place" (ga K "InvalidRecording") := He.ex1_ok X G (more 0 _ rfl) (ok_InvalidRecording (He.oexB_ok (He.ba (He.ba (more 0 _ rfl)).2).1) (He.eqO_ok (He.ba (He.ba (He.ba (He.ba (He.ba (more 0 _ rfl)).2).2).2).2).1) Fx0) bx0
  have x_TooManyKeys : Ex1 P w K mg base "TooManyKeys" "limit" (ga K "TooManyKeys") := He.ex1_ok X G (more 1 _ rfl) (ok_TooManyKeys (He.oexB_ok (He.ba (He.ba (more 1 _ rfl)).2).1) (He.eqO_ok (He.ba (He.ba (He.ba (He.ba (He.ba (more 1 _ rfl)).2).2).2).2).1) Fx1) bx1
  have x_UnknownName : Ex1 P w K mg base "UnknownName" "name" (ga K "UnknownName") := He.ex1_ok X G (more 2 _ rfl) (ok_UnknownName (He.oexB_ok (He.ba (He.ba (more 2 _ rfl)).2).1) (He.eqO_ok (He.ba (He.ba (He.ba (He.ba (He.ba (more 2 _ rfl)).2).2).2).2).1) Fx2) bx2
  have Y : TY68 K mg := ⟨He.glo_ok X G (c.fact 16 (f := .glo "KeyreelError") rfl), He.glo_ok X G (c.fact 17 (f := .glo "DeskError") rfl), of_decide_eq_true (more 3 _ rfl), of_decide_eq_true (more 4 _ rfl), He.exm_ok (c.fact 37 (f := .exm "InvalidRecording" "InvalidRecording" true) rfl), He.exm_ok (c.fact 38 (f := .exm "TooManyKeys" "InvalidRecording" false) rfl), He.exm_ok (c.fact 39 (f := .exm "TooManyKeys" "TooManyKeys" true) rfl), He.exm_ok (c.fact 40 (f := .exm "UnknownName" "InvalidRecording" false) rfl), He.exm_ok (c.fact 41 (f := .exm "UnknownName" "TooManyKeys" false) rfl), He.exm_ok (c.fact 42 (f := .exm "UnknownName" "UnknownName" true) rfl)⟩
  have c_key_length : KCal P w K mg base 3 "key_length" (spKL K) [] := kcal (ok_key_length T x_InvalidRecording F0) (He.glo_ok X G (c.fact 0 (f := .glo "key_length") rfl)) F0.kp b0
  have c_read_bracket : KCal P w K mg base 3 "read_bracket" (spRB K) [] := kcal (ok_read_bracket T x_InvalidRecording F1) (He.glo_ok X G (c.fact 1 (f := .glo "read_bracket") rfl)) F1.kp b1
  have c_read : KCal P w K mg base 4 "read" (spRead K) [.bl false] := ⟨_, _, _, ds2, ok_read T x_InvalidRecording c_key_length c_read_bracket F2, He.glo_ok X G (c.fact 2 (f := .glo "read") rfl), F2.kp, b2, v2⟩
  have cz_read : KCal P w K mg base 4 "read" (spRead K) [] := ⟨_, _, _, dz2, ok_read T x_InvalidRecording c_key_length c_read_bracket F2, He.glo_ok X G (c.fact 2 (f := .glo "read") rfl), F2.kp, bz2, vz2⟩
  have c_keys_in : KCal P w K mg base (9) "keys_in" (spKeysIn 9) [] := krec (lv := fun d => d) (N := 8) (fun _ _ _ _ h => h) (He.glo_ok X G (c.fact 3 (f := .glo "keys_in") rfl)) F3.kp b3 (fun d hd cc => ok_keys_in T cc F3) 9 (by decide)
  have c_items_of : KCal P w K mg base 10 "items_of" (spItemsS K) [] := kcal (ok_items_of T x_TooManyKeys c_read c_keys_in F4) (He.glo_ok X G (c.fact 4 (f := .glo "items_of") rfl)) F4.kp b4
  have c_expand : KCal P w K mg base 11 "expand" (spExpand K) [] := kcal (ok_expand T x_UnknownName c_key_length cz_read c_keys_in c_items_of F5) (He.glo_ok X G (c.fact 5 (f := .glo "expand") rfl)) F5.kp b5
  have c__law_signs : KCal P w K mg base 1 "_law_signs" spSigns [] := kcal (ok_signs F6) (He.glo_ok X G (c.fact 6 (f := .glo "_law_signs") rfl)) F6.kp b6
  have c__law_box : KCal P w K mg base 1 "_law_box" (spBox K) [] := kcal (ok_box T F7) (He.glo_ok X G (c.fact 7 (f := .glo "_law_box") rfl)) F7.kp b7
  have c__law_take : KCal P w K mg base 1 "_law_take" spTake [] := kcal (ok_take T F8) (He.glo_ok X G (c.fact 8 (f := .glo "_law_take") rfl)) F8.kp b8
  have c__law_key : KCal P w K mg base 2 "_law_key" spLKey [] := kcal (ok_lkey T c__law_take F9) (He.glo_ok X G (c.fact 9 (f := .glo "_law_key") rfl)) F9.kp b9
  have c__law_recording : KCal P w K mg base 3 "_law_recording" spLRec [] := kcal (ok_lrec T c__law_take c__law_key F10) (He.glo_ok X G (c.fact 10 (f := .glo "_law_recording") rfl)) F10.kp b10
  have c__law_fault : KCal P w K mg base 2 "_law_fault" spLFault [] := kcal (ok_lfault T c__law_signs F11) (He.glo_ok X G (c.fact 11 (f := .glo "_law_fault") rfl)) F11.kp b11
  have c__law_asked : KCal P w K mg base 12 "_law_asked" spLAsked [] := kcal (ok_lasked T Y x_InvalidRecording x_TooManyKeys x_UnknownName c_expand F12) (He.glo_ok X G (c.fact 12 (f := .glo "_law_asked") rfl)) F12.kp b12
  have c__law_split : KCal P w K mg base 1 "_law_split" spLSplit [] := kcal (ok_lsplit T F13) (He.glo_ok X G (c.fact 13 (f := .glo "_law_split") rfl)) F13.kp b13
  have c__law_due : KCal P w K mg base 3 "_law_due" spLDue68 [] := kcal (ok_ldue68 T c__law_split c__law_fault F14) (He.glo_ok X G (c.fact 14 (f := .glo "_law_due") rfl)) F14.kp b14
  exact ok0 (ok_law T c__law_box c__law_take c__law_recording c__law_split c__law_asked c__law_due F15) fun _ _ _ _ h => h
end Kr
open PySem PySem.W PySem.Calls PyProof.Rows
set_option maxRecDepth 100000 in
set_option maxHeartbeats 0 in
theorem PySem.Challenge.cw_keyreel_k68_calls_are_expanded_holds : PySem.Challenge.rw_keyreel_k68_calls_are_expanded.Holds := by
  w_on; o_law
  refine HandSHeadRun.head_any (r := OpenLaw.row PySem.Challenge.rw_keyreel_k68_calls_are_expanded) (q := view (OpenLaw.row PySem.Challenge.rw_keyreel_k68_calls_are_expanded).prog [31]) (H := Kr.hk) (ob := Kr.ob) (M := 6000) (loose := Kr.loose) (d := HandSHeadRun.topDef (OpenLaw.row PySem.Challenge.rw_keyreel_k68_calls_are_expanded).prog 31) (kwd := []) Kr.ob_eq
    (by kernel_rfl) (fun s => by kernel_rfl) Kr.run (by kernel_rfl) (by kernel_rfl) (by kernel_rfl) (by rfl) (by first | assumption | decide +kernel) (by decide +kernel) ⟨rfl, rfl, rfl, rfl, rfl, by decide +kernel⟩ ?hw ?hc
  case hw => w_witness2
  case hc =>
    refine L2.walk_ofE (l := PySem.Challenge.rw_keyreel_k68_calls_are_expanded) (n := 63) (k := 13) (x := "_law_script") (CX := L2.CX0) rfl (by decide) (by kernel_rfl) ⟨rfl, by decide, by decide⟩ ?F (fun _ _ _ _ z => z)
    intro w mg fa h Y G hmg0
    obtain ⟨K, KX, c⟩ := Y
    have hmg : mg ("law" : PySem.Str) = some (.ref fa) := by
      have e : (HandSHeadRun.topDef (OpenLaw.row PySem.Challenge.rw_keyreel_k68_calls_are_expanded).prog 31).name = ("law" : PySem.Str) := by kernel_rfl
      rw [← e]
      exact hmg0
    obtain ⟨fd, hb, hF⟩ := Kr.facts (P := (PySem.Challenge.rw_keyreel_k68_calls_are_expanded).prog) (w := w) KX G hmg c
    exact ⟨K, fd, Kr.spLaw K, KX, hb, fun H a ns hl _ hS => ⟨a, ns, rfl, hS, fun _ => rfl⟩, hF⟩
#print axioms PySem.Challenge.cw_keyreel_k68_calls_are_expanded_holds
