import PyProof.Rows.All
import Wide.All
import OpenK.AllK
import Wide.FinOn
import HandS.ForMost
import HandS.ForExc
import HandS.Wide
import HandS.Flow
import HandS.Walk
import HandS.IsInst
import HandS.ExcInit
import HandS.ExcField
import HandS.ExcIs
import HandS.Defaults
import HandS.Codes
import HandS.CallSlots
import HandS.TryOnly
import HandS.Evl
import HandS.Property
import HandS.MakeKw
import HandS.MakeKwOnly
import HandS.Style
import HandS.Head0
import HandS.Head1
import HandS.Head2
import HandS.HeadEnd
import HandS.HeadHook1
import HandS.HeadHook2
import HandS.HeadHook3
import HandS.HeadHook4
import HandS.HeadWalk
import PySem.Challenge.RW_keyreel_k12_whole_pages
set_option Elab.async false
set_option linter.all false
set_option maxRecDepth 100000
set_option maxHeartbeats 2000000
namespace L2
open PySem PySem.Spec PyProof.Rows
/-! ### enumerate(text) -/
def Ites (x : Str) : It := ⟨fun i _ => i < x.cps.size, fun i H v H' => ∃ T c, v = .ref T ∧ H T = none ∧ H' = upd H T (.tup [.int (i : Nat), .str ⟨#[c]⟩]) ∧ x.cps[i]? = some c, fun i _ => i = x.cps.size⟩
theorem turn_enumS {P : Program} {w : World} {K : PySem.W.Frag} {elts : List Expr} {kk : Nat} {tpos : Pos} (x : Str) (t : Tok) (ty : String) (hty : ty = "str_ascii_iterator" ∨ ty = "str_iterator") (e it : Addr) :
    Turn P w K (.Tuple elts kk tpos) (Ites x) [e, it] e (fun i h => (∃ old, IsEnum h e it ((i : Nat) : Int) old) ∧ h.IsStrIter it ty x t i ∧ e ≠ it) where
  mem := by simp
  obj := fun i h st b hb => by
    obtain ⟨⟨old, he⟩, ⟨o, ho, hc, hd⟩, _⟩ := st
    have e' : b = e ∨ b = it := by simpa using hb
    rcases e' with z | z
    · rw [z]; exact ⟨_, he, fun v q => nomatch q⟩
    · rw [z]; exact ⟨o, ho, fun v q => by rw [hd] at q; cases q⟩
  keep := fun i h h' st k => by
    obtain ⟨⟨old, he⟩, ⟨o, ho, r⟩, hne⟩ := st
    exact ⟨⟨old, k e (by simp) _ he⟩, ⟨o, k it (by simp) o ho, r⟩, hne⟩
  item := by
    intro X hP hw hK hc i pins s σ H E I hf st hg
    subst hP hw hK
    obtain ⟨⟨old, he⟩, hit, hne⟩ := st
    have D : Draws X.prog X.w X.A.in1 it [it] x.cps.size (fun i v => ∃ c u, x.cps[i]? = some c ∧ v = .str ⟨#[c]⟩ u) (fun i h => h.IsStrIter it ty x t i) := by
      rcases hty with e | e
      · rw [e]; exact Draws.strAscii (show X.A.in1.handled = none from I.ok.hd hc) it x t
      · rw [e]; exact Draws.strWide (show X.A.in1.handled = none from I.ok.hd hc) it x t
    have hel : e < s.heap.objs.size := Heap.lt_size he
    have hil : it < s.heap.objs.size := by obtain ⟨_, q, _⟩ := hit; exact Heap.lt_size q
    refine wpAny_pyNext_enum_itemD D he hit hg hne (by simpa using hne) fun v h' tk hv ho hit' hT hsz hk => ?_
    obtain ⟨c, u, hcx, rfl⟩ := hv
    refine ⟨_, rfl, wpAny_letOwnedTupleGo_enum (s := { s with heap := h', toks := tk + 1 }) ho fun h'' he' sb => ?_⟩
    have hT2 : h''.get? s.heap.objs.size = some { cls := .type "tuple", data := .seq #[.int i tk, .str ⟨#[c]⟩ u] } := (sb.2 _ (Nat.ne_of_gt hel)).trans hT
    have new : ObjOk X.prog X.w (upd H s.heap.objs.size (.tup [.int (i : Nat), .str ⟨#[c]⟩])) h'' s.heap.objs.size (.tup [.int (i : Nat), .str ⟨#[c]⟩]) :=
      ⟨by show 2 ≤ sizeLine; decide, [.int i tk, .str ⟨#[c]⟩ u], .cons ⟨_, rfl⟩ (.cons ⟨_, rfl⟩ .nil), ⟨_, hT2, rfl, _, rfl⟩⟩
    have I1 : Inv X pins σ (upd H s.heap.objs.size (.tup [.int (i : Nat), .str ⟨#[c]⟩])) { s with heap := h'', toks := tk + 1 } :=
      I.turnedNew (ch := [e, it]) (fun b ob hb q => (sb.2 b (fun z => hb (by simp [z]))).trans (hk b ob (fun z => hb (by simp [z])) (fun z => hb (by simp [z])) q)) hf (Nat.le_refl _) new
    refine ⟨.ref s.heap.objs.size, _, I1, rfl, ⟨_, c, rfl, I.hok.fresh (Nat.le_refl _), rfl, hcx⟩, ⟨⟨.str ⟨#[c]⟩ u, ?_⟩, ?_, hne⟩, fun b hb => ?_⟩
    · have e1 : ((i + 1 : Nat) : Int) = (i : Int) + 1 := by omega
      rw [e1]; exact he'
    · obtain ⟨o, q, r⟩ := hit'
      exact ⟨o, (sb.2 it (Ne.symm hne)).trans q, r⟩
    · have hb' : b < s.heap.objs.size := by
        have e' : b = e ∨ b = it := by simpa using hb
        rcases e' with z | z
        · rw [z]; exact hel
        · rw [z]; exact hil
      rw [upd_ne (Nat.ne_of_lt hb')]
      exact (hf b hb).1
  done := by
    intro X hP hw hK hc i pins s σ H E I hf st hg
    subst hP hw hK
    obtain ⟨⟨old, he⟩, hit, hne⟩ := st
    have D : Draws X.prog X.w X.A.in1 it [it] x.cps.size (fun i v => ∃ c u, x.cps[i]? = some c ∧ v = .str ⟨#[c]⟩ u) (fun i h => h.IsStrIter it ty x t i) := by
      rcases hty with e | e
      · rw [e]; exact Draws.strAscii (show X.A.in1.handled = none from I.ok.hd hc) it x t
      · rw [e]; exact Draws.strWide (show X.A.in1.handled = none from I.ok.hd hc) it x t
    obtain ⟨f0, f1, f2, f3, f4, f5⟩ := hf it (by simp)
    have hg' : i = x.cps.size := hg
    subst hg'
    exact wpAny_pyNext_enum_endD D he hit fun h' eb => ⟨rfl, I.turned (t' := s.toks) (fun b o hb q => eb b o hb q) f0 f1 f3 f4 f5⟩
  self := fun A i s Q E st h => let ⟨⟨_, he⟩, _⟩ := st; wpAny_pyIter_enum he h
def iEnumS (ta : TA) : TI := fun σ H R => ta σ H fun vs H1 => ∃ x, vs = [.str x] ∧ R (Ites x) H1
theorem strIter_cases (x : Str) : strIterType x = "str_ascii_iterator" ∨ strIterType x = "str_iterator" := by
  unfold strIterType
  split
  · exact .inl rfl
  · exact .inr rfl
theorem pi_enumS {X : Cx} {e : Expr} {ta : TA} {p pos tpos : Pos} {elts : List Expr} {kk : Nat} (hg : Gl X "enumerate") (hm : X.mg "enumerate" = none) (ha : PA X [e] ta) (hs : starEach [e] X.env = [(false, eval e X.env)] := by rfl) :
    PI X (.Tuple elts kk tpos) (.Call (.Name "enumerate" p) [e] [] pos) (iEnumS ta) := by
  refine ⟨fun pins s σ H R I h => ?_⟩
  refine Call_ (ld_blt I hg hm boot_enumerate (PyProof.Rows.callWith_type1 (thn (ha.run pos pins s σ H _ I h) fun us s1 ⟨vs, H1, I1, r1, q1⟩ => ?_) hs rfl))
  obtain ⟨x, ex, q⟩ := q1
  subst ex
  cases r1 with
  | cons r rr =>
    cases rr
    obtain ⟨t, rfl⟩ := r
    refine call_enumerate_str fun h' he hit hsz hk => wpAny_pyIter_enum he ?_
    have I2 : Inv X pins σ H1 { s1 with heap := h' } := I1.kept (t' := s1.toks) hk
    refine ⟨s1.heap.objs.size + 1, [s1.heap.objs.size + 1, s1.heap.objs.size], _, _, H1, rfl, I2, turn_enumS x t (strIterType x) (strIter_cases x) (s1.heap.objs.size + 1) s1.heap.objs.size, ⟨⟨.none, he⟩, hit, Nat.succ_ne_self _⟩, fun b hb => ?_, q⟩
    have e' : b = s1.heap.objs.size + 1 ∨ b = s1.heap.objs.size := by simpa using hb
    have hle : s1.heap.objs.size ≤ b := by
      rcases e' with z | z
      · rw [z]; exact Nat.le_add_right _ _
      · rw [z]; exact Nat.le_refl _
    exact I1.fpOk hle (I1.hok.fresh hle)
theorem walk_enumS {z : Str} : Walk (Ites z) z.cps.size (fun _ => True) (YPair (fun i => some (.int (i : Nat))) (fun i => z.cps[i]?.map fun c => V.str ⟨#[c]⟩)) := by
  refine ⟨fun _ _ hi _ => hi, fun _ _ => rfl, fun i H v H' _ _ y => ?_⟩
  obtain ⟨T, c, h1, h2, h3, h4⟩ := y
  exact ⟨T, _, _, h1, h2, h3, rfl, by show Option.map _ _ = _; rw [h4]; rfl⟩
end L2

/-! ### isinstance of a caught error that has a dict -/
namespace PySem.W
open PySem PySem.Spec PySem.Calls PyProof.Rows
section
variable {prog : Program} {w : World} {A : Around} {E : Value → Shared → Prop} {s : Shared} {K : Frag} {x D : Addr} {ox : Obj} {od : Option Obj}
theorem kr_findObj_data {C : Addr} {name : Str} {a g : Value} (hc : (clsIn K C).isSome = true) (ha : findIn K (.ref C) name = some (some a)) (hg : specialIn K a "__get__" = some (some g)) (ht : takesIn K a = some true) : findObj K C od name = some (.bind g a) := by
  obtain ⟨cd, hc⟩ := Option.isSome_iff_exists.mp hc
  unfold findObj
  rw [hc, Option.bind_some, ha, Option.bind_some]
  simp [hg, ht]
theorem kr_classE {Q : Option Value → Shared → Prop} (hga : findIn K (.ref D) "__getattribute__" = some (some (.builtin "BaseException.__getattribute__"))) (hgt : findIn K (.ref D) "__getattr__" = some none) (hsub : subIn K (.ref D) (.type "BaseException") = some true)
    (hdct : hasDictIn K D = true) (ha : findIn K (.ref D) "__class__" = some (some (.builtin "object.__class__")))
    (hn : specialIn K (.builtin "object.__class__") "__get__" = some (some (.builtin "getset_descriptor.__get__"))) (htk : takesIn K (.builtin "object.__class__") = some true) (hm : mroIn K D (.type "object") = some true)
    (X : K.In s.heap) (I : InstAt s.heap x ox D od) (h : Q (some (.ref D)) { s with toks := s.toks + 1 }) : wpAny (model prog w) A (getAttr? (.ref x) "__class__") Q E s := by
  have hf : findObj K D od "__class__" = some (.bind (.builtin "getset_descriptor.__get__") (.builtin "object.__class__")) := kr_findObj_data (by obtain ⟨cd, hc, _⟩ := any_some hdct; rw [hc]; rfl) ha hn htk
  obtain ⟨hp, g, d, t, os⟩ := s
  have L0 := I.type (M := model prog w)
  have L1 := looks_findIn (M := model prog w) X hga
  have L2 := looks_findIn (M := model prog w) X hgt
  have L3 := looks_find (M := model prog w) X I hf
  have sub : Looks (model prog w) hp (isInstance (.ref x) (.type "BaseException")) true := L0.andThen (looks_subIn X hsub)
  have hx0 : (false && onTheHeap (Value.builtin "BaseException.__getattribute__")) = false := rfl
  have hx2 : (Value.builtin "BaseException.__getattribute__" == Value.builtin "object.__getattribute__") = false := by decide +kernel
  have hx1 : (onTheHeap (Value.ref D) && Value.builtin "BaseException.__getattribute__" == Value.builtin "object.__getattribute__") = false := by rw [hx2]; rfl
  unfold getAttr? getAttrBy? getAttrBy
  refine wpAny_bind (wpAny_mkText (wpAny_bind (wpAny_attempt (wpAny_holding (wpAny_bind (L0.at (wpAny_bind (L1.at ?_))))))))
  show wpAny _ _ (if (onTheHeap (Value.ref D) && Value.builtin "BaseException.__getattribute__" == Value.builtin "object.__getattribute__") = true then _ else _) _ _ _
  rw [hx1, if_neg Bool.false_ne_true]
  unfold getAttrByItsOwn hookBefore
  refine wpAny_bind ?_
  rw [if_pos (show onTheHeap (Value.ref D) = true from rfl)]
  refine L2.at ?_
  refine wpAny_bind (wpAny_attempt (wpAny_holding ?_))
  unfold callGetattribute
  rw [hx0, if_neg Bool.false_ne_true]
  unfold boundAndCalled
  rw [PySem.F.excAttr_ValueError.ga.bind (.ref x)]
  refine wpAny_bind (wpAny_pure ?_)
  show wpAny _ _ (call (.builtin "BaseException.__getattribute__") [.ref x, .str "__class__" t]) _ _ _
  refine wpAny_call (codeAny_call_builtin PySem.F.excAttr_ValueError.ga.plain PySem.F.entry_bexc_ga ?_)
  refine @check_slot (model prog w) _ _ ⟨hp, g, d, t + 1, os⟩ "BaseException.__getattribute__" "BaseException" "__getattribute__" (.ref x) [.str "__class__" t] [] _ (by decide +kernel) (by decide +kernel) sub (PySem.F.args_bexc_ga (.ref x) (.str "__class__" t)) ?_
  unfold Builtin.«object.__getattribute__»
  refine wpAny_bind (wpAny_of_eq (a := ((Value.ref x : Value), [Value.str "__class__" t])) (by first | rfl | (simp only [slotArgs]; rfl)) ?_)
  refine wpAny_bind (wpAny_pure (wpAny_bind (L0.at (wpAny_bind (L3.at ?_)))))
  show wpAny _ _ (holding [Value.builtin "object.__class__"] (call (.builtin "getset_descriptor.__get__") [.builtin "object.__class__", .ref x, .ref D]) >>= ret) _ _ _
  refine wpAny_bind (wpAny_holding (wpAny_call (class_get (s := ⟨hp, g, d, t + 1, os⟩) (ox := ox) (od := od) X I hm ?_)))
  refine wpAny_pure ?_
  show wpAny _ _ (handedOut (.ref D)) _ _ _
  rw [handedOut_of (v := .ref D) rfl]
  first
    | exact wpAny_pure (wpAny_pure h)
    | exact wpAny_pure h
    | exact wpAny_pure (wpAny_bind (wpAny_pure (wpAny_pure h)))
theorem kr_kitx_exc (hga : findIn K (.ref D) "__getattribute__" = some (some (.builtin "BaseException.__getattribute__"))) (hgt : findIn K (.ref D) "__getattr__" = some none) (hsub : subIn K (.ref D) (.type "BaseException") = some true) (hdct : hasDictIn K D = true) (ha : findIn K (.ref D) "__class__" = some (some (.builtin "object.__class__")))
    (hn : specialIn K (.builtin "object.__class__") "__get__" = some (some (.builtin "getset_descriptor.__get__"))) (htk : takesIn K (.builtin "object.__class__") = some true) (hm : mroIn K D (.type "object") = some true) :
    KitX K (.ref x) (.ref D) (fun h => InstAt h x ox D od) where
  ty := fun _ _ _ I => I.type
  it := fun _ _ X _ => by
    obtain ⟨cdD, hcD, _⟩ := any_some hdct
    unfold clsIn at hcD
    split at hcD
    · rename_i c' d' cd' sl' ho
      intro A' Q' E' s' k q
      unfold isType loadHead
      exact wpAny_bind (wpAny_loadPart (k _ _ (X _ _ ho)) (wpAny_pure q))
    · cases hcD
  ne := fun h tp dd its n sl X htp => by
    obtain ⟨cdD, hcD, _⟩ := any_some hdct
    refine Bool.eq_false_iff.mpr fun q => ?_
    have e : D = tp := Value.ref.inj (beq_iff_eq.mp q)
    subst e
    unfold clsIn at hcD
    split at hcD
    · rename_i c' d' cd' sl' ho
      have z := (X _ _ ho).symm.trans htp
      cases z
    · cases hcD
  ca := fun X I k => kr_classE hga hgt hsub hdct ha hn htk hm X I k
end
end PySem.W
namespace L2
open PySem PySem.Spec PyProof.Rows
/-- isinstance(e, c), e the error that the suite holds (class at D, dict at dd) -/
def rIsX (K : PySem.W.Frag) (a : Addr) (cls : Value) (d : Option Addr) : List V → Hp → VK → Prop := fun xs H Q => ∃ (c : V) (cv : Value) (b : Bool) (D dd : Addr) (fs : List (Str × V)), xs = [.ref a, c] ∧ cls = .ref D ∧ d = some dd ∧ ExcC K D ∧ H dd = some (.xd fs) ∧ (∀ u, RelV c u → u = cv) ∧ PySem.W.kitOne K (.ref D) cv = some b ∧ Q (.bl b) H
theorem call_isX {X : Cx} {a : Addr} {cls : Value} {d : Option Addr} {oe : Obj} {pn : List (Addr × Obj)} (hz : Zc cls d oe) (hf : ∃ vs, oe.data = .fields vs) : CallR (X.suite a ((a, oe) :: pn)) (.builtin "isinstance") (rIsX X.K a cls d) := by
  intro pins s σ H xs us Q I r h
  obtain ⟨c, cv, b, D, dd, fs, rfl, rfl, rfl, C, hdd, hcv, e, q⟩ := h
  cases r with
  | cons rx rr =>
    cases rr with
    | cons rt rr =>
      cases rr
      cases rx
      have ec := hcv _ rt
      subst ec
      obtain ⟨hget, _⟩ := I.pin (a, oe) (List.mem_append.mpr (.inl List.mem_cons_self))
      obtain ⟨vs, hv⟩ := hf
      have hx : ObjOk X.prog X.w H s.heap dd (.xd fs) := I.hok dd _ hdd
      obtain ⟨mA, hns, hr⟩ := hx
      obtain ⟨od, ho, hl⟩ := lookIn_ns hns
      have J : PySem.W.InstAt s.heap a oe D (some od) := ⟨hget, hz.1, by unfold PySem.W.notCls; rw [hv] <;> rfl, by rw [hz.2]; exact ho⟩
      exact PySem.W.kia_one (PySem.W.kr_kitx_exc C.hg C.hk C.hs C.hd C.ha C.hn C.ht C.hm) I.kIn J e (fun z => nomatch z) fun tk => ⟨.bl b, H, I.kept (t' := tk) fun _ _ z => z, rfl, q⟩
/-! ### an own error with one field: raise X(e) -/
/-- what __init__(self, f): self.f = f promises -/
def spEx1 (C : Addr) (f : Str) : Sp := fun vs H Q _ => ∃ (a : Addr) (v : V), vs = [.ref a, v] ∧ H a = some (exo a C none) ∧ ∀ d, H d = none → d ≠ a → Q .non (upd (upd H d (exd d [(f, v)])) a (exo a C (some d)))
/-- what the class x says -/
structure Ex1 (P : Program) (w : World) (K : PySem.W.Frag) (mg : Str → Option Value) (base : Heap) (x f : Str) (C : Addr) : Prop where
  gC : mg x = some (.ref C)
  T : OexC K C
  no : PySem.W.findIn K (.ref C) f = some none
  xf : XfC K C
  ec : ExcC K C
  ini : ∃ (fI : Addr) (fd : FuncData), PySem.W.findIn K (.ref C) "__init__" = some (some (.ref fI)) ∧ PySem.W.typeIn K (.ref fI) = some (.type "function") ∧ FnOk P w K mg base (CX P w) 1 fI fd ["self", f] (spEx1 C f) ∧ Binds K fd ["self", f] []
theorem pmk1 {X : Cx} {x f : Str} {C : Addr} {e : Expr} {te : TE} {p pos : Pos} {k : Nat} (T : Ex1 X.prog X.w X.K X.mg X.base x f C) (hr : Room k X.A) (h2 : 2 ≤ k) (hg : Gl X x) (he : PE X e te)
    (hdb : (x == ("__debug__" : Str)) = false := by decide) (hs : starEach (e :: []) X.env = (false, eval e X.env) :: starEach [] X.env := by rfl) :
    PMk X (.Call (.Name x p) [e] [] pos) (tMkO C (spEx1 C f) [] (tCons te tNil)) := by
  obtain ⟨fI, fd, iC, tI, F1, b⟩ := T.ini
  have hx : Passes (CX X.prog X.w) X (fun _ _ _ => False) := passL
  exact pmk_oex (p := p) (pos := pos) T.T iC tI F1 (hr.mono (show 1 + 1 ≤ k from h2)) b .nil hx hg T.gC (pa_cons he pa_nil hs) hdb hs rfl
theorem ps_raise1 {X : Cx} {W : WX} {x f : Str} {C : Addr} {e : Expr} {te : TE} {p pos pos2 : Pos} {k : Nat} (hc : X.calm = true) (tk : Takes X W) (T : Ex1 X.prog X.w X.K X.mg X.base x f C) (hr : Room k X.A) (h2 : 2 ≤ k) (hg : Gl X x) (he : PE X e te)
    (hdb : (x == ("__debug__" : Str)) = false := by decide) (hs : starEach (e :: []) X.env = (false, eval e X.env) :: starEach [] X.env := by rfl) :
    PS X (.Raise (some (.Call (.Name x p) [e] [] pos)) none pos2) (fun _ σ H => tMkO C (spEx1 C f) [] (tCons te tNil) σ H fun cls d H' => W cls d σ H') := ps_raise hc tk (pmk1 T hr h2 hg he hdb hs)
/-- the end of raise X(v) -/
theorem mk1_end {C : Addr} {f : Str} {v : V} {H : Hp} {Q : XK} (h : ∀ d, H d = none → Q (.ref C) (some d) (upd H d (.xd [(f, v)]))) :
    [v].length ≤ 1000 ∧ ∀ a, H a = none → spEx1 C f (.ref a :: ([v] ++ [])) (upd H a (exo a C none))
      (fun u H2 => u = .non ∧ ∃ (d : Addr) (fs : List (Str × V)), H2 a = some (exo a C (some d)) ∧ H2 d = some (exd d fs) ∧ H d = none ∧ Q (.ref C) (some d) (upd (del H2 a) d (.xd fs))) (fun _ _ _ => False) := by
  refine ⟨by simp, fun a ha => ⟨a, v, rfl, upd_same, fun d hd hne => ⟨rfl, d, [(f, v)], upd_same, ?_, ?_, ?_⟩⟩⟩
  · rw [upd_ne hne, upd_same]
  · rw [upd_ne hne] at hd; exact hd
  · have hd' : H d = none := by rw [upd_ne hne] at hd; exact hd
    have e : upd (del (upd (upd (upd H a (exo a C none)) d (exd d [(f, v)])) a (exo a C (some d))) a) d (.xd [(f, v)]) = upd H d (.xd [(f, v)]) := by
      funext b
      by_cases hb : b = d
      · rw [hb, upd_same, upd_same]
      · rw [upd_ne hb, upd_ne hb]
        by_cases ha2 : b = a
        · rw [ha2, del_same, ha]
        · rw [del_ne ha2, upd_ne ha2, upd_ne hb, upd_ne ha2]
    rw [e]
    exact h d hd'
end L2

/-! ### calls of the text's own defs -/
namespace Kr
open PySem PySem.Spec PyProof.Rows L2
/-- the def x keeps the promise sp by at most level k; dvs: what its last parameters are by default -/
structure KCal (P : Program) (w : World) (K : PySem.W.Frag) (mg : Str → Option Value) (base : Heap) (k : Nat) (x : Str) (sp : Sp) (dvs : List V) : Prop where
  ex : ∃ (f : Addr) (fd : FuncData) (ps : List Str) (ds : List Value), FnOk P w K mg base (CX P w) k f fd ps sp ∧ mg x = some (.ref f) ∧ PySem.W.keepIn K (.ref f) = true ∧ Binds K fd ps ds ∧ Vals dvs ds
section
variable {X : Cx} {k j : Nat} {x : Str} {sp : Sp} {dvs : List V} {e : Expr} {es : List Expr} {t : TA} {p pos : Pos} {W : WX}
theorem kc (c : KCal X.prog X.w X.K X.mg X.base k x sp dvs) (hr : Room j X.A) (hk : k ≤ j) (hg : Gl X x) (ha : PA X (e :: es) t)
    (hdb : (x == ("__debug__" : Str)) = false := by decide) (he : starEach (e :: es) X.env = (false, eval e X.env) :: starEach es X.env := by rfl) (hpl : (backTo pos (starEach es X.env)).any (·.1) = false := by rfl) :
    PE X (.Call (.Name x p) (e :: es) [] pos) (tCall sp dvs E0 t) := by
  obtain ⟨f, fd, ps, ds, F, hm, kp, b, d⟩ := c.ex
  exact pe_call F (hr.mono hk) hg hm kp b d passL ha hdb he hpl
theorem kc0 (c : KCal X.prog X.w X.K X.mg X.base k x sp dvs) (hr : Room j X.A) (hk : k ≤ j) (hg : Gl X x)
    (hdb : (x == ("__debug__" : Str)) = false := by decide) :
    PE X (.Call (.Name x p) [] [] pos) (tCall sp dvs E0 tNil) := by
  obtain ⟨f, fd, ps, ds, F, hm, kp, b, d⟩ := c.ex
  exact pe_call0 F (hr.mono hk) hg hm kp b d passL hdb
theorem kx (c : KCal X.prog X.w X.K X.mg X.base k x sp dvs) (tk : Takes X W) (hr : Room j X.A) (hk : k ≤ j) (hg : Gl X x) (ha : PA X (e :: es) t)
    (hdb : (x == ("__debug__" : Str)) = false := by decide) (he : starEach (e :: es) X.env = (false, eval e X.env) :: starEach es X.env := by rfl) (hpl : (backTo pos (starEach es X.env)).any (·.1) = false := by rfl) :
    PE X (.Call (.Name x p) (e :: es) [] pos) (tCallSD sp dvs (WE W) t) := by
  obtain ⟨f, fd, ps, ds, F, hm, kp, b, d⟩ := c.ex
  exact pe_callSD F (hr.mono hk) hg hm kp b d (fun σ => passAt tk σ) ha hdb he hpl
end
/-! ### tests -/
theorem ift {c : Bool} {A B : Prop} (hc : c = true) (h : A) : if c = true then A else B := by rw [if_pos hc]; exact h
theorem iff' {c : Bool} {A B : Prop} (hc : c = false) (h : B) : if c = true then A else B := by rw [hc, if_neg Bool.false_ne_true]; exact h
theorem if2 {c : Bool} {A B : Prop} (h1 : c = true → A) (h2 : c = false → B) : if c = true then A else B := by
  cases c with
  | true => exact h1 rfl
  | false => exact h2 rfl
theorem dI (i j : Int) : decide (V.int i = V.int j) = decide (i = j) := by
  by_cases h : i = j
  · rw [h]; simp
  · rw [decide_eq_false h, decide_eq_false (fun q => h (V.int.inj q))]
theorem dS (i j : Str) : decide (V.str i = V.str j) = decide (i = j) := by
  by_cases h : i = j
  · rw [h]; simp
  · rw [decide_eq_false h, decide_eq_false (fun q => h (V.str.inj q))]
theorem dB (i j : Bool) : decide (V.bl i = V.bl j) = decide (i = j) := by
  cases i <;> cases j <;> rfl
/-! ### lists of ints -/
theorem tyL {K : PySem.W.Frag} {H : Hp} {p : Addr} {xs : List V} (h : H p = some (.lst xs)) : tyV K "list" (.ref p) H := Or.inl ⟨rfl, _, SqL.of h⟩
theorem six0 {n : Nat} (h : 0 < n) : seqIndex? 0 n = some 0 := by
  unfold seqIndex?
  simp [h]
theorem dpInts {K : PySem.W.Frag} {H : Hp} : ∀ cs : List Int, DpAll K H (cs.map V.int) (cs.map PyData.int)
  | [] => .nil
  | c :: cs => .cons (.int c) (dpInts cs)
theorem layInts : ∀ cs : List Int, PyData.canLayAll0 (cs.map PyData.int) = true
  | [] => rfl
  | c :: cs => by
    show (PyData.canLay0 (.int c) && PyData.canLayAll0 (cs.map PyData.int)) = true
    rw [layInts cs]; rfl
theorem depInts : ∀ cs : List Int, PyData.depthAll (cs.map PyData.int) = 0
  | [] => rfl
  | c :: cs => by
    show max (PyData.depth (.int c)) (PyData.depthAll (cs.map PyData.int)) = 0
    rw [depInts cs]; rfl
theorem shInts (cs : List Int) : SeqAt.shaped (.list (cs.map PyData.int)) = true := by
  unfold SeqAt.shaped
  rw [Bool.and_eq_true]
  refine ⟨layInts cs, decide_eq_true ?_⟩
  show PyData.depthAll (cs.map PyData.int) + 1 ≤ 64
  rw [depInts]; decide
/-! ### what stays of a heap -/
def Kp (S : List Addr) (H H' : Hp) : Prop := ∀ a o, a ∉ S → H a = some o → H' a = some o
theorem Kp.refl {S : List Addr} {H : Hp} : Kp S H H := fun _ _ _ h => h
theorem Kp.trans {S : List Addr} {H H1 H2 : Hp} (a : Kp S H H1) (b : Kp S H1 H2) : Kp S H H2 := fun x o hx h => b x o hx (a x o hx h)
theorem Kp.mono {S S' : List Addr} {H H' : Hp} (a : Kp S H H') (h : ∀ x ∈ S, x ∈ S') : Kp S' H H' := fun x o hx q => a x o (fun z => hx (h x z)) q
theorem Kp.upd {S : List Addr} {H H' : Hp} {p : Addr} {o : HO} (a : Kp S H H') (h : p ∈ S) : Kp S H (upd H' p o) := fun x u hx q => by
  have : x ≠ p := fun z => hx (z ▸ h)
  rw [upd_ne this]; exact a x u hx q
theorem Kp.new {S : List Addr} {H H' : Hp} {p : Addr} {o : HO} (a : Kp S H H') (h : H' p = none) : Kp S H (L2.upd H' p o) := fun x u hx q => by
  have q' := a x u hx q
  rw [upd_ne (ne_of_none q' h)]; exact q'
theorem Kp.mut {S : List Addr} {H H' : Hp} {p : Addr} {o : HO} (a : Kp S H H') (h : H p = none) : Kp S H (L2.upd H' p o) := fun x u hx q => by
  rw [upd_ne (ne_of_none q h)]; exact a x u hx q
theorem Kp.free {S : List Addr} {H H' : Hp} {p : Addr} (a : Kp S H H') (hp : p ∉ S) (h : H' p = none) : H p = none := by
  cases q : H p with
  | none => rfl
  | some o => rw [a p o hp q] at h; cases h
theorem Kp.same {H H' : Hp} (a : Kp [] H H') : Same H H' := fun x o h => a x o (by simp) h
theorem Kp.of_same {S : List Addr} {H H' : Hp} (a : Same H H') : Kp S H H' := fun x o _ h => a x o h
theorem Kp.seq {S : List Addr} {K : PySem.W.Frag} {H H' : Hp} {a : Addr} {xs : List V} (k : Kp S H H') (ha : a ∉ S) (h : SqL K H a xs) : SqL K H' a xs := by
  rcases h with h | h
  · rcases h with h | ⟨o, h⟩
    · exact .inl (.inl (k a _ ha h))
    · exact .inl (.inr ⟨o, k a _ ha h⟩)
  · exact .inr h
/-- a def that raises nothing of its own promise -/
theorem ok0 {P : Program} {w : World} {K : PySem.W.Frag} {mg : Str → Option Value} {base : Heap} {k : Nat} {f : Addr} {fd : FuncData} {ps : List Str} {sp : Sp} (F : FnOk P w K mg base (CX P w) k f fd ps sp) (hE : ∀ vs H Q E, sp vs H Q E → sp vs H Q E0) : FnOk P w K mg base CX0 k f fd ps sp := by
  refine ⟨F.len, fun A outer s H args us vs Q E hr h0 hb hv hs => ?_⟩
  refine codeAny_mono (F.run A outer s H args us vs Q E0 hr h0 hb hv (hE _ _ _ _ hs)) fun r s' hq => ?_
  cases r with
  | error er =>
    exfalso
    have q : CX P w outer H s E0 er s' := hq
    obtain ⟨_, _, _, _, _, _, _, _, _, _, _, _, z⟩ := q
    exact z
  | ok fl =>
    cases fl with
    | ret u => exact hq
    | next => exact hq
    | brk => exact hq
    | cont => exact hq
end Kr

set_option Elab.async false
set_option linter.all false
set_option maxRecDepth 100000
set_option maxHeartbeats 2000000
namespace He
open PySem PySem.Spec PyProof.Rows L2
/-! ### facts of own error classes -/
def excCB (K : PySem.W.Frag) (C : Addr) : Bool := match K.lookup C with
  | some ⟨.type "type", _, .cls cd, sl⟩ => (match cd.mro, sl.toList with
    | .ref C' :: bm, [_, _, _, _, some (.builtin n), _] => C' == C && n == "ValueError.__new__" && !cd.hasDel && cd.hasDict && PySem.HandSPX.refsVE bm
    | _, _ => false)
  | _ => false
theorem excCB_ok {K : PySem.W.Frag} {C : Addr} (q : excCB K C = true) : ∃ nm q N bs bm sn sub ab col dd k0 k1 k2 k3 k5, K.lookup C = some (excClassObj nm q C N bs bm true sn sub ab col dd k0 k1 k2 k3 k5 "ValueError.__new__") ∧ PySem.HandSPX.refsVE bm = true := by
  unfold excCB at q
  split at q
  · rename_i dd cd sl ho
    split at q
    · rename_i C' bm k0 k1 k2 k3 n k5 hm hs
      simp only [Bool.and_eq_true, beq_iff_eq, Bool.not_eq_true'] at q
      obtain ⟨⟨⟨⟨rfl, rfl⟩, hdel⟩, hdi⟩, ht⟩ := q
      obtain ⟨nm, bs, mro, ns, qn, hd, sn, sub, ab, col, del⟩ := cd
      dsimp only at hm hdel hdi
      subst hm hdel hdi
      have hsl : sl = #[k0, k1, k2, k3, some (.builtin "ValueError.__new__"), k5] := by
        obtain ⟨l⟩ := sl
        simp only at hs
        rw [hs]
      subst hsl
      exact ⟨nm, qn, ns, bs, bm, sn, sub, ab, col, dd, k0, k1, k2, k3, k5, ho, ht⟩
    · cases q
  · cases q
def oexB (K : PySem.W.Frag) (C : Addr) : Bool := excCB K C && (eqO (PySem.W.findIn K (.ref C) "__setattr__") (some (some (.builtin "object.__setattr__"))) && (decide (PySem.W.subIn K (.ref C) (.type "BaseException") = some true) && (decide (PySem.W.typeIn K (.ref C) = some (.type "type")) && PySem.W.keepIn K (.ref C))))
theorem oexB_ok {K : PySem.W.Frag} {C : Addr} (q : oexB K C = true) : OexC K C := by
  obtain ⟨c1, c⟩ := ba q
  obtain ⟨c2, c⟩ := ba c
  obtain ⟨c3, c⟩ := ba c
  obtain ⟨c4, c5⟩ := ba c
  exact ⟨excCB_ok c1, eqO_ok c2, of_decide_eq_true c3, of_decide_eq_true c4, c5⟩
def exqB (K : PySem.W.Frag) (D : Addr) : Bool := eqO (PySem.W.findIn K (.ref D) "__class__") (some (some (.builtin "object.__class__"))) && (eqO (PySem.W.specialIn K (.builtin "object.__class__") "__get__") (some (some (.builtin "getset_descriptor.__get__"))) && (decide (PySem.W.takesIn K (.builtin "object.__class__") = some true) && decide (PySem.W.mroIn K D (.type "object") = some true)))
theorem exqB_ok {K : PySem.W.Frag} {D : Addr} (x : XfC K D) (h : xfB K D = true) (q : exqB K D = true) : ExcC K D := by
  obtain ⟨c1, c⟩ := ba q
  obtain ⟨c2, c⟩ := ba c
  obtain ⟨c3, c4⟩ := ba c
  unfold xfB at h
  obtain ⟨d1, d⟩ := ba h
  obtain ⟨d2, d⟩ := ba d
  obtain ⟨d3, d4⟩ := ba d
  exact ⟨of_decide_eq_true d1, of_decide_eq_true d2, of_decide_eq_true d3, d4, eqO_ok c1, eqO_ok c2, of_decide_eq_true c3, of_decide_eq_true c4⟩
/-- an own error class x with the one field f -/
def ex1B (K : PySem.W.Frag) (x f : Str) : Bool := eqO (PySem.W.nsIn K mainGlobals x) (some (some (.ref (ga K x)))) && (oexB K (ga K x) && (xfB K (ga K x) && (exqB K (ga K x) && (eqO (PySem.W.findIn K (.ref (ga K x)) f) (some none) &&
  (eqO (PySem.W.findIn K (.ref (ga K x)) "__init__") (some (some (.ref (ma K (ga K x) "__init__")))) && decide (PySem.W.typeIn K (.ref (ma K (ga K x) "__init__")) = some (.type "function")))))))
theorem ex1_ok {P : Program} {w : World} {K : PySem.W.Frag} {mg : Str → Option Value} {base h : Heap} {x f : Str} (X : K.In h) (G : h.Ns mainGlobals mg) (q : ex1B K x f = true) {fd : FuncData}
    (F : FnOk P w K mg base (CX P w) 1 (ma K (ga K x) "__init__") fd ["self", f] (spEx1 (ga K x) f)) (b : Binds K fd ["self", f] []) : Ex1 P w K mg base x f (ga K x) := by
  obtain ⟨c1, c⟩ := ba q
  obtain ⟨c2, c⟩ := ba c
  obtain ⟨c3, c⟩ := ba c
  obtain ⟨c4, c⟩ := ba c
  obtain ⟨c5, c⟩ := ba c
  obtain ⟨c6, c7⟩ := ba c
  exact ⟨PySem.W.mg_of X G (eqO_ok c1), oexB_ok c2, eqO_ok c5, xfB_ok c3, exqB_ok (xfB_ok c3) c3 c4, _, fd, eqO_ok c6, of_decide_eq_true c7, F, b⟩
/-- isinstance of an error of class x: of class y; of the built-in class t -/
def kitB (K : PySem.W.Frag) (x y : Str) (b : Bool) : Bool := decide (PySem.W.kitOne K (.ref (ga K x)) (.ref (ga K y)) = some b)
def kitTB (K : PySem.W.Frag) (x : Str) (t : String) (b : Bool) : Bool := decide (PySem.W.kitOne K (.ref (ga K x)) (.type t) = some b)
end He

set_option Elab.async false
set_option linter.all false
set_option maxRecDepth 100000
set_option maxHeartbeats 2000000
namespace Kr
open PySem PySem.Spec PyProof.Rows L2
open SX (S)
/-! ### texts as lists of code points -/
def cutN (n : Nat) (d : Nat) : Option Int → Nat
  | none => d
  | some i => min i.toNat n
/-- a[lo:hi] of a list, both ends not below nought -/
def cutL {α : Type} (a : List α) (lo hi : Option Int) : List α := (a.drop (cutN a.length 0 lo)).take (cutN a.length a.length hi - cutN a.length 0 lo)
def nn : Option Int → Prop
  | none => True
  | some i => 0 ≤ i
theorem sIx_nn {n d : Nat} {o : Option Int} (h : nn o) : HT.sIx n d o = cutN n d o := by
  cases o with
  | none => rfl
  | some i =>
    have h0 : (0 : Int) ≤ i := h
    obtain ⟨k, rfl⟩ := Int.eq_ofNat_of_zero_le h0
    simp [HT.sIx, cutN]
    omega
theorem cutS_S {a : List Nat} {lo hi : Option Int} (h1 : nn lo) (h2 : nn hi) : cutS (S a) lo hi = S (cutL a lo hi) := by
  unfold cutS cutL
  have e : (S a).length = a.length := SX.S_len a
  rw [e, sIx_nn h1, sIx_nn h2]
theorem cutV_L {a : List V} {lo hi : Option Int} (h1 : nn lo) (h2 : nn hi) : cutV a lo hi = cutL a lo hi := by
  unfold cutV cutL
  rw [sIx_nn h1, sIx_nn h2]
theorem cutL_to {α : Type} (a : List α) (i : Nat) : cutL a none (some (i : Int)) = a.take i := by
  simp [cutL, cutN]
theorem cutL_from {α : Type} (a : List α) (i : Nat) : cutL a (some (i : Int)) none = a.drop i := by
  simp [cutL, cutN]
  by_cases h : i ≤ a.length
  · rw [Nat.min_eq_left h, List.take_of_length_le (by simp)]
  · rw [Nat.min_eq_right (by omega), List.drop_of_length_le (by omega), List.drop_of_length_le (by omega)]; simp
theorem cutL_mid {α : Type} (a : List α) (i j : Nat) : cutL a (some (i : Int)) (some (j : Int)) = (a.take j).drop i := by
  simp [cutL, cutN]
  apply List.ext_getElem?
  intro k
  simp [List.getElem?_take, List.getElem?_drop]
  grind
/-! ### rules over them -/
section
variable {X : Cx}
theorem opImp {f : Value → Value → Sem Value} {r r' : R2} (h : OpR X f r) (i : ∀ x y H Q, r' x y H Q → r x y H Q) : OpR X f r' := fun pins s σ H x y v u Q I rx ry q => h pins s σ H x y v u Q I rx ry (i x y H Q q)
theorem callImp {f : Value} {r r' : List V → Hp → VK → Prop} (h : CallR X f r) (i : ∀ xs H Q, r' xs H Q → r xs H Q) : CallR X f r' := fun pins s σ H xs us Q I rx q => h pins s σ H xs us Q I rx (i xs H Q q)
theorem ixImp {r r' : R2} (h : IxR X r) (i : ∀ x y H Q, r' x y H Q → r x y H Q) : IxR X r' := fun a b pins s σ H x y v u Q I rx ry q e => h a b pins s σ H x y v u Q I rx ry (i x y H Q q) e
theorem slImp {r r' : V → Option Int → Option Int → Hp → VK → Prop} (h : L2.SlR X r) (i : ∀ x lo hi H Q, r' x lo hi H Q → r x lo hi H Q) : L2.SlR X r' := fun pins s σ H x v vl vu lo hi sl Q I rx hs pl pu q => h pins s σ H x v vl vu lo hi sl Q I rx hs pl pu (i x lo hi H Q q)
theorem mtImp {id : String} {r r' : V → List V → Hp → VK → Prop} (h : MtR X id r) (i : ∀ x xs H Q, r' x xs H Q → r x xs H Q) : MtR X id r' := fun pins s σ H x xs v us Q I rx rs q => h pins s σ H x xs v us Q I rx rs (i x xs H Q q)
theorem leSz {n : Nat} (h : n ≤ 100000) : n ≤ sizeLine := Nat.le_trans h (by decide)
theorem ltSz {n : Nat} (h : n < 100000) : n < sizeLine := Nat.lt_of_lt_of_le h (by decide)
def rAddS : R2 := fun x y H Q => ∃ a b : List Nat, x = .str (S a) ∧ y = .str (S b) ∧ a.length + b.length ≤ 100000 ∧ Q (.str (S (a ++ b))) H
theorem op_addS : OpR X (binaryOp .Add) rAddS := opImp op_add_str fun x y H Q ⟨a, b, h1, h2, h3, q⟩ => ⟨S a, S b, h1, h2, by rw [SX.S_len, SX.S_len]; exact leSz h3, by rw [SX.S_cat]; exact q⟩
def rIxT' : R2 := fun x y H Q => ∃ (a : List Nat) (i : Int) (c : Nat), x = .str (S a) ∧ y = .int i ∧ a.length ≤ 100000 ∧ 0 ≤ i ∧ a[i.toNat]? = some c ∧ Q (.str (S [c])) H
theorem atI_pos {α : Type} {a : List α} {i : Int} {c : α} (h0 : 0 ≤ i) (h : a[i.toNat]? = some c) : atI a i = some c := by
  obtain ⟨k, rfl⟩ := Int.eq_ofNat_of_zero_le h0
  exact atI_nat h
theorem ix_S : IxR X rIxT' := ixImp ix_str fun x y H Q ⟨a, i, c, h1, h2, h3, h4, h5, q⟩ => ⟨S a, i, c, h1, h2, by rw [SX.S_len]; exact leSz h3, atI_pos h4 h5, q⟩
def rSlS' : V → Option Int → Option Int → Hp → VK → Prop := fun x lo hi H Q => ∃ a : List Nat, x = .str (S a) ∧ a.length ≤ 100000 ∧ nn lo ∧ nn hi ∧ Q (.str (S (cutL a lo hi))) H
theorem sl_S : L2.SlR X rSlS' := slImp sl_str fun x lo hi H Q ⟨a, h1, h2, h3, h4, q⟩ => ⟨S a, h1, by rw [SX.S_len]; exact leSz h2, by rw [cutS_S h3 h4]; exact q⟩
def rLenS : List V → Hp → VK → Prop := fun xs H Q => ∃ a : List Nat, xs = [.str (S a)] ∧ a.length ≤ 100000 ∧ Q (.int (a.length : Int)) H
theorem call_lenS : CallR X (.builtin "len") rLenS := callImp call_len_str fun xs H Q ⟨a, h1, h2, q⟩ => ⟨S a, h1, by rw [SX.S_len]; exact leSz h2, by rw [SX.S_len]; exact q⟩
theorem pe_strS {x : Str} {j : Nat} {pos : Pos} (l : List Nat) (h : x = S l) : PE X (.Constant (.str x) j pos) (tC (.str (S l))) := by
  rw [h]; exact pe_str
def rInS (neg : Bool) : R2 := fun x y H Q => ∃ (c : Nat) (a : List Nat), x = .str (S [c]) ∧ y = .str (S a) ∧ Q (.bl (if neg then !decide (c ∈ a) else decide (c ∈ a))) H
theorem op_inS : OpR X (compareOp .In) (rInS false) := opImp op_in_sign fun x y H Q ⟨c, a, h1, h2, q⟩ => ⟨c, S a, h1, h2, q⟩
theorem op_notInS : OpR X (compareOp .NotIn) (rInS true) := opImp op_notIn_sign fun x y H Q ⟨c, a, h1, h2, q⟩ => ⟨c, S a, h1, h2, q⟩
def rEqS (neg : Bool) : R2 := fun x y H Q => ∃ a b : List Nat, x = .str (S a) ∧ y = .str (S b) ∧ Q (.bl (if neg then !decide (a = b) else decide (a = b))) H
theorem dSS (a b : List Nat) : decide (V.str (S a) = V.str (S b)) = decide (a = b) := by
  by_cases h : a = b
  · rw [h]; simp
  · rw [decide_eq_false h, decide_eq_false (fun q => h (SX.S_inj (V.str.inj q)))]
theorem op_eqS : OpR X (compareOp .Eq) (rEqS false) := opImp op_eq fun x y H Q ⟨a, b, h1, h2, q⟩ => by
  subst h1 h2
  refine ⟨rfl, ?_⟩
  rw [dSS]; exact q
theorem op_neS : OpR X (compareOp .NotEq) (rEqS true) := opImp op_ne fun x y H Q ⟨a, b, h1, h2, q⟩ => by
  subst h1 h2
  refine ⟨rfl, ?_⟩
  rw [dSS]; exact q
theorem ix_listK {K : PySem.W.Frag} (h : X.K = K) : IxR X (rIxL K) := by
  subst h
  exact ix_list
theorem pe_gS {x : Str} {a : List Nat} {pos : Pos} (h : ∃ t, X.mg x = some (.str (S a) t)) (hg : Gl X x) (hd : (x == ("__debug__" : Str)) = false := by decide) : PE X (.Name x pos) (tC (.str (S a))) := by
  obtain ⟨t, h⟩ := h
  exact pe_glob hg h ⟨t, rfl⟩ hd
theorem pe_gI {x : Str} {i : Int} {pos : Pos} (h : ∃ t, X.mg x = some (.int i t)) (hg : Gl X x) (hd : (x == ("__debug__" : Str)) = false := by decide) : PE X (.Name x pos) (tC (.int i)) := by
  obtain ⟨t, h⟩ := h
  exact pe_glob hg h ⟨t, rfl⟩ hd
theorem pe_gR {x : Str} {C : Addr} {pos : Pos} (h : X.mg x = some (.ref C)) (hg : Gl X x) (hd : (x == ("__debug__" : Str)) = false := by decide) : PE X (.Name x pos) (tC (.ref C)) := pe_glob hg h rfl hd
theorem pe_bT {x : Str} (n : String) {pos : Pos} (hm : X.mg x = none) (hg : Gl X x) (hv : bootBuiltins x = some (.type n)) (h1 : x ≠ "__name__" := by decide) (hd : (x == ("__debug__" : Str)) = false := by decide) : PE X (.Name x pos) (tC (.ty n)) := pe_bltn hg hm hv rfl h1 hd
/-! join, find -/
theorem joinL_nil : ∀ ys : List (List Nat), TL.joinL [] ys = ys.flatten
  | [] => rfl
  | [p] => by simp [TL.joinL]
  | p :: q :: r => by
    show p ++ ([] ++ TL.joinL [] (q :: r)) = _
    rw [joinL_nil (q :: r)]; rfl
theorem join0 (ys : List (List Nat)) : Txt.join (S []) (ys.map S) = S ys.flatten := by rw [SX.join_S, joinL_nil]
theorem sum_len : ∀ ys : List (List Nat), ((ys.map S).map (fun x => x.length)).sum = ys.flatten.length
  | [] => rfl
  | y :: ys => by
    have := sum_len ys
    simp [SX.S_len] at this ⊢
    exact this
/-- "".join(list of texts) -/
def rJoin0 (K : PySem.W.Frag) : V → List V → Hp → VK → Prop := fun x xs H Q => ∃ (p : Addr) (ys : List (List Nat)), x = .str (S []) ∧ xs = [.ref p] ∧ SqL K H p (ys.map fun y => V.str (S y)) ∧ ys.flatten.length ≤ 100000 ∧ Q (.str (S ys.flatten)) H
theorem pe_join0 {o e : Expr} {to te : TE} {apos pos : Pos} (ho : PE X o to) (he : PE X e te) (h1 : starEach [e] X.env = [(false, eval e X.env)] := by rfl) (h2 : attributeBase o "join" X.env (eval o X.env) = eval o X.env := by rfl) (h3 : (apos.endLine == pos.line) = true := by rfl) :
    PE X (.Call (.Attribute o "join" apos) [e] [] pos) (tM1 (rJoin0 X.K) to te) :=
  pe_m1 PySem.F.slot_str_join PySem.F.type_str_join (mtImp mt_join fun x xs H Q ⟨p, ys, e1, e2, hs, hl, q⟩ => ⟨S [], p, ys.map S, e1, e2, .inl (by rw [List.map_map]; exact hs), by
    rw [sum_len]; show _ + _ * 0 ≤ _; omega, by rw [join0]; exact q⟩) ho he h1 h2 h3
theorem at1 (a : List Nat) (c i : Nat) : StrLaws.At (S a) (S [c]) (S a).length i ↔ a[i]? = some c := by
  rw [TL.at_iff (by simp [TL.tl])]
  show TL.pre [c] (a.drop i) = true ↔ _
  unfold TL.pre
  cases h : a[i]? with
  | none =>
    have := List.getElem?_eq_none_iff.mp h
    rw [List.drop_of_length_le this]
    simp
  | some d =>
    obtain ⟨hi, e⟩ := List.getElem?_eq_some_iff.mp h
    rw [List.drop_eq_getElem_cons hi, e]
    simp
/-- the first place of c -/
def fst? (c : Nat) (a : List Nat) : Option Nat := a.findIdx? fun d => d == c
def foi : Option Nat → Int
  | some i => (i : Int)
  | none => -1
theorem find1 (a : List Nat) (c : Nat) : Txt.find (S a) (S [c]) = foi (fst? c a) := by
  unfold Txt.find fst?
  rcases StrLaws.occ_head (S a) (S [c]) 1 (Nat.le_refl _) with ⟨h0, hn⟩ | ⟨i, r, h0, hi, hn⟩
  · rw [h0]
    have e : (a.findIdx? fun d => d == c) = none := by
      rw [List.findIdx?_eq_none_iff]
      intro x hx
      obtain ⟨k, hk, e⟩ := List.mem_iff_getElem.mp hx
      have q := hn k
      rw [at1, List.getElem?_eq_getElem hk, e] at q
      simpa using fun z => q (by rw [z])
    rw [e]; rfl
  · rw [h0]
    rw [at1] at hi
    have e : (a.findIdx? fun d => d == c) = some i := by
      rw [List.findIdx?_eq_some_iff_getElem]
      obtain ⟨hl, e⟩ := List.getElem?_eq_some_iff.mp hi
      refine ⟨hl, by simp [e], fun j hj => ?_⟩
      have q := hn j hj
      rw [at1, List.getElem?_eq_getElem (by omega)] at q
      simpa using fun z => q (by rw [z])
    rw [e]; rfl
/-- s.find(c), c one sign -/
def rFind1 : V → List V → Hp → VK → Prop := fun x xs H Q => ∃ (a : List Nat) (c : Nat), x = .str (S a) ∧ xs = [.str (S [c])] ∧ Q (.int (foi (fst? c a))) H
theorem mt_find1 : MtR X "str.find" rFind1 := mtImp mt_find fun x xs H Q ⟨a, c, e1, e2, q⟩ => ⟨S a, S [c], e1, e2, by rw [find1]; exact q⟩
def rAlnum1 : V → List V → Hp → VK → Prop := fun x xs H Q => ∃ (c : Nat), x = .str (S [c]) ∧ xs = [] ∧ Q (.bl (Unicode.isAlnum c)) H
theorem mt_alnum1 : MtR X "str.isalnum" rAlnum1 := mtImp mt_isalnum fun x xs H Q ⟨c, e1, e2, q⟩ => ⟨S [c], e1, e2, trivial, by
  have e : Txt.isalnum (S [c]) = Unicode.isAlnum c := by simp [Txt.isalnum, S, Str.length]
  rw [e]; exact q⟩
end
end Kr

set_option Elab.async false
set_option linter.all false
set_option maxRecDepth 100000
set_option maxHeartbeats 2000000
namespace Kr
def sgn : List Nat := [10, 32, 33, 34, 35, 36, 38, 39, 40, 41, 42, 43, 44, 45, 46, 47, 48, 49, 50, 51, 52, 53, 54, 55, 56, 57, 58, 59, 60, 61, 62, 63, 64, 65, 66, 67, 68, 69, 70, 71, 72, 73, 74, 75, 76, 77, 78, 79, 80, 81, 82, 83, 84, 85, 86, 87, 88, 89, 90, 91, 92, 93, 94, 95, 96, 97, 98, 99, 100, 101, 102, 103, 104, 105, 106, 107, 108, 109, 110, 111, 112, 113, 114, 115, 116, 117, 118, 119, 120, 121, 122, 123, 124, 125, 126]
def wsg : List Nat := [48, 49, 50, 51, 52, 53, 54, 55, 56, 57, 65, 66, 67, 68, 69, 70, 71, 72, 73, 74, 75, 76, 77, 78, 79, 80, 81, 82, 83, 84, 85, 86, 87, 88, 89, 90, 97, 98, 99, 100, 101, 102, 103, 104, 105, 106, 107, 108, 109, 110, 111, 112, 113, 114, 115, 116, 117, 118, 119, 120, 121, 122]
/-! ### a page -/
structure Pg where
  t : List Nat
  c : Nat
  m : Option Nat
  k : List Nat
  r : Nat
namespace Pg
def adv (h : Nat) (g : Pg) : Pg := ⟨g.t, g.c + 1, g.m.bind fun x => if x + h < g.c + 1 then none else some x, g.k, g.r⟩
def pass (h : Nat) (g : Pg) : Pg := adv h ⟨g.t, g.c, g.m, g.k, g.r - 1⟩
def ins (h : Nat) (g : Pg) (x : Nat) : Pg := adv h ⟨g.t.take g.c ++ x :: g.t.drop g.c, g.c, g.m, g.k, g.r⟩
def inss (h : Nat) (g : Pg) (xs : List Nat) : Pg := xs.foldl (ins h) g
def ahead (g : Pg) : List Nat := (g.t.drop g.c).take 1
def fresh (g : Pg) : Bool := decide (g.c = 0) || g.t[g.c - 1]? == some 10
def held (g : Pg) : Option (List Nat) := g.m.map fun x => (g.t.take g.c).drop x
def stops (key : Nat) (s : List Nat) (a : Nat) : Bool := if key = 47 then decide ([a] = s) else if key = 36 then decide (a = 10) else decide (a ∈ wsg) == decide (key = 110)
def travel (h key : Nat) (s : List Nat) : Nat → Pg → Bool × Pg
  | 0, g => (decide (key ∈ [119, 36]), g)
  | n + 1, g => match g.t[g.c]? with
    | none => (decide (key ∈ [119, 36]), g)
    | some a => if stops key s a = true then (true, g) else travel h key s n (pass h g)
def useMark (h key : Nat) (g : Pg) : Bool × Pg := match g.m with
  | none => (false, g)
  | some x => if key = 98 then (if g.c - x + g.r > h then (false, g) else (true, ⟨g.t, x, some x, g.k, g.r + (g.c - x)⟩))
    else if key = 99 then (true, ⟨g.t.take x ++ g.t.drop g.c, x, some x, (g.t.take g.c).drop x, g.r⟩)
    else (true, ⟨g.t, g.c, some x, (g.t.take g.c).drop x, g.r⟩)
def takeOne (h key : Nat) (g : Pg) : Bool × Pg := if ahead g = [] then (false, g) else if key = 62 then (true, pass h g) else (true, ⟨g.t.take g.c ++ g.t.drop (g.c + 1), g.c, g.m, g.k, g.r - 1⟩)
def act (h : Nat) (g : Pg) (key : Nat) (s : List Nat) : Bool × Pg :=
  if key ∈ [47, 119, 110, 36] then travel h key s (g.t.length + 1) g
  else if key ∈ [98, 107, 99] then useMark h key g
  else if key ∈ [62, 120] then takeOne h key g
  else if key = 61 then (decide (ahead g = s), g)
  else if key = 94 then (fresh g, g)
  else if key = 109 then (true, ⟨g.t, g.c, some g.c, g.k, g.r⟩)
  else if key = 39 then (true, inss h g s)
  else (decide (g.k ≠ []), inss h g g.k)
end Pg
/-- a key by its two parts -/
def vk (key : Nat) (s : List Nat) : Prop := (key ∈ [62, 120, 119, 110, 36, 94, 109, 98, 107, 99, 112] ∧ s = []) ∨ (key ∈ [39, 61, 47] ∧ ∃ a ∈ sgn, s = [a])
structure PgOk (h : Nat) (g : Pg) : Prop where
  c : g.c ≤ g.t.length
  m : ∀ x, g.m = some x → x ≤ g.c ∧ g.c ≤ x + h
  k : g.k.length ≤ h
  ts : ∀ a ∈ g.t, a ∈ sgn
  ks : ∀ a ∈ g.k, a ∈ sgn
  hb : h ≤ 4
theorem adv_ok {h : Nat} {g : Pg} (hb : h ≤ 4) (c : g.c + 1 ≤ g.t.length) (m : ∀ x, g.m = some x → x ≤ g.c) (k : g.k.length ≤ h) (ts : ∀ a ∈ g.t, a ∈ sgn) (ks : ∀ a ∈ g.k, a ∈ sgn) : PgOk h (g.adv h) := by
  refine ⟨c, fun x hx => ?_, k, ts, ks, hb⟩
  unfold Pg.adv at hx ⊢
  simp only at hx ⊢
  cases q : g.m with
  | none => rw [q] at hx; cases hx
  | some y =>
    rw [q] at hx
    have := m y q
    simp only [Option.bind_some] at hx
    split at hx
    · cases hx
    · cases hx; omega
theorem pass_ok {h : Nat} {g : Pg} (o : PgOk h g) (c : g.c < g.t.length) : PgOk h (g.pass h) := adv_ok (g := ⟨g.t, g.c, g.m, g.k, g.r - 1⟩) o.hb c (fun x hx => (o.m x hx).1) o.k o.ts o.ks
theorem ins_ok {h : Nat} {g : Pg} {x : Nat} (o : PgOk h g) (hx : x ∈ sgn) : PgOk h (g.ins h x) := by
  have := o.c
  refine adv_ok (g := ⟨g.t.take g.c ++ x :: g.t.drop g.c, g.c, g.m, g.k, g.r⟩) o.hb ?_ (fun x hx => (o.m x hx).1) o.k (fun a ha => ?_) o.ks
  · simp; omega
  · simp at ha
    rcases ha with ha | rfl | ha
    · exact o.ts a (List.mem_of_mem_take ha)
    · exact hx
    · exact o.ts a (List.mem_of_mem_drop ha)
theorem ins_len {h : Nat} {g : Pg} {x : Nat} (o : PgOk h g) : (g.ins h x).t.length = g.t.length + 1 := by
  have := o.c
  simp [Pg.ins, Pg.adv]; omega
theorem inss_ok {h : Nat} : ∀ {xs : List Nat} {g : Pg}, PgOk h g → (∀ x ∈ xs, x ∈ sgn) → PgOk h (g.inss h xs) ∧ (g.inss h xs).t.length = g.t.length + xs.length
  | [], g, o, _ => ⟨o, rfl⟩
  | x :: xs, g, o, hx => by
    have o1 := ins_ok (x := x) o (hx x List.mem_cons_self)
    obtain ⟨o2, e⟩ := inss_ok (xs := xs) o1 fun y hy => hx y (List.mem_cons_of_mem _ hy)
    refine ⟨o2, ?_⟩
    have e2 : (g.ins h x).t.length = g.t.length + 1 := ins_len o
    show ((g.ins h x).inss h xs).t.length = _
    rw [e, e2]; simp; omega
theorem travel_ok {h key : Nat} {s : List Nat} : ∀ {n : Nat} {g : Pg}, PgOk h g → PgOk h (g.travel h key s n).2 ∧ (g.travel h key s n).2.t = g.t
  | 0, g, o => ⟨o, rfl⟩
  | n + 1, g, o => by
    unfold Pg.travel
    split
    · exact ⟨o, rfl⟩
    · rename_i a ha
      split
      · exact ⟨o, rfl⟩
      · have hl := (List.getElem?_eq_some_iff.mp ha).1
        exact travel_ok (n := n) (pass_ok o hl)
theorem act_ok {h : Nat} {g : Pg} {key : Nat} {s : List Nat} (o : PgOk h g) (v : vk key s) : PgOk h (g.act h key s).2 ∧ (g.act h key s).2.t.length ≤ g.t.length + h + 1 := by
  have hs : ∀ x ∈ s, x ∈ sgn := by
    rcases v with ⟨_, rfl⟩ | ⟨_, a, ha, rfl⟩
    · simp
    · simpa using ha
  have hl : s.length ≤ 1 := by
    rcases v with ⟨_, rfl⟩ | ⟨_, a, ha, rfl⟩ <;> simp
  unfold Pg.act
  split
  · obtain ⟨o2, e⟩ := travel_ok (key := key) (s := s) (n := g.t.length + 1) o
    exact ⟨o2, by rw [e]; omega⟩
  split
  · unfold Pg.useMark
    split
    · exact ⟨o, by simp only; omega⟩
    · rename_i x hx
      have hm := o.m x hx
      have hc := o.c
      split
      · split
        · exact ⟨o, by simp only; omega⟩
        · exact ⟨⟨by simp only; omega, fun y hy => by cases hy; exact ⟨Nat.le_refl _, by simp only; omega⟩, o.k, o.ts, o.ks, o.hb⟩, by simp only; omega⟩
      split
      · refine ⟨⟨by simp; omega, fun y hy => by cases hy; exact ⟨Nat.le_refl _, by simp only; omega⟩, by simp; omega, fun a ha => ?_, fun a ha => ?_, o.hb⟩, by simp; omega⟩
        · simp at ha
          rcases ha with ha | ha
          · exact o.ts a (List.mem_of_mem_take ha)
          · exact o.ts a (List.mem_of_mem_drop ha)
        · exact o.ts a (List.mem_of_mem_take (List.mem_of_mem_drop ha))
      · refine ⟨⟨hc, fun y hy => by cases hy; exact hm, by simp; omega, o.ts, fun a ha => ?_, o.hb⟩, by simp only; omega⟩
        exact o.ts a (List.mem_of_mem_take (List.mem_of_mem_drop ha))
  split
  · unfold Pg.takeOne
    split
    · exact ⟨o, by simp only; omega⟩
    · rename_i ha
      have hc : g.c < g.t.length := by
        rcases Nat.lt_or_ge g.c g.t.length with q | q
        · exact q
        · exact absurd (by unfold Pg.ahead; rw [List.drop_of_length_le q]; rfl) ha
      split
      · exact ⟨pass_ok o hc, by simp only [Pg.pass, Pg.adv]; omega⟩
      · refine ⟨⟨by simp; omega, o.m, o.k, fun a ha => ?_, o.ks, o.hb⟩, by simp; omega⟩
        simp at ha
        rcases ha with ha | ha
        · exact o.ts a (List.mem_of_mem_take ha)
        · exact o.ts a (List.mem_of_mem_drop ha)
  split
  · exact ⟨o, by simp only; omega⟩
  split
  · exact ⟨o, by simp only; omega⟩
  split
  · exact ⟨⟨o.c, fun y hy => by cases hy; exact ⟨Nat.le_refl _, Nat.le_add_right _ _⟩, o.k, o.ts, o.ks, o.hb⟩, by simp only; omega⟩
  split
  · obtain ⟨o2, e⟩ := inss_ok o hs
    exact ⟨o2, by simp only; omega⟩
  · obtain ⟨o2, e⟩ := inss_ok o o.ks
    have := o.k
    exact ⟨o2, by simp only; omega⟩
end Kr

set_option Elab.async false
set_option linter.all false
set_option maxRecDepth 100000
set_option maxHeartbeats 2000000
/-! ### methods, properties, instances of the text's own classes -/
namespace Kr
open PySem PySem.Spec PyProof.Rows L2
structure KMet (P : Program) (w : World) (K : PySem.W.Frag) (mg : Str → Option Value) (base : Heap) (k : Nat) (C : Addr) (m : Str) (sp : Sp) : Prop where
  ex : ∃ (f : Addr) (fd : FuncData) (ps : List Str), Cls K C ∧ Meth K C m f ∧ FnOk P w K mg base (CX P w) k f fd ps sp ∧ Binds K fd ps []
structure KPrp (P : Program) (w : World) (K : PySem.W.Frag) (mg : Str → Option Value) (base : Heap) (k : Nat) (C : Addr) (m : Str) (sp : Sp) : Prop where
  ex : ∃ (p g : Addr) (fd : FuncData) (ps : List Str), Cls K C ∧ PropOf K C m p g ∧ FnOk P w K mg base (CX P w) k g fd ps sp ∧ Binds K fd ps []
section
variable {X : Cx} {k j : Nat} {C : Addr} {m : Str} {sp : Sp} {o e : Expr} {es : List Expr} {ta : TE} {t : TA} {p pos apos : Pos} {W : WX}
def tMethW (C : Addr) (m : Str) (sp : Sp) (E : L2.St → XK) (ta : TE) (t : TA) : TE := fun σ H Q => ta σ H fun x H1 => ∃ a dx fs, x = .ref a ∧ H1 a = some (.ins C dx fs) ∧ fs.lookup m = none ∧ t σ H1 fun vs H2 => sp (x :: vs) H2 Q (E σ)
theorem km {pl : Sem Bool} (c : KMet X.prog X.w X.K X.mg X.base k C m sp) (hr : Room j X.A) (hk : k ≤ j) (he : PE X o ta) (ha : PA X (e :: es) t)
    (h1 : starEach (e :: es) X.env = (false, eval e X.env) :: starEach es X.env := by rfl) (h2 : (backTo pos (starEach es X.env)).any (·.1) = false := by rfl)
    (h3 : eval (.Call (.Attribute o m apos) (e :: es) [] pos) X.env = (do
      let ov ← eval o X.env
      standAt apos.atName
      let (f, first) ← holding [ov] (getMethod ov m pl)
      callWith pos f first (backTo pos (starEach (e :: es) X.env)) (backToKw pos (keywordEach [] X.env))) := by rfl) :
    PE X (.Call (.Attribute o m apos) (e :: es) [] pos) (tMeth C m sp [] E0 ta t) := by
  obtain ⟨f, fd, ps, hc, hm, F, b⟩ := c.ex
  exact pe_meth he hc hm F (hr.mono hk) b .nil passL ha h1 h2 h3
theorem km0 {pl : Sem Bool} (c : KMet X.prog X.w X.K X.mg X.base k C m sp) (hr : Room j X.A) (hk : k ≤ j) (he : PE X o ta)
    (h3 : eval (.Call (.Attribute o m apos) [] [] pos) X.env = (do
      let ov ← eval o X.env
      standAt apos.atName
      let (f, first) ← holding [ov] (getMethod ov m pl)
      callWith pos f first (backTo pos (starEach [] X.env)) (backToKw pos (keywordEach [] X.env))) := by rfl) :
    PE X (.Call (.Attribute o m apos) [] [] pos) (tMeth C m sp [] E0 ta tNil) := by
  obtain ⟨f, fd, ps, hc, hm, F, b⟩ := c.ex
  exact pe_meth0 he hc hm F (hr.mono hk) b .nil passL h3
theorem kmx {pl : Sem Bool} (c : KMet X.prog X.w X.K X.mg X.base k C m sp) (tk : Takes X W) (hr : Room j X.A) (hk : k ≤ j) (he : PE X o ta) (ha : PA X (e :: es) t)
    (h1 : starEach (e :: es) X.env = (false, eval e X.env) :: starEach es X.env := by rfl) (h2 : (backTo pos (starEach es X.env)).any (·.1) = false := by rfl)
    (h3 : eval (.Call (.Attribute o m apos) (e :: es) [] pos) X.env = (do
      let ov ← eval o X.env
      standAt apos.atName
      let (f, first) ← holding [ov] (getMethod ov m pl)
      callWith pos f first (backTo pos (starEach (e :: es) X.env)) (backToKw pos (keywordEach [] X.env))) := by rfl) :
    PE X (.Call (.Attribute o m apos) (e :: es) [] pos) (tMethW C m sp (WE W) ta t) := by
  obtain ⟨f, fd, ps, hc, hm, F, b⟩ := c.ex
  constructor
  intro pins s σ H Q I h
  refine PySem.W.methodCall_KW (pl := pl) (thn (he.run pins s σ H _ I h) fun u s1 hh => ?_) h3
  obtain ⟨x, H1, I1, rx, a, dx, fs, ex, ea, lk, q⟩ := hh
  subst ex
  obtain rfl : u = Value.ref a := rx
  refine getmeth_ok I1 ea hc hm lk ?_
  refine PySem.W.callWith_K (first := [.ref a]) I1.kIn hm.kp (thn (ha.run pos pins s1 σ H1 _ I1 q) fun us s2 hq => ?_) h1 h2
  obtain ⟨vs, H2, I2, r2, q2⟩ := hq
  exact ⟨I2.kIn, run_fnSD (dvs := []) (ds := []) (E := WE W) (vs := .ref a :: vs) F (hr.mono hk) b .nil (passAt tk σ) I2 (.cons rfl r2) (by simpa using q2)⟩
theorem kprop (c : KPrp X.prog X.w X.K X.mg X.base k C m sp) (hr : Room j X.A) (hk : k + 1 ≤ j) (he : PE X e ta) (hab : attributeBase e m X.env (eval e X.env) = eval e X.env := by rfl) : PE X (.Attribute e m pos) (tProp C sp [] E0 ta) := by
  obtain ⟨p, g, fd, ps, hc, hp, F, b⟩ := c.ex
  exact pe_prop he hc hp F (hr.mono hk) b .nil (passL (X := X.nox)) hab
end
/-- C(e, .., k = v, ..) -/
structure KMak (P : Program) (w : World) (K : PySem.W.Frag) (mg : Str → Option Value) (base : Heap) (k : Nat) (x : Str) (C : Addr) (n : Nat) (ks : List Str) (sp : Sp) (gV : List V → List V → List V) : Prop where
  ex : ∃ (f : Addr) (fd : FuncData) (ps : List Str) (g : List Value → List Value → List Value), Mk K C f ∧ FnOk P w K mg base (CX P w) k f fd ps sp ∧ mg x = some (.ref C) ∧ KBn K fd ps (n + 1) ks g gV
/-- C(e, ..), the last parameters by default -/
structure KMap (P : Program) (w : World) (K : PySem.W.Frag) (mg : Str → Option Value) (base : Heap) (k : Nat) (x : Str) (C : Addr) (sp : Sp) (dvs : List V) : Prop where
  ex : ∃ (f : Addr) (fd : FuncData) (ps : List Str) (ds : List Value), Mk K C f ∧ FnOk P w K mg base (CX P w) k f fd ps sp ∧ mg x = some (.ref C) ∧ Binds K fd ps ds ∧ Vals dvs ds
section
variable {X : Cx} {k j n : Nat} {x : Str} {C : Addr} {ks : List Str} {sp : Sp} {gV : List V → List V → List V} {e : Expr} {es : List Expr} {kws : List Keyword} {t tk : TA} {p pos : Pos} {dvs : List V}
theorem kmak (c : KMak X.prog X.w X.K X.mg X.base k x C n ks sp gV) (hr : Room j X.A) (hk : k + 1 ≤ j) (hg : Gl X x) (ha : PA X (e :: es) t) (hkw : PK X kws tk)
    (h1 : (backToKw pos (keywordEach kws X.env)).all (·.1.isSome) = true := by rfl) (h2 : (backToKw pos (keywordEach kws X.env)).filterMap (·.1) = ks := by rfl) (h3 : (x == ("__debug__" : Str)) = false := by decide)
    (h4 : starEach (e :: es) X.env = (false, eval e X.env) :: starEach es X.env := by rfl) (h5 : ((backTo pos (starEach (e :: es) X.env)).any (·.1) || (backToKw pos (keywordEach kws X.env)).any (·.1.isNone)) = false := by rfl) :
    PE X (.Call (.Name x p) (e :: es) kws pos) (tMakeK C n ks.length sp gV E0 t tk) := by
  obtain ⟨f, fd, ps, g, M, F, hm, b⟩ := c.ex
  exact pe_makeK M F (hr.mono hk) hg hm b passL ha hkw h1 h2 h3 h4 h5
theorem kmap (c : KMap X.prog X.w X.K X.mg X.base k x C sp dvs) (hr : Room j X.A) (hk : k + 1 ≤ j) (hg : Gl X x) (ha : PA X (e :: es) t)
    (h3 : (x == ("__debug__" : Str)) = false := by decide) (h4 : starEach (e :: es) X.env = (false, eval e X.env) :: starEach es X.env := by rfl) (h5 : (backTo pos (starEach es X.env)).any (·.1) = false := by rfl) :
    PE X (.Call (.Name x p) (e :: es) [] pos) (tMake C sp dvs E0 t) := by
  obtain ⟨f, fd, ps, ds, M, F, hm, b, d⟩ := c.ex
  exact pe_make M F (hr.mono hk) hg hm b d passL ha h3 h4 h5
theorem kmap0 (c : KMap X.prog X.w X.K X.mg X.base k x C sp dvs) (hr : Room j X.A) (hk : k + 1 ≤ j) (hg : Gl X x) (h3 : (x == ("__debug__" : Str)) = false := by decide) :
    PE X (.Call (.Name x p) [] [] pos) (tMake C sp dvs E0 tNil) := by
  obtain ⟨f, fd, ps, ds, M, F, hm, b, d⟩ := c.ex
  exact pe_make0 M F (hr.mono hk) hg hm b d passL h3
end
/-! ### the head's facts of properties -/
def propB (K : PySem.W.Frag) (C f : Str) : Bool := match PySem.W.findIn K (.ref (He.ga K C)) f with
  | some (some (.ref p)) => decide (PySem.W.specialIn K (.ref p) "__get__" = some (some (.builtin "property.__get__"))) && (decide (PySem.W.takesIn K (.ref p) = some true) && (match PySem.W.recIn K p "property" with
    | some (.ref _ :: _) => true
    | _ => false))
  | _ => false
def propG (K : PySem.W.Frag) (C f : Str) : Addr := match PySem.W.findIn K (.ref (He.ga K C)) f with
  | some (some (.ref p)) => (match PySem.W.recIn K p "property" with
    | some (.ref g :: _) => g
    | _ => 0)
  | _ => 0
theorem propB_ok {K : PySem.W.Frag} {C f : Str} (h : propB K C f = true) : ∃ p, PropOf K (He.ga K C) f p (propG K C f) := by
  unfold propB at h
  split at h
  · rename_i p hp
    obtain ⟨h1, h⟩ := He.ba h
    obtain ⟨h2, h3⟩ := He.ba h
    split at h3
    · rename_i g r hr
      refine ⟨p, hp, of_decide_eq_true h1, of_decide_eq_true h2, r, ?_⟩
      unfold propG
      rw [hp]
      simp only [hr]
    · cases h3
  · cases h
/-! ### a hook that also tells the getters of properties -/
def fnWA (K : PySem.W.Frag) (a : Addr) : He.FnW := match K.lookup a with
  | some ⟨_, _, .func fd, _⟩ => some (fd.name, fd.qualname, fd.params, fd.body, fd.scope, fd.globals, fd.closure, fd.builtins)
  | _ => none
def okA (K : PySem.W.Frag) (a : Addr) (d : He.DefD) : Bool := PySem.W.keepIn K (.ref a) && (match K.lookup a with
  | some ⟨_, _, .func fd, _⟩ => PySem.W.codeIn K fd.code d.qual && (He.dflB K fd.defaults (d.dvs K) && He.kwdB K fd.kwdefaults (d.kws K))
  | _ => false)
theorem funDA {K : PySem.W.Frag} {a : Addr} {d : He.DefD} (e : fnWA K a = d.val) (c : okA K a d = true) : ∃ fd, FunD K d.name d.qual d.params d.body d.scope (d.dvs K) (d.kws K) a fd := by
  unfold okA at c
  have c' := He.ba c
  unfold fnWA at e
  generalize q : K.lookup a = lo at e c'
  match lo, q, e, c' with
  | some ⟨oc, od, .func ⟨n1, n2, n3, n4, n5, n6, n7, n8, n9, n10, n11, n12, n13, n14, n15⟩, osl⟩, q, e, c' =>
    have e2 : (some (n1, n2, n3, n4, n5, n6, n7, n15) : He.FnW) = some (d.name, d.qual, d.params, .stmts d.body, d.scope, mainGlobals, [], builtinsNs) := e
    simp only [Option.some.injEq, Prod.mk.injEq] at e2
    obtain ⟨rfl, rfl, rfl, rfl, rfl, rfl, rfl, rfl⟩ := e2
    have z1 := He.ba c'.2
    have z2 := He.ba z1.2
    exact ⟨_, ⟨oc, od, n8, n9, n10, n11, n12, n13, n14, osl, rfl, q, z1.1, He.dflB_ok z2.1, He.kwdB_ok z2.2⟩, c'.1⟩
abbrev PD : Type := Str × Str × He.DefD
def pobs (ps : List PD) (K : PySem.W.Frag) : List He.FnW := ps.map fun p => fnWA K (propG K p.1 p.2.1)
def pval (ps : List PD) : List He.FnW := ps.map fun p => p.2.2.val
def pok (ps : List PD) (K : PySem.W.Frag) : Bool := ps.all fun p => propB K p.1 p.2.1 && okA K (propG K p.1 p.2.1) p.2.2
abbrev AlY : Type := He.AlX × List He.FnW
def obsY (n : Nat) (fa : List He.Fa) (fn : List He.DefD) (ps : List PD) (ex : PySem.W.Frag → Bool) (g : Addr → Option Obj) : AlY := (He.obsX n fa fn [] [] (fun K => ex K && pok ps K) g, pobs ps (He.frT g (He.asD g n)))
structure SaysY (fa : List He.Fa) (fn : List He.DefD) (ps : List PD) (ex : PySem.W.Frag → Bool) (w : World) (h : Heap) (K : PySem.W.Frag) : Prop where
  x : He.SaysX fa fn [] [] (fun K => ex K && pok ps K) w h K
  p : pobs ps K = pval ps
def hookY (n : Nat) (fa : List He.Fa) (fn : List He.DefD) (ps : List PD) (ex : PySem.W.Frag → Bool) : PySem.W.Hook where
  α := AlY
  obs := fun s => obsY n fa fn ps ex s.heap.get?
  val := fun w => (He.valX fn [] w, pval ps)
  says := fun w h => ∃ K : PySem.W.Frag, K.In h ∧ SaysY fa fn ps ex w h K
  of := fun w s e => ⟨_, He.frT_in, He.saysX_of (congrArg (fun z : AlY => z.1) e), congrArg (fun z : AlY => z.2) e⟩
  keeps := fun _ _ _ ⟨K, hK, c⟩ k => ⟨K, PySem.W.Frag.In.keeps hK k, ⟨c.x.t, c.x.more, c.x.hd, c.x.out, fun p hp => k _ _ (c.x.empty p hp)⟩, c.p⟩
theorem obsY_eq {n : Nat} {fa : List He.Fa} {fn : List He.DefD} {ps : List PD} {ex : PySem.W.Frag → Bool} {g : Addr → Option Obj} {s : Shared} (h : ∀ a, g a = s.heap.get? a) : obsY n fa fn ps ex g = (hookY n fa fn ps ex).obs s := by
  have e : g = s.heap.get? := funext h
  subst e
  rfl
theorem SaysY.prop {fa : List He.Fa} {fn : List He.DefD} {ps : List PD} {ex : PySem.W.Frag → Bool} {w : World} {h : Heap} {K : PySem.W.Frag} (c : SaysY fa fn ps ex w h K) (i : Nat) {p : PD} (hp : ps[i]? = some p := by rfl) :
    ∃ (a : Addr) (fd : FuncData), PropOf K (He.ga K p.1) p.2.1 a (propG K p.1 p.2.1) ∧ FunD K p.2.2.name p.2.2.qual p.2.2.params p.2.2.body p.2.2.scope (p.2.2.dvs K) (p.2.2.kws K) (propG K p.1 p.2.1) fd := by
  have c2 := (He.ba c.x.more).2
  obtain ⟨h1, h2⟩ := He.ba (List.all_eq_true.mp c2 p (List.mem_of_getElem? hp))
  obtain ⟨a, ha⟩ := propB_ok h1
  have e2 : (pobs ps K)[i]? = (pval ps)[i]? := by rw [c.p]
  unfold pobs pval at e2
  rw [List.getElem?_map, List.getElem?_map, hp] at e2
  obtain ⟨fd, F⟩ := funDA (Option.some.inj e2) h2
  exact ⟨a, fd, ha, F⟩
theorem SaysY.ex {fa : List He.Fa} {fn : List He.DefD} {ps : List PD} {ex : PySem.W.Frag → Bool} {w : World} {h : Heap} {K : PySem.W.Frag} (c : SaysY fa fn ps ex w h K) : ex K = true := (He.ba c.x.more).1
end Kr

set_option Elab.async false
set_option linter.all false
set_option maxRecDepth 100000
set_option maxHeartbeats 2000000
namespace Kr
open PySem PySem.Spec PyProof.Rows L2
open SX (S)
open He (ga ma)
/-! ### a page in the heap -/
def pgR (t c m k r h : V) : List (Str × V) := [("text", t), ("caret", c), ("mark", m), ("kept", k), ("returned", r), ("hold", h)]
def mV : Option Nat → V
  | none => .non
  | some x => .int (x : Nat)
section
variable {t c m k r h v : V}
theorem lk_text : (pgR t c m k r h).lookup ("text" : Str) = some t := by kernel_rfl
theorem lk_caret : (pgR t c m k r h).lookup ("caret" : Str) = some c := by kernel_rfl
theorem lk_mark : (pgR t c m k r h).lookup ("mark" : Str) = some m := by kernel_rfl
theorem lk_kept : (pgR t c m k r h).lookup ("kept" : Str) = some k := by kernel_rfl
theorem lk_returned : (pgR t c m k r h).lookup ("returned" : Str) = some r := by kernel_rfl
theorem lk_hold : (pgR t c m k r h).lookup ("hold" : Str) = some h := by kernel_rfl
theorem pt_text : putF "text" v (pgR t c m k r h) = pgR v c m k r h := by kernel_rfl
theorem pt_caret : putF "caret" v (pgR t c m k r h) = pgR t v m k r h := by kernel_rfl
theorem pt_mark : putF "mark" v (pgR t c m k r h) = pgR t c v k r h := by kernel_rfl
theorem pt_kept : putF "kept" v (pgR t c m k r h) = pgR t c m v r h := by kernel_rfl
theorem pt_returned : putF "returned" v (pgR t c m k r h) = pgR t c m k v h := by kernel_rfl
theorem pt_new : putF "hold" h (putF "returned" r (putF "kept" k (putF "mark" m (putF "caret" c (putF "text" t []))))) = pgR t c m k r h := by kernel_rfl
theorem nm_act : (pgR t c m k r h).lookup ("act" : Str) = none := by kernel_rfl
theorem nm_travel : (pgR t c m k r h).lookup ("travel" : Str) = none := by kernel_rfl
theorem nm_use_mark : (pgR t c m k r h).lookup ("use_mark" : Str) = none := by kernel_rfl
theorem nm_take_one : (pgR t c m k r h).lookup ("take_one" : Str) = none := by kernel_rfl
theorem nm_ahead : (pgR t c m k r h).lookup ("ahead" : Str) = none := by kernel_rfl
theorem nm_pass_sign : (pgR t c m k r h).lookup ("pass_sign" : Str) = none := by kernel_rfl
theorem nm_advance_caret : (pgR t c m k r h).lookup ("advance_caret" : Str) = none := by kernel_rfl
theorem nm_insert : (pgR t c m k r h).lookup ("insert" : Str) = none := by kernel_rfl
theorem nm_press : (pgR t c m k r h).lookup ("press" : Str) = none := by kernel_rfl
theorem nm_move_to : (pgR t c m k r h).lookup ("move_to" : Str) = none := by kernel_rfl
theorem nm_copy : (pgR t c m k r h).lookup ("copy" : Str) = none := by kernel_rfl
theorem nm_line_start_at : (pgR t c m k r h).lookup ("line_start_at" : Str) = none := by kernel_rfl
theorem ln_pg : (pgR t c m k r h).length < 1000 := by
  show 6 < 1000
  decide
end
abbrev pgf (g : Pg) (h : Nat) : List (Str × V) := pgR (.str (S g.t)) (.int (g.c : Nat)) (mV g.m) (.str (S g.k)) (.int (g.r : Nat)) (.int (h : Nat))
/-- a page g with the bound h stands at p -/
def PageAt (K : PySem.W.Frag) (H : Hp) (p : Addr) (g : Pg) (h : Nat) : Prop := ∃ dx, H p = some (.ins (ga K "Page") dx (pgf g h))
theorem PageAt.keep {K : PySem.W.Frag} {H H' : Hp} {S : List Addr} {p : Addr} {g : Pg} {h : Nat} (a : PageAt K H p g h) (k : Kp S H H') (hp : p ∉ S) : PageAt K H' p g h := by
  obtain ⟨dx, e⟩ := a
  exact ⟨dx, k p _ hp e⟩
theorem PageAt.same {K : PySem.W.Frag} {H H' : Hp} {p : Addr} {g : Pg} {h : Nat} (a : PageAt K H p g h) (k : Same H H') : PageAt K H' p g h := by
  obtain ⟨dx, e⟩ := a
  exact ⟨dx, k p _ e⟩
/-- the class Page's facts -/
structure TP (K : PySem.W.Frag) : Prop where
  cl : Cls K (ga K "Page")
  n_text : NoAttr K (ga K "Page") "text"
  n_caret : NoAttr K (ga K "Page") "caret"
  n_mark : NoAttr K (ga K "Page") "mark"
  n_kept : NoAttr K (ga K "Page") "kept"
  n_returned : NoAttr K (ga K "Page") "returned"
  n_hold : NoAttr K (ga K "Page") "hold"
end Kr

set_option Elab.async false
set_option linter.all false
set_option maxRecDepth 100000
set_option maxHeartbeats 2000000
namespace Kr
open PySem PySem.Spec PyProof.Rows L2
open SX (S)
open He (ga ma)
def top (i : Nat) : Stmt := PySem.Challenge.pw_keyreel_k12_whole_pages.main.body.getD i (.Pass ⟨0, 0, 0, 0⟩)
abbrev FnP (K : PySem.W.Frag) (x : Str) (st : Stmt) (f : Addr) (fd : FuncData) : Prop := FunD K x x (defArgs st) (defBody st) (defScope st) [] [] f fd
structure TX (K : PySem.W.Frag) (mg : Str → Option Value) : Prop where
  b_len : mg "len" = none
  b_int : mg "int" = none
  b_list : mg "list" = none
  b_range : mg "range" = none
  b_max : mg "max" = none
  b_enumerate : mg "enumerate" = none
  b_isinstance : mg "isinstance" = none
  b_bool : mg "bool" = none
  g_SIGNS : ∃ t, mg "SIGNS" = some (.str (S sgn) t)
  g_WORD_SIGNS : ∃ t, mg "WORD_SIGNS" = some (.str (S wsg) t)
  g_PLAIN_KEYS : ∃ t, mg "PLAIN_KEYS" = some (.str (S [62, 120, 119, 110, 36, 94, 109, 98, 107, 99, 112]) t)
  g_SIGN_KEYS : ∃ t, mg "SIGN_KEYS" = some (.str (S [39, 61, 47]) t)
  g_HOLD : ∃ t, mg "HOLD" = some (.int 2 t)
  g_MOST_HOLD : ∃ t, mg "MOST_HOLD" = some (.int 4 t)
section
variable {P : Program} {w : World} {K : PySem.W.Frag} {mg : Str → Option Value} {base : Heap}
abbrev s_InvalidText : Stmt := inClass (top 3) 0
theorem sc_InvalidText : FnScope ["self", "place"] ["self", "place"] (defScope s_InvalidText) := ⟨rfl, rfl, rfl, by decide +kernel, rfl, by decide +kernel, by decide +kernel⟩
theorem ok_InvalidText {C : Addr} (T : OexC K C) (no : PySem.W.findIn K (.ref C) "place" = some none) {f : Addr} {fd : FuncData} (F : FunD K "__init__" "InvalidText.__init__" (defArgs s_InvalidText) (defBody s_InvalidText) (defScope s_InvalidText) [] [] f fd) : FnOk P w K mg base (CX P w) 1 f fd ["self", "place"] (spEx1 C "place") := by
  refine F.ok sc_InvalidText (fun vs H Q E h => ?_) (fun cdv A outer s H vs Q E hr h => ?_)
  · obtain ⟨a, v, rfl, _⟩ := h
    rfl
  · obtain ⟨a, v, rfl, ha, k⟩ := h
    refine ⟨_, pss_one (ps_ost (pv 0) (pv 1)), ?_⟩
    exact ⟨_, rfl, _, rfl, a, C, rfl, T, no, .inl ⟨ha, fun dx h1 h2 => k dx h1 h2⟩⟩
abbrev s_InvalidPlace : Stmt := inClass (top 4) 0
theorem sc_InvalidPlace : FnScope ["self", "place"] ["self", "place"] (defScope s_InvalidPlace) := ⟨rfl, rfl, rfl, by decide +kernel, rfl, by decide +kernel, by decide +kernel⟩
theorem ok_InvalidPlace {C : Addr} (T : OexC K C) (no : PySem.W.findIn K (.ref C) "place" = some none) {f : Addr} {fd : FuncData} (F : FunD K "__init__" "InvalidPlace.__init__" (defArgs s_InvalidPlace) (defBody s_InvalidPlace) (defScope s_InvalidPlace) [] [] f fd) : FnOk P w K mg base (CX P w) 1 f fd ["self", "place"] (spEx1 C "place") := by
  refine F.ok sc_InvalidPlace (fun vs H Q E h => ?_) (fun cdv A outer s H vs Q E hr h => ?_)
  · obtain ⟨a, v, rfl, _⟩ := h
    rfl
  · obtain ⟨a, v, rfl, ha, k⟩ := h
    refine ⟨_, pss_one (ps_ost (pv 0) (pv 1)), ?_⟩
    exact ⟨_, rfl, _, rfl, a, C, rfl, T, no, .inl ⟨ha, fun dx h1 h2 => k dx h1 h2⟩⟩
abbrev s_InvalidKey : Stmt := inClass (top 5) 0
theorem sc_InvalidKey : FnScope ["self", "key"] ["self", "key"] (defScope s_InvalidKey) := ⟨rfl, rfl, rfl, by decide +kernel, rfl, by decide +kernel, by decide +kernel⟩
theorem ok_InvalidKey {C : Addr} (T : OexC K C) (no : PySem.W.findIn K (.ref C) "key" = some none) {f : Addr} {fd : FuncData} (F : FunD K "__init__" "InvalidKey.__init__" (defArgs s_InvalidKey) (defBody s_InvalidKey) (defScope s_InvalidKey) [] [] f fd) : FnOk P w K mg base (CX P w) 1 f fd ["self", "key"] (spEx1 C "key") := by
  refine F.ok sc_InvalidKey (fun vs H Q E h => ?_) (fun cdv A outer s H vs Q E hr h => ?_)
  · obtain ⟨a, v, rfl, _⟩ := h
    rfl
  · obtain ⟨a, v, rfl, ha, k⟩ := h
    refine ⟨_, pss_one (ps_ost (pv 0) (pv 1)), ?_⟩
    exact ⟨_, rfl, _, rfl, a, C, rfl, T, no, .inl ⟨ha, fun dx h1 h2 => k dx h1 h2⟩⟩
abbrev s_InvalidHold : Stmt := inClass (top 6) 0
theorem sc_InvalidHold : FnScope ["self", "hold"] ["self", "hold"] (defScope s_InvalidHold) := ⟨rfl, rfl, rfl, by decide +kernel, rfl, by decide +kernel, by decide +kernel⟩
theorem ok_InvalidHold {C : Addr} (T : OexC K C) (no : PySem.W.findIn K (.ref C) "hold" = some none) {f : Addr} {fd : FuncData} (F : FunD K "__init__" "InvalidHold.__init__" (defArgs s_InvalidHold) (defBody s_InvalidHold) (defScope s_InvalidHold) [] [] f fd) : FnOk P w K mg base (CX P w) 1 f fd ["self", "hold"] (spEx1 C "hold") := by
  refine F.ok sc_InvalidHold (fun vs H Q E h => ?_) (fun cdv A outer s H vs Q E hr h => ?_)
  · obtain ⟨a, v, rfl, _⟩ := h
    rfl
  · obtain ⟨a, v, rfl, ha, k⟩ := h
    refine ⟨_, pss_one (ps_ost (pv 0) (pv 1)), ?_⟩
    exact ⟨_, rfl, _, rfl, a, C, rfl, T, no, .inl ⟨ha, fun dx h1 h2 => k dx h1 h2⟩⟩
/-! ### keyreel.signs -/
def spIsWord : Sp := fun vs H Q _ => ∃ c : Nat, vs = [.str (S [c])] ∧ Q (.bl (decide (c ∈ wsg))) H
abbrev s_is_word_sign : Stmt := top 13
theorem sc_is_word_sign : FnScope ["sign"] ["sign"] (defScope s_is_word_sign) := ⟨rfl, rfl, rfl, by decide +kernel, rfl, by decide +kernel, by decide +kernel⟩
theorem ok_is_word_sign (T : TX K mg) {f : Addr} {fd : FuncData} (F : FnP K "is_word_sign" s_is_word_sign f fd) : FnOk P w K mg base (CX P w) 1 f fd ["sign"] spIsWord := by
  refine F.ok sc_is_word_sign (fun vs H Q E h => ?_) (fun cdv A outer s H vs Q E hr h => ?_)
  · obtain ⟨c, rfl, _⟩ := h
    rfl
  · obtain ⟨c, rfl, k⟩ := h
    refine ⟨_, (pss_one (ps_ret (pe_and (pe_cmpR op_eq (pe_callB call_lenS (by rfl) T.b_len PySem.boot_len (pa_cons (pv 0) pa_nil)) pe_int (nomark _)) (pe_one (pe_cmpR op_inS (pv 0) (pe_gS T.g_WORD_SIGNS rfl) rfl))))), ?_⟩
    exact ⟨_, rfl, _, rfl, by simp, rfl, _, rfl, iteT ⟨_, rfl, _, _, rfl, rfl, k⟩⟩
/-- the first place that is no sign -/
def badAt (a : List Nat) : Option Nat := a.findIdx? fun c => !decide (c ∈ sgn)
/-- X(place = i) leaves, X at C -/
def Rz (C : Addr) (f : Str) (v : V) (H : Hp) (E : XK) : Prop := ∀ H' d, Same H H' → H' d = none → E (.ref C) (some d) (upd H' d (.xd [(f, v)]))
def spCheckText (K : PySem.W.Frag) : Sp := fun vs H Q E => ∃ a : List Nat, vs = [.str (S a)] ∧ (badAt a = none → ∀ H', Same H H' → Q .non H') ∧ (∀ i, badAt a = some i → Rz (ga K "InvalidText") "place" (.int (i : Nat)) H E)
abbrev s_check_text : Stmt := top 14
theorem sc_check_text : FnScope ["text", "place", "sign"] ["text"] (defScope s_check_text) := ⟨rfl, rfl, rfl, by decide +kernel, rfl, by decide +kernel, by decide +kernel⟩
theorem Same.new {H H' : Hp} {p : Addr} {o : HO} (a : Same H H') (h : H' p = none) : Same H (upd H' p o) := fun x u q => by
  have q' := a x u q
  rw [upd_ne (ne_of_none q' h)]; exact q'
theorem ok_check_text (T : TX K mg) (x_InvalidText : Ex1 P w K mg base "InvalidText" "place" (ga K "InvalidText")) {f : Addr} {fd : FuncData} (F : FnP K "check_text" s_check_text f fd) : FnOk P w K mg base (CX P w) 3 f fd ["text"] (spCheckText K) := by
  refine F.ok sc_check_text (fun vs H Q E h => ?_) (fun cdv A outer s H vs Q E hr h => ?_)
  · obtain ⟨a, rfl, _⟩ := h
    rfl
  · obtain ⟨a, rfl, kN, kE⟩ := h
    refine ⟨_, (pss_one (ps_for (passes_of rfl) rfl (pi_enumS (by rfl) T.b_enumerate (pa_cons (pv 0) pa_nil)) (pg_tup rfl (pgs_cons (pg_name (i := 1) sc_check_text.nd rfl (Or.inl rfl)) (pgs_cons (pg_name (i := 2) sc_check_text.nd rfl (Or.inl rfl)) pgs_nil))) (pss_one (ps_if (pt_cmpR op_notInS (pv 2) (pe_gS T.g_SIGNS rfl) rfl) (pss_one (ps_raise1 rfl (takes_of rfl rfl rfl rfl) x_InvalidText hr (by decide) rfl (pv 1))) pss_nil)))), ?_⟩
    refine ⟨_, rfl, _, rfl, for_it walk_enumS (fun i σ H' => ∃ u v, σ = [some (.str (S a)), u, v] ∧ Same H H' ∧ ∀ j c, j < i → a[j]? = some c → c ∈ sgn) ?_ (fun _ _ _ _ _ => trivial) ?_ ?_⟩
    · exact ⟨none, none, rfl, Same.refl H, fun j c h => absurd h (Nat.not_lt_zero _)⟩
    · rintro i x σ H1 H2 hi ⟨u, v, rfl, s1, ok⟩ ⟨tt, y, z, rfl, h1, rfl, e1, e2⟩
      cases Option.some.inj e1
      have hi' : i < a.length := by simpa [S] using hi
      have e3 : a[i]? = some a[i] := List.getElem?_eq_getElem hi'
      have e4 : z = .str (S [a[i]]) := by
        have q : ((S a).cps[i]?.map fun c => V.str ⟨#[c]⟩) = some z := e2
        have q2 : (S a).cps[i]? = some a[i] := by simpa [S] using e3
        rw [q2] at q
        exact (Option.some.inj q).symm
      subst e4
      have s2 : Same H (upd H1 tt (.tup [.int (i : Nat), .str (S [a[i]])])) := Same.new s1 h1
      refine ⟨tt, _, rfl, SqT.of upd_same, rfl, ?_⟩
      refine ⟨_, _, rfl, _, _, rfl, rfl, ?_⟩
      refine ⟨_, rfl, _, _, rfl, rfl, _, rfl, ?_⟩
      refine if2 (fun c => ?_) (fun c => ?_)
      · have hc : a[i] ∉ sgn := by simpa using c
        refine ⟨_, rfl, mk1_end fun d hd => ?_⟩
        refine kE i ?_ _ d s2 hd
        unfold badAt
        rw [List.findIdx?_eq_some_iff_getElem]
        refine ⟨hi', by simpa using hc, fun j hj => ?_⟩
        have := ok j a[j] hj (List.getElem?_eq_getElem (by omega))
        simpa using this
      · have hc : a[i] ∈ sgn := by simpa using c
        refine ⟨_, _, rfl, s2, fun j c hj e => ?_⟩
        by_cases hj' : j = i
        · subst hj'
          rw [e3] at e
          cases e
          exact hc
        · exact ok j c (by omega) e
    · rintro σ H1 ⟨u, v, rfl, s1, ok⟩
      refine kN ?_ H1 s1
      unfold badAt
      rw [List.findIdx?_eq_none_iff]
      intro c hc
      obtain ⟨j, hj, e⟩ := List.mem_iff_getElem.mp hc
      have := ok j c (by simpa [S] using hj) (by rw [List.getElem?_eq_getElem hj, e])
      simpa using this
def spCheckPlace (K : PySem.W.Frag) : Sp := fun vs H Q E => ∃ (a : List Nat) (i : Int), vs = [.str (S a), .int i] ∧ a.length ≤ 100000 ∧ (0 ≤ i ∧ i ≤ a.length → Q .non H) ∧ (¬ (0 ≤ i ∧ i ≤ a.length) → Rz (ga K "InvalidPlace") "place" (.int i) H E)
abbrev s_check_place : Stmt := top 15
theorem sc_check_place : FnScope ["text", "place"] ["text", "place"] (defScope s_check_place) := ⟨rfl, rfl, rfl, by decide +kernel, rfl, by decide +kernel, by decide +kernel⟩
theorem ok_check_place (T : TX K mg) (x_InvalidPlace : Ex1 P w K mg base "InvalidPlace" "place" (ga K "InvalidPlace")) {f : Addr} {fd : FuncData} (F : FnP K "check_place" s_check_place f fd) : FnOk P w K mg base (CX P w) 3 f fd ["text", "place"] (spCheckPlace K) := by
  refine F.ok sc_check_place (fun vs H Q E h => ?_) (fun cdv A outer s H vs Q E hr h => ?_)
  · obtain ⟨a, i, rfl, _⟩ := h
    rfl
  · obtain ⟨a, i, rfl, hl, kN, kE⟩ := h
    refine ⟨_, (pss_one (ps_if (PW.pt (pw_or (pt_cmpR op_lt (pv 1) pe_int (nomark _)) (pw_or1 (pt_cmpR op_gt (pv 1) (pe_callB call_lenS (by rfl) T.b_len PySem.boot_len (pa_cons (pv 0) pa_nil)) (nomark _))))) (pss_one (ps_raise1 rfl (takes_of rfl rfl rfl rfl) x_InvalidPlace hr (by decide) rfl (pv 1))) pss_nil)), ?_⟩
    refine ⟨_, rfl, _, _, rfl, rfl, _, rfl, ?_⟩
    refine if2 (fun c => ?_) (fun c => ?_)
    · have hc : i < 0 := of_decide_eq_true c
      refine ift rfl ?_
      exact ⟨_, rfl, mk1_end fun d hd => kE (by omega) _ d (Same.refl H) hd⟩
    · have hc : ¬ i < 0 := of_decide_eq_false c
      refine ⟨_, rfl, _, rfl, _, rfl, hl, _, _, rfl, rfl, _, rfl, ?_⟩
      refine if2 (fun c => ?_) (fun c => ?_)
      · have hc2 : (a.length : Int) < i := of_decide_eq_true c
        exact ⟨_, rfl, mk1_end fun d hd => kE (by omega) _ d (Same.refl H) hd⟩
      · have hc2 : ¬ (a.length : Int) < i := of_decide_eq_false c
        exact kN (by omega)
/-! ### keyreel.notation, keyreel.page -/
def pk : List Nat := [62, 120, 119, 110, 36, 94, 109, 98, 107, 99, 112]
def sk : List Nat := [39, 61, 47]
def isKey : List Nat → Bool
  | [a] => decide (a ∈ pk)
  | [a, b] => decide (a ∈ sk) && decide (b ∈ sgn)
  | _ => false
theorem isKey_vk {kk : List Nat} (h : isKey kk = true) : ∃ key s, kk = key :: s ∧ vk key s := by
  match kk, h with
  | [a], h => exact ⟨a, [], rfl, .inl ⟨of_decide_eq_true h, rfl⟩⟩
  | [a, b], h =>
    have h' : (decide (a ∈ sk) && decide (b ∈ sgn)) = true := h
    rw [Bool.and_eq_true] at h'
    exact ⟨a, [b], rfl, .inr ⟨of_decide_eq_true h'.1, b, of_decide_eq_true h'.2, rfl⟩⟩
theorem vk_isKey {key : Nat} {s : List Nat} (h : vk key s) : isKey (key :: s) = true := by
  rcases h with ⟨h1, rfl⟩ | ⟨h1, a, h2, rfl⟩
  · exact decide_eq_true h1
  · show (decide (key ∈ sk) && decide (a ∈ sgn)) = true
    rw [Bool.and_eq_true]
    exact ⟨decide_eq_true h1, decide_eq_true h2⟩
def spIsKey : Sp := fun vs H Q _ => ∃ kk : List Nat, vs = [.str (S kk)] ∧ kk.length ≤ 1000 ∧ Q (.bl (isKey kk)) H
abbrev s_is_key : Stmt := top 19
theorem sc_is_key : FnScope ["key"] ["key"] (defScope s_is_key) := ⟨rfl, rfl, rfl, by decide +kernel, rfl, by decide +kernel, by decide +kernel⟩
theorem ok_is_key (T : TX K mg) {f : Addr} {fd : FuncData} (F : FunD K "is_key" "is_key" (defArgs s_is_key) (defBody s_is_key) (defScope s_is_key) [] [] f fd) : FnOk P w K mg base (CX P w) 1 f fd ["key"] spIsKey := by
  refine F.ok sc_is_key (fun vs H Q E h => ?_) (fun cdv A outer s H vs Q E hr h => ?_)
  · obtain ⟨kk, rfl, _⟩ := h
    rfl
  · obtain ⟨kk, rfl, hl, k⟩ := h
    refine ⟨_, (pss_cons (ps_if (pt_cmpR op_eq (pe_callB call_lenS (by rfl) T.b_len PySem.boot_len (pa_cons (pv 0) pa_nil)) pe_int (nomark _)) (pss_one (ps_ret (pe_cmpR op_inS (pv 0) (pe_gS T.g_PLAIN_KEYS rfl) rfl))) pss_nil) (pss_one (ps_ret (pe_and (pe_cmpR op_eq (pe_callB call_lenS (by rfl) T.b_len PySem.boot_len (pa_cons (pv 0) pa_nil)) pe_int (nomark _)) (pe_and (pe_cmpR op_inS (pe_ix ix_S (pv 0) pe_int (fun _ _ => rfl)) (pe_gS T.g_SIGN_KEYS rfl) rfl) (pe_one (pe_cmpR op_inS (pe_ix ix_S (pv 0) pe_int (fun _ _ => rfl)) (pe_gS T.g_SIGNS rfl) rfl))))))), ?_⟩
    refine ⟨_, rfl, _, rfl, by omega, rfl, _, rfl, ?_⟩
    match kk, hl, k with
    | [], hl, k =>
      refine iff' (by rfl) ?_
      exact ⟨_, rfl, _, rfl, by omega, rfl, _, rfl, k⟩
    | [a], hl, k =>
      refine ift (by rfl) ?_
      exact ⟨_, rfl, _, _, rfl, rfl, k⟩
    | [a, b], hl, k =>
      refine iff' (by rfl) ?_
      refine ⟨_, rfl, _, rfl, by omega, rfl, _, rfl, ?_⟩
      refine ift (by rfl) ?_
      refine ⟨_, rfl, _, 0, a, rfl, rfl, (by simp), (by decide), rfl, _, _, rfl, rfl, _, rfl, ?_⟩
      have k' : Q (.bl (decide (a ∈ sk) && decide (b ∈ sgn))) H := k
      refine if2 (fun c => ?_) (fun c => ?_)
      · have c' : decide (a ∈ sk) = true := c
        rw [c'] at k'
        exact ⟨_, rfl, _, 1, b, rfl, rfl, (by simp), (by decide), rfl, _, _, rfl, rfl, k'⟩
      · have c' : decide (a ∈ sk) = false := c
        rw [c'] at k'
        exact k'
    | a :: b :: d :: r, hl, k =>
      refine iff' ?_ ?_
      · rw [dI]; simp; omega
      refine ⟨_, rfl, _, rfl, by omega, rfl, _, rfl, ?_⟩
      refine iff' ?_ k
      rw [dI]; simp; omega
def spCheckHold (K : PySem.W.Frag) : Sp := fun vs H Q E => ∃ i : Int, vs = [.int i] ∧ (0 ≤ i ∧ i ≤ 4 → Q .non H) ∧ (¬ (0 ≤ i ∧ i ≤ 4) → Rz (ga K "InvalidHold") "hold" (.int i) H E)
abbrev s_check_hold : Stmt := top 23
theorem sc_check_hold : FnScope ["hold"] ["hold"] (defScope s_check_hold) := ⟨rfl, rfl, rfl, by decide +kernel, rfl, by decide +kernel, by decide +kernel⟩
theorem ok_check_hold (T : TX K mg) (x_InvalidHold : Ex1 P w K mg base "InvalidHold" "hold" (ga K "InvalidHold")) {f : Addr} {fd : FuncData} (F : FunD K "check_hold" "check_hold" (defArgs s_check_hold) (defBody s_check_hold) (defScope s_check_hold) [] [] f fd) : FnOk P w K mg base (CX P w) 3 f fd ["hold"] (spCheckHold K) := by
  refine F.ok sc_check_hold (fun vs H Q E h => ?_) (fun cdv A outer s H vs Q E hr h => ?_)
  · obtain ⟨i, rfl, _⟩ := h
    rfl
  · obtain ⟨i, rfl, kN, kE⟩ := h
    refine ⟨_, (pss_one (ps_if (PW.pt (pw_or (pt_cmpR op_lt (pv 0) pe_int (nomark _)) (pw_or1 (pt_cmpR op_gt (pv 0) (pe_gI T.g_MOST_HOLD rfl) (nomark _))))) (pss_one (ps_raise1 rfl (takes_of rfl rfl rfl rfl) x_InvalidHold hr (by decide) rfl (pv 0))) pss_nil)), ?_⟩
    refine ⟨_, rfl, _, _, rfl, rfl, _, rfl, ?_⟩
    refine if2 (fun c => ?_) (fun c => ?_)
    · have hc : i < 0 := of_decide_eq_true c
      refine ift rfl ?_
      exact ⟨_, rfl, mk1_end fun d hd => kE (by omega) _ d (Same.refl H) hd⟩
    · have hc : ¬ i < 0 := of_decide_eq_false c
      refine ⟨_, rfl, _, _, rfl, rfl, _, rfl, ?_⟩
      refine if2 (fun c => ?_) (fun c => ?_)
      · have hc2 : (4 : Int) < i := of_decide_eq_true c
        exact ⟨_, rfl, mk1_end fun d hd => kE (by omega) _ d (Same.refl H) hd⟩
      · have hc2 : ¬ (4 : Int) < i := of_decide_eq_false c
        exact kN (by omega)
/-- Page.__init__: the first error that is due, else a new page -/
def spInit (K : PySem.W.Frag) : Sp := fun vs H Q E => ∃ (p dx : Addr) (t : List Nat) (i h : Int), vs = [.ref p, .str (S t), .int i, .int h] ∧ t.length ≤ 50000 ∧ H p = some (.ins (ga K "Page") dx []) ∧
  (∀ j, badAt t = some j → Rz (ga K "InvalidText") "place" (.int (j : Nat)) H E) ∧
  (badAt t = none → ¬ (0 ≤ i ∧ i ≤ t.length) → Rz (ga K "InvalidPlace") "place" (.int i) H E) ∧
  (badAt t = none → 0 ≤ i ∧ i ≤ t.length → ¬ (0 ≤ h ∧ h ≤ 4) → Rz (ga K "InvalidHold") "hold" (.int h) H E) ∧
  (badAt t = none → 0 ≤ i ∧ i ≤ t.length → 0 ≤ h ∧ h ≤ 4 → ∀ H', Kp [p] H H' → H' p = some (.ins (ga K "Page") dx (pgf ⟨t, i.toNat, none, [], 0⟩ h.toNat)) → Q .non H')
theorem Rz.same {C : Addr} {f : Str} {v : V} {H H1 : Hp} {E : XK} (r : Rz C f v H E) (s : Same H H1) : Rz C f v H1 E := fun H' d s' hd => r H' d (Same.trans s s') hd
abbrev s_Page___init__ : Stmt := inClass (top 24) 0
theorem sc_Page___init__ : FnScope ["self", "text", "place", "hold"] ["self", "text", "place", "hold"] (defScope s_Page___init__) := ⟨rfl, rfl, rfl, by decide +kernel, rfl, by decide +kernel, by decide +kernel⟩
theorem ok_Page___init__ (T : TX K mg) (Z : TP K) (c_check_text : KCal P w K mg base 3 "check_text" (spCheckText K) []) (c_check_place : KCal P w K mg base 3 "check_place" (spCheckPlace K) []) (c_check_hold : KCal P w K mg base 3 "check_hold" (spCheckHold K) []) {f : Addr} {fd : FuncData} (F : FunD K "__init__" "Page.__init__" (defArgs s_Page___init__) (defBody s_Page___init__) (defScope s_Page___init__) [.str (S []), .int 0] [("hold", .int 2)] f fd) : FnOk P w K mg base (CX P w) 4 f fd ["self", "text", "place", "hold"] (spInit K) := by
  refine F.ok sc_Page___init__ (fun vs H Q E h => ?_) (fun cdv A outer s H vs Q E hr h => ?_)
  · obtain ⟨p, dx, t, i, h, rfl, _⟩ := h
    rfl
  · obtain ⟨p, dx, t, i, h, rfl, hl, hp, k1, k2, k3, k4⟩ := h
    refine ⟨_, (pss_cons (ps_expr (kx c_check_text (takes_of rfl rfl rfl rfl) hr (by decide) rfl (pa_cons (pv 1) pa_nil))) (pss_cons (ps_expr (kx c_check_place (takes_of rfl rfl rfl rfl) hr (by decide) rfl (pa_cons (pv 1) (pa_cons (pv 2) pa_nil)))) (pss_cons (ps_expr (kx c_check_hold (takes_of rfl rfl rfl rfl) hr (by decide) rfl (pa_cons (pv 3) pa_nil))) (pss_cons (ps_fld (pv 0) (pv 1) rfl) (pss_cons (ps_fld (pv 0) (pv 2) rfl) (pss_cons (ps_fld (pv 0) pe_non rfl) (pss_cons (ps_fld (pv 0) (pe_strS [] (by decide +kernel)) rfl) (pss_cons (ps_fld (pv 0) pe_int rfl) (pss_one (ps_fld (pv 0) (pv 3) rfl)))))))))), ?_⟩
    refine ⟨_, rfl, t, rfl, fun hN H1 s1 => ?_, fun j hj => k1 j hj⟩
    refine ⟨_, rfl, _, rfl, t, i, rfl, by omega, fun hi => ?_, fun hi => (k2 hN hi).same s1⟩
    refine ⟨_, rfl, h, rfl, fun hh => ?_, fun hh => (k3 hN hi hh).same s1⟩
    have hp1 := s1 _ _ hp
    refine ⟨_, rfl, _, rfl, p, _, dx, _, rfl, hp1, Z.cl, Z.n_text, by decide, ?_⟩
    refine ⟨_, rfl, _, rfl, p, _, dx, _, rfl, upd_same, Z.cl, Z.n_caret, by show 1 < 1000; decide, ?_⟩
    refine ⟨_, rfl, p, _, dx, _, rfl, upd_same, Z.cl, Z.n_mark, by show 2 < 1000; decide, ?_⟩
    refine ⟨_, rfl, p, _, dx, _, rfl, upd_same, Z.cl, Z.n_kept, by show 3 < 1000; decide, ?_⟩
    refine ⟨_, rfl, p, _, dx, _, rfl, upd_same, Z.cl, Z.n_returned, by show 4 < 1000; decide, ?_⟩
    refine ⟨_, rfl, _, rfl, p, _, dx, _, rfl, upd_same, Z.cl, Z.n_hold, by show 5 < 1000; decide, ?_⟩
    refine k4 hN hi hh _ ?_ ?_
    · exact ((((((Kp.of_same s1).upd (by simp)).upd (by simp)).upd (by simp)).upd (by simp)).upd (by simp)).upd (by simp)
    · rw [upd_same, pt_new]
      have e1 : ((i.toNat : Nat) : Int) = i := by omega
      have e2 : ((h.toNat : Nat) : Int) = h := by omega
      show _ = some (HO.ins _ _ (pgR _ (V.int (i.toNat : Nat)) _ _ _ (V.int (h.toNat : Nat))))
      rw [e1, e2]
      rfl
def spAhead (K : PySem.W.Frag) : Sp := fun vs H Q _ => ∃ (p : Addr) (g : Pg) (h : Nat), vs = [.ref p] ∧ PageAt K H p g h ∧ g.t.length ≤ 50000 ∧ Q (.str (S g.ahead)) H
theorem ahead_eq (g : Pg) : cutL g.t (some ((g.c : Nat) : Int)) (some (((g.c : Nat) : Int) + 1)) = g.ahead := by
  have e : ((g.c : Nat) : Int) + 1 = ((g.c + 1 : Nat) : Int) := by omega
  rw [e, cutL_mid]
  unfold Pg.ahead
  rw [List.drop_take]
  congr 1
  omega
abbrev s_Page_ahead : Stmt := inClass (top 24) 9
theorem sc_Page_ahead : FnScope ["self"] ["self"] (defScope s_Page_ahead) := ⟨rfl, rfl, rfl, by decide +kernel, rfl, by decide +kernel, by decide +kernel⟩
theorem ok_Page_ahead (Z : TP K) {f : Addr} {fd : FuncData} (F : FunD K "ahead" "Page.ahead" (defArgs s_Page_ahead) (defBody s_Page_ahead) (defScope s_Page_ahead) [] [] f fd) : FnOk P w K mg base (CX P w) 1 f fd ["self"] (spAhead K) := by
  refine F.ok sc_Page_ahead (fun vs H Q E h => ?_) (fun cdv A outer s H vs Q E hr h => ?_)
  · obtain ⟨p, g, h, rfl, _⟩ := h
    rfl
  · obtain ⟨p, g, h, rfl, ⟨dx, hp⟩, hl, k⟩ := h
    refine ⟨_, (pss_one (ps_ret (pe_slice sl_S (pe_fld (pv 0) rfl) (po_some (pe_fld (pv 0) rfl)) (po_some (pe_op op_add (pe_fld (pv 0) rfl) pe_int))))), ?_⟩
    refine ⟨_, rfl, p, _, _, _, _, rfl, hp, Z.cl, Z.n_text, lk_text, _, rfl, p, _, _, _, _, rfl, hp, Z.cl, Z.n_caret, lk_caret, _, rfl, _, rfl, p, _, _, _, _, rfl, hp, Z.cl, Z.n_caret, lk_caret, _, _, rfl, rfl, _, rfl, _, rfl, by omega, Int.natCast_nonneg _, (by show (0 : Int) ≤ _; omega), ?_⟩
    rw [ahead_eq]
    exact k
def lst (t : List Nat) (i : Nat) : Bool := decide (i = 0) || t[i - 1]? == some 10
def spLineStart (K : PySem.W.Frag) : Sp := fun vs H Q _ => ∃ (p : Addr) (g : Pg) (h i : Nat), vs = [.ref p, .int (i : Nat)] ∧ PageAt K H p g h ∧ g.t.length ≤ 50000 ∧ i ≤ g.t.length ∧ Q (.bl (lst g.t i)) H
abbrev s_Page_line_start_at : Stmt := inClass (top 24) 5
theorem sc_Page_line_start_at : FnScope ["self", "place"] ["self", "place"] (defScope s_Page_line_start_at) := ⟨rfl, rfl, rfl, by decide +kernel, rfl, by decide +kernel, by decide +kernel⟩
theorem ok_Page_line_start_at (Z : TP K) {f : Addr} {fd : FuncData} (F : FunD K "line_start_at" "Page.line_start_at" (defArgs s_Page_line_start_at) (defBody s_Page_line_start_at) (defScope s_Page_line_start_at) [] [] f fd) : FnOk P w K mg base (CX P w) 1 f fd ["self", "place"] (spLineStart K) := by
  refine F.ok sc_Page_line_start_at (fun vs H Q E h => ?_) (fun cdv A outer s H vs Q E hr h => ?_)
  · obtain ⟨p, g, h, i, rfl, _⟩ := h
    rfl
  · obtain ⟨p, g, h, i, rfl, ⟨dx, hp⟩, hl, hi, k⟩ := h
    refine ⟨_, (pss_one (ps_ret (pe_or (pe_cmpR op_eq (pv 1) pe_int (nomark _)) (pe_one (pe_cmpR op_eqS (pe_ix ix_S (pe_fld (pv 0) rfl) (pe_op op_sub (pv 1) pe_int) (fun _ _ => rfl)) (pe_strS [10] (by decide +kernel)) (nomark _)))))), ?_⟩
    refine ⟨_, rfl, rfl, _, rfl, ?_⟩
    unfold lst at k
    cases i with
    | zero => exact k
    | succ i =>
      refine iff' (by rw [dI]; simp; omega) ?_
      have hi2 : i < g.t.length := by omega
      have e : (((i + 1 : Nat) : Int) - 1).toNat = i := by omega
      refine ⟨_, rfl, p, _, _, _, _, rfl, hp, Z.cl, Z.n_text, lk_text, _, rfl, _, _, rfl, rfl, _, _, g.t[i], rfl, rfl, by omega, by omega, ?_, _, _, rfl, rfl, ?_⟩
      · rw [e]; exact List.getElem?_eq_getElem hi2
      · have e2 : (decide (i + 1 = 0) || g.t[i + 1 - 1]? == some 10) = decide ([g.t[i]] = [10]) := by
          simp [List.getElem?_eq_getElem hi2]
          by_cases q : g.t[i] = 10 <;> simp [q]
        rw [e2] at k
        exact k
def spFresh (K : PySem.W.Frag) : Sp := fun vs H Q _ => ∃ (p : Addr) (g : Pg) (h : Nat), vs = [.ref p] ∧ PageAt K H p g h ∧ g.t.length ≤ 50000 ∧ g.c ≤ g.t.length ∧ Q (.bl g.fresh) H
abbrev s_Page_fresh : Stmt := inClass (top 24) 1
theorem sc_Page_fresh : FnScope ["self"] ["self"] (defScope s_Page_fresh) := ⟨rfl, rfl, rfl, by decide +kernel, rfl, by decide +kernel, by decide +kernel⟩
theorem ok_Page_fresh (Z : TP K) (m_Page_line_start_at : KMet P w K mg base 1 (ga K "Page") "line_start_at" (spLineStart K)) {f : Addr} {fd : FuncData} (F : FunD K "fresh" "Page.fresh" (defArgs s_Page_fresh) (defBody s_Page_fresh) (defScope s_Page_fresh) [] [] f fd) : FnOk P w K mg base (CX P w) 2 f fd ["self"] (spFresh K) := by
  refine F.ok sc_Page_fresh (fun vs H Q E h => ?_) (fun cdv A outer s H vs Q E hr h => ?_)
  · obtain ⟨p, g, h, rfl, _⟩ := h
    rfl
  · obtain ⟨p, g, h, rfl, ⟨dx, hp⟩, hl, hc, k⟩ := h
    refine ⟨_, (pss_one (ps_ret (km m_Page_line_start_at hr (by decide) (pv 0) (pa_cons (pe_fld (pv 0) rfl) pa_nil)))), ?_⟩
    exact ⟨_, rfl, p, _, _, rfl, hp, nm_line_start_at, _, rfl, p, _, _, _, _, rfl, hp, Z.cl, Z.n_caret, lk_caret, p, g, h, g.c, rfl, ⟨dx, hp⟩, hl, hc, k⟩
def hV : Option (List Nat) → V
  | none => .non
  | some s => .str (S s)
def spHeld (K : PySem.W.Frag) : Sp := fun vs H Q _ => ∃ (p : Addr) (g : Pg) (h : Nat), vs = [.ref p] ∧ PageAt K H p g h ∧ g.t.length ≤ 50000 ∧ Q (hV g.held) H
abbrev s_Page_held : Stmt := inClass (top 24) 2
theorem sc_Page_held : FnScope ["self"] ["self"] (defScope s_Page_held) := ⟨rfl, rfl, rfl, by decide +kernel, rfl, by decide +kernel, by decide +kernel⟩
theorem ok_Page_held (Z : TP K) {f : Addr} {fd : FuncData} (F : FunD K "held" "Page.held" (defArgs s_Page_held) (defBody s_Page_held) (defScope s_Page_held) [] [] f fd) : FnOk P w K mg base (CX P w) 1 f fd ["self"] (spHeld K) := by
  refine F.ok sc_Page_held (fun vs H Q E h => ?_) (fun cdv A outer s H vs Q E hr h => ?_)
  · obtain ⟨p, g, h, rfl, _⟩ := h
    rfl
  · obtain ⟨p, g, h, rfl, ⟨dx, hp⟩, hl, k⟩ := h
    refine ⟨_, (pss_cons (ps_if (pt_cmpR op_isN (pe_fld (pv 0) rfl) pe_non (nomark _)) (pss_one (ps_ret pe_non)) pss_nil) (pss_one (ps_ret (pe_slice sl_S (pe_fld (pv 0) rfl) (po_some (pe_fld (pv 0) rfl)) (po_some (pe_fld (pv 0) rfl)))))), ?_⟩
    refine ⟨_, rfl, p, _, _, _, _, rfl, hp, Z.cl, Z.n_mark, lk_mark, rfl, _, rfl, ?_⟩
    cases hm : g.m with
    | none =>
      refine ift (by rfl) ?_
      unfold Pg.held at k
      rw [hm] at k
      exact k
    | some x =>
      refine iff' (by rfl) ?_
      unfold Pg.held at k
      rw [hm] at k
      unfold pgf at hp
      rw [hm] at hp
      refine ⟨_, rfl, p, _, _, _, _, rfl, hp, Z.cl, Z.n_text, lk_text, _, rfl, p, _, _, _, _, rfl, hp, Z.cl, Z.n_mark, lk_mark, (x : Nat), rfl, _, rfl, p, _, _, _, _, rfl, hp, Z.cl, Z.n_caret, lk_caret, _, rfl, _, rfl, by omega, Int.natCast_nonneg _, Int.natCast_nonneg _, ?_⟩
      rw [cutL_mid]
      exact k
def spSpot (K : PySem.W.Frag) : Sp := fun vs H Q _ => ∃ (p : Addr) (g : Pg) (h : Nat), vs = [.ref p] ∧ PageAt K H p g h ∧ Q (.int (g.c : Nat)) H
abbrev s_Page_spot : Stmt := inClass (top 24) 3
theorem sc_Page_spot : FnScope ["self"] ["self"] (defScope s_Page_spot) := ⟨rfl, rfl, rfl, by decide +kernel, rfl, by decide +kernel, by decide +kernel⟩
theorem ok_Page_spot (Z : TP K) {f : Addr} {fd : FuncData} (F : FunD K "spot" "Page.spot" (defArgs s_Page_spot) (defBody s_Page_spot) (defScope s_Page_spot) [] [] f fd) : FnOk P w K mg base (CX P w) 1 f fd ["self"] (spSpot K) := by
  refine F.ok sc_Page_spot (fun vs H Q E h => ?_) (fun cdv A outer s H vs Q E hr h => ?_)
  · obtain ⟨p, g, h, rfl, _⟩ := h
    rfl
  · obtain ⟨p, g, h, rfl, ⟨dx, hp⟩, k⟩ := h
    refine ⟨_, (pss_one (ps_ret (pe_fld (pv 0) rfl))), ?_⟩
    exact ⟨_, rfl, p, _, _, _, _, rfl, hp, Z.cl, Z.n_caret, lk_caret, k⟩
/-- a method that turns the page g into F g -/
def spTurn (K : PySem.W.Frag) (F : Nat → Pg → Pg) : Sp := fun vs H Q _ => ∃ (p : Addr) (g : Pg) (h : Nat), vs = [.ref p] ∧ PageAt K H p g h ∧ ∀ H', Kp [p] H H' → PageAt K H' p (F h g) h → Q .non H'
abbrev s_Page_advance_caret : Stmt := inClass (top 24) 10
theorem sc_Page_advance_caret : FnScope ["self"] ["self"] (defScope s_Page_advance_caret) := ⟨rfl, rfl, rfl, by decide +kernel, rfl, by decide +kernel, by decide +kernel⟩
theorem ok_Page_advance_caret (Z : TP K) {f : Addr} {fd : FuncData} (F : FunD K "advance_caret" "Page.advance_caret" (defArgs s_Page_advance_caret) (defBody s_Page_advance_caret) (defScope s_Page_advance_caret) [] [] f fd) : FnOk P w K mg base (CX P w) 1 f fd ["self"] (spTurn K Pg.adv) := by
  refine F.ok sc_Page_advance_caret (fun vs H Q E h => ?_) (fun cdv A outer s H vs Q E hr h => ?_)
  · obtain ⟨p, g, h, rfl, _⟩ := h
    rfl
  · obtain ⟨p, g, h, rfl, ⟨dx, hp⟩, k⟩ := h
    refine ⟨_, (pss_cons (ps_fldaug (pv 0) pe_int in_add) (pss_one (ps_if (PW.pt (pw_and (pt_cmpR op_notN (pe_fld (pv 0) rfl) pe_non (nomark _)) (pw_and1 (pt_cmpR op_gt (pe_op op_sub (pe_fld (pv 0) rfl) (pe_fld (pv 0) rfl)) (pe_fld (pv 0) rfl) (nomark _))))) (pss_one (ps_fld (pv 0) pe_non rfl)) pss_nil))), ?_⟩
    refine ⟨_, rfl, p, _, _, _, _, rfl, hp, Z.cl, Z.n_caret, lk_caret, _, _, rfl, rfl, dx, _, hp, ln_pg, ?_⟩
    rw [pt_caret]
    have hp1 : upd H p (.ins (ga K "Page") dx (pgR (.str (S g.t)) (.int ((g.c : Nat) + 1)) (mV g.m) (.str (S g.k)) (.int (g.r : Nat)) (.int (h : Nat)))) p = some (.ins (ga K "Page") dx (pgR (.str (S g.t)) (.int ((g.c : Nat) + 1)) (mV g.m) (.str (S g.k)) (.int (g.r : Nat)) (.int (h : Nat)))) := upd_same
    refine ⟨_, rfl, p, _, _, _, _, rfl, hp1, Z.cl, Z.n_mark, lk_mark, rfl, _, rfl, ?_⟩
    have kp1 : Kp [p] H (upd H p (.ins (ga K "Page") dx (pgR (.str (S g.t)) (.int ((g.c : Nat) + 1)) (mV g.m) (.str (S g.k)) (.int (g.r : Nat)) (.int (h : Nat))))) := Kp.refl.upd (by simp)
    cases hm : g.m with
    | none =>
      rw [hm] at hp1 kp1
      refine iff' (by rfl) ?_
      refine iff' rfl ?_
      refine k _ kp1 ⟨dx, ?_⟩
      rw [hp1]
      unfold Pg.adv pgf
      rw [hm]
      rfl
    | some x =>
      rw [hm] at hp1 kp1
      refine ift (by rfl) ?_
      refine ⟨_, rfl, p, _, _, _, _, rfl, hp1, Z.cl, Z.n_caret, lk_caret, _, rfl, p, _, _, _, _, rfl, hp1, Z.cl, Z.n_mark, lk_mark, _, (x : Nat), rfl, rfl, _, rfl, p, _, _, _, _, rfl, hp1, Z.cl, Z.n_hold, lk_hold, _, _, rfl, rfl, _, rfl, ?_⟩
      refine if2 (fun c => ?_) (fun c => ?_)
      · have hc : ((h : Nat) : Int) < ((g.c : Nat) : Int) + 1 - (x : Nat) := of_decide_eq_true c
        refine ⟨_, rfl, p, _, dx, _, rfl, hp1, Z.cl, Z.n_mark, ln_pg, ?_⟩
        rw [pt_mark]
        refine k _ (kp1.upd (by simp)) ⟨dx, ?_⟩
        rw [upd_same]
        unfold Pg.adv pgf
        rw [hm]
        have : x + h < g.c + 1 := by omega
        simp only [Option.bind_some, if_pos this]
        rfl
      · have hc : ¬ ((h : Nat) : Int) < ((g.c : Nat) : Int) + 1 - (x : Nat) := of_decide_eq_false c
        refine k _ kp1 ⟨dx, ?_⟩
        rw [hp1]
        unfold Pg.adv pgf
        rw [hm]
        have : ¬ x + h < g.c + 1 := by omega
        simp only [Option.bind_some, if_neg this]
        rfl
theorem max0 (r : Nat) : (if (((r : Nat) : Int) - 1) > 0 then (((r : Nat) : Int) - 1) else 0) = ((r - 1 : Nat) : Int) := by
  split <;> omega
abbrev s_Page_pass_sign : Stmt := inClass (top 24) 11
theorem sc_Page_pass_sign : FnScope ["self"] ["self"] (defScope s_Page_pass_sign) := ⟨rfl, rfl, rfl, by decide +kernel, rfl, by decide +kernel, by decide +kernel⟩
theorem ok_Page_pass_sign (T : TX K mg) (Z : TP K) (m_Page_advance_caret : KMet P w K mg base 1 (ga K "Page") "advance_caret" (spTurn K Pg.adv)) {f : Addr} {fd : FuncData} (F : FunD K "pass_sign" "Page.pass_sign" (defArgs s_Page_pass_sign) (defBody s_Page_pass_sign) (defScope s_Page_pass_sign) [] [] f fd) : FnOk P w K mg base (CX P w) 2 f fd ["self"] (spTurn K Pg.pass) := by
  refine F.ok sc_Page_pass_sign (fun vs H Q E h => ?_) (fun cdv A outer s H vs Q E hr h => ?_)
  · obtain ⟨p, g, h, rfl, _⟩ := h
    rfl
  · obtain ⟨p, g, h, rfl, ⟨dx, hp⟩, k⟩ := h
    refine ⟨_, (pss_cons (ps_fld (pv 0) (pe_callB (call_max2 rfl) (by rfl) T.b_max (by decide +kernel) (pa_cons pe_int (pa_cons (pe_op op_sub (pe_fld (pv 0) rfl) pe_int) pa_nil))) rfl) (pss_one (ps_expr (km0 m_Page_advance_caret hr (by decide) (pv 0))))), ?_⟩
    refine ⟨_, rfl, p, _, _, _, _, rfl, hp, Z.cl, Z.n_returned, lk_returned, _, _, rfl, rfl, _, _, rfl, _, rfl, p, _, dx, _, rfl, hp, Z.cl, Z.n_returned, ln_pg, ?_⟩
    rw [max0, pt_returned]
    refine ⟨_, rfl, p, dx, _, rfl, upd_same, nm_advance_caret, p, ⟨g.t, g.c, g.m, g.k, g.r - 1⟩, h, rfl, ⟨dx, upd_same⟩, fun H1 k1 P1 => ?_⟩
    exact k H1 ((Kp.refl.upd (by simp)).trans k1) P1
def spIns (K : PySem.W.Frag) : Sp := fun vs H Q _ => ∃ (p : Addr) (g : Pg) (h : Nat) (xs : List Nat), vs = [.ref p, .str (S xs)] ∧ PageAt K H p g h ∧ g.t.length + xs.length ≤ 50000 ∧ g.c ≤ g.t.length ∧ ∀ H', Kp [p] H H' → PageAt K H' p (g.inss h xs) h → Q .non H'
theorem inss_snoc (h : Nat) (g : Pg) (xs : List Nat) (x : Nat) : g.inss h (xs ++ [x]) = (g.inss h xs).ins h x := by
  unfold Pg.inss
  rw [List.foldl_append]
  rfl
theorem inss_len {h : Nat} : ∀ {xs : List Nat} {g : Pg}, g.c ≤ g.t.length → (g.inss h xs).t.length = g.t.length + xs.length ∧ (g.inss h xs).c = g.c + xs.length
  | [], g, _ => ⟨rfl, rfl⟩
  | x :: xs, g, hc => by
    have e1 : (g.ins h x).t.length = g.t.length + 1 := by simp [Pg.ins, Pg.adv]; omega
    have e2 : (g.ins h x).c = g.c + 1 := rfl
    obtain ⟨h1, h2⟩ := inss_len (h := h) (xs := xs) (g := g.ins h x) (by omega)
    have e3 : g.inss h (x :: xs) = (g.ins h x).inss h xs := rfl
    rw [e3, h1, h2]
    simp
    omega
theorem take_snoc {α : Type} {l : List α} {i : Nat} {x : α} (h : l[i]? = some x) : l.take (i + 1) = l.take i ++ [x] := by
  rw [List.take_add_one, h]
  rfl
abbrev s_Page_insert : Stmt := inClass (top 24) 12
theorem sc_Page_insert : FnScope ["self", "signs", "sign"] ["self", "signs"] (defScope s_Page_insert) := ⟨rfl, rfl, rfl, by decide +kernel, rfl, by decide +kernel, by decide +kernel⟩
theorem ok_Page_insert (Z : TP K) (m_Page_advance_caret : KMet P w K mg base 1 (ga K "Page") "advance_caret" (spTurn K Pg.adv)) {f : Addr} {fd : FuncData} (F : FunD K "insert" "Page.insert" (defArgs s_Page_insert) (defBody s_Page_insert) (defScope s_Page_insert) [] [] f fd) : FnOk P w K mg base (CX P w) 2 f fd ["self", "signs"] (spIns K) := by
  refine F.ok sc_Page_insert (fun vs H Q E h => ?_) (fun cdv A outer s H vs Q E hr h => ?_)
  · obtain ⟨p, g, h, xs, rfl, _⟩ := h
    rfl
  · obtain ⟨p, g, h, xs, rfl, P0, hl, hc, k⟩ := h
    refine ⟨_, (pss_one (ps_for (passes_of rfl) rfl (pi_str (pv 1)) (pg_name (i := 2) sc_Page_insert.nd rfl (Or.inl rfl)) (pss_cons (ps_fld (pv 0) (pe_op op_addS (pe_op op_addS (pe_slice sl_S (pe_fld (pv 0) rfl) po_none (po_some (pe_fld (pv 0) rfl))) (pv 2)) (pe_slice sl_S (pe_fld (pv 0) rfl) (po_some (pe_fld (pv 0) rfl)) po_none)) rfl) (pss_one (ps_expr (km0 m_Page_advance_caret hr (by decide) (pv 0))))))), ?_⟩
    refine ⟨_, rfl, _, rfl, for_it walk_str (fun i σ H' => ∃ u, σ = [some (.ref p), some (.str (S xs)), u] ∧ Kp [p] H H' ∧ PageAt K H' p (g.inss h (xs.take i)) h) ?_ (fun _ _ _ _ _ => trivial) ?_ ?_⟩
    · exact ⟨none, rfl, Kp.refl, P0⟩
    · rintro i x σ H1 H2 hi ⟨u, rfl, k1, ⟨dx, hp⟩⟩ ⟨rfl, c, hc1, rfl⟩
      have hx : xs[i]? = some c := by simpa [S] using hc1
      have hil := (List.getElem?_eq_some_iff.mp hx).1
      obtain ⟨l1, l2⟩ := inss_len (h := h) (xs := xs.take i) hc
      have tl : (xs.take i).length = i := by simp; omega
      generalize hg : g.inss h (xs.take i) = g1 at hp l1 l2
      refine ⟨_, rfl, p, _, _, _, _, rfl, hp, Z.cl, Z.n_text, lk_text, _, rfl, p, _, _, _, _, rfl, hp, Z.cl, Z.n_caret, lk_caret, _, rfl, _, rfl, by omega, trivial, Int.natCast_nonneg _, _, rfl, ?_⟩
      rw [cutL_to]
      refine ⟨_, _, rfl, rfl, by simp; omega, _, rfl, p, _, _, _, _, rfl, hp, Z.cl, Z.n_text, lk_text, _, rfl, p, _, _, _, _, rfl, hp, Z.cl, Z.n_caret, lk_caret, _, rfl, _, rfl, by omega, Int.natCast_nonneg _, trivial, ?_⟩
      rw [cutL_from]
      refine ⟨_, _, rfl, rfl, by simp; omega, _, rfl, p, _, dx, _, rfl, hp, Z.cl, Z.n_text, ln_pg, ?_⟩
      rw [pt_text]
      refine ⟨_, rfl, p, dx, _, rfl, upd_same, nm_advance_caret, p, ⟨g1.t.take g1.c ++ c :: g1.t.drop g1.c, g1.c, g1.m, g1.k, g1.r⟩, h, rfl, ⟨dx, ?_⟩, fun H2 k2 P2 => ?_⟩
      · rw [upd_same, List.append_assoc]; rfl
      · refine ⟨_, rfl, k1.trans ((Kp.refl.upd (by simp)).trans k2), ?_⟩
        rw [take_snoc hx, inss_snoc, hg]
        exact P2
    · rintro σ H1 ⟨u, rfl, k1, P1⟩
      refine k H1 k1 ?_
      have e : xs.take (S xs).cps.size = xs := by simp [S]
      rw [e] at P1
      exact P1
/-- a method that answers and turns the page, key its first argument -/
def spKey (K : PySem.W.Frag) (ks : List Nat) (F : Nat → Nat → Pg → Bool × Pg) : Sp := fun vs H Q _ => ∃ (p : Addr) (g : Pg) (h key : Nat), vs = [.ref p, .str (S [key])] ∧ key ∈ ks ∧ PageAt K H p g h ∧ PgOk h g ∧ g.t.length ≤ 40000 ∧ ∀ H', Kp [p] H H' → PageAt K H' p (F h key g).2 h → Q (.bl (F h key g).1) H'
abbrev s_Page_take_one : Stmt := inClass (top 24) 15
theorem sc_Page_take_one : FnScope ["self", "key"] ["self", "key"] (defScope s_Page_take_one) := ⟨rfl, rfl, rfl, by decide +kernel, rfl, by decide +kernel, by decide +kernel⟩
theorem ok_Page_take_one (T : TX K mg) (Z : TP K) (m_Page_ahead : KMet P w K mg base 1 (ga K "Page") "ahead" (spAhead K)) (m_Page_pass_sign : KMet P w K mg base 2 (ga K "Page") "pass_sign" (spTurn K Pg.pass)) {f : Addr} {fd : FuncData} (F : FunD K "take_one" "Page.take_one" (defArgs s_Page_take_one) (defBody s_Page_take_one) (defScope s_Page_take_one) [] [] f fd) : FnOk P w K mg base (CX P w) 3 f fd ["self", "key"] (spKey K [62, 120] Pg.takeOne) := by
  refine F.ok sc_Page_take_one (fun vs H Q E h => ?_) (fun cdv A outer s H vs Q E hr h => ?_)
  · obtain ⟨p, g, h, key, rfl, _⟩ := h
    rfl
  · obtain ⟨p, g, h, key, rfl, hkey, ⟨dx, hp⟩, o, hl, k⟩ := h
    refine ⟨_, (pss_cons (ps_if (pt_cmpR op_eqS (km0 m_Page_ahead hr (by decide) (pv 0)) (pe_strS [] (by decide +kernel)) (nomark _)) (pss_one (ps_ret pe_bl)) pss_nil) (C8.pss_cut (ps_if (pt_cmpR op_eqS (pv 1) (pe_strS [62] (by decide +kernel)) (nomark _)) (pss_one (ps_expr (km0 m_Page_pass_sign hr (by decide) (pv 0)))) (pss_cons (ps_fld (pv 0) (pe_callB (call_max2 rfl) (by rfl) T.b_max (by decide +kernel) (pa_cons pe_int (pa_cons (pe_op op_sub (pe_fld (pv 0) rfl) pe_int) pa_nil))) rfl) (pss_one (ps_fld (pv 0) (pe_op op_addS (pe_slice sl_S (pe_fld (pv 0) rfl) po_none (po_some (pe_fld (pv 0) rfl))) (pe_slice sl_S (pe_fld (pv 0) rfl) (po_some (pe_op op_add (pe_fld (pv 0) rfl) pe_int)) po_none)) rfl)))) (pss_one (ps_ret pe_bl)))), ?_⟩
    refine ⟨_, rfl, p, _, _, rfl, hp, nm_ahead, p, g, h, rfl, ⟨dx, hp⟩, by omega, _, _, rfl, rfl, _, rfl, ?_⟩
    unfold Pg.takeOne at k
    refine if2 (fun c => ?_) (fun c => ?_)
    · have hc : g.ahead = [] := of_decide_eq_true c
      rw [if_pos hc] at k
      exact k H Kp.refl ⟨dx, hp⟩
    · have hc : ¬ g.ahead = [] := of_decide_eq_false c
      rw [if_neg hc] at k
      refine ⟨fun σ' H' => Q (.bl true) H', ?_, fun σ' H' z => z⟩
      refine ⟨_, rfl, _, _, rfl, rfl, _, rfl, ?_⟩
      refine if2 (fun c => ?_) (fun c => ?_)
      · have hc2 : key = 62 := by
          have : [key] = [62] := of_decide_eq_true c
          simpa using this
        rw [if_pos hc2] at k
        exact ⟨_, rfl, p, _, _, rfl, hp, nm_pass_sign, p, g, h, rfl, ⟨dx, hp⟩, fun H1 k1 P1 => k H1 k1 P1⟩
      · have hc2 : ¬ key = 62 := by
          have : ¬ [key] = [62] := of_decide_eq_false c
          simpa using this
        rw [if_neg hc2] at k
        refine ⟨_, rfl, p, _, _, _, _, rfl, hp, Z.cl, Z.n_returned, lk_returned, _, _, rfl, rfl, _, _, rfl, _, rfl, p, _, dx, _, rfl, hp, Z.cl, Z.n_returned, ln_pg, ?_⟩
        rw [max0, pt_returned]
        have hp1 : upd H p (.ins (ga K "Page") dx (pgR (.str (S g.t)) (.int (g.c : Nat)) (mV g.m) (.str (S g.k)) (.int (g.r - 1 : Nat)) (.int (h : Nat)))) p = some (.ins (ga K "Page") dx (pgR (.str (S g.t)) (.int (g.c : Nat)) (mV g.m) (.str (S g.k)) (.int (g.r - 1 : Nat)) (.int (h : Nat)))) := upd_same
        refine ⟨_, rfl, p, _, _, _, _, rfl, hp1, Z.cl, Z.n_text, lk_text, _, rfl, p, _, _, _, _, rfl, hp1, Z.cl, Z.n_caret, lk_caret, _, rfl, _, rfl, by omega, trivial, Int.natCast_nonneg _, ?_⟩
        rw [cutL_to]
        refine ⟨_, rfl, p, _, _, _, _, rfl, hp1, Z.cl, Z.n_text, lk_text, _, rfl, p, _, _, _, _, rfl, hp1, Z.cl, Z.n_caret, lk_caret, _, _, rfl, rfl, _, rfl, _, rfl, by omega, (by show (0 : Int) ≤ _; omega), trivial, ?_⟩
        have e : ((g.c : Nat) : Int) + 1 = ((g.c + 1 : Nat) : Int) := by omega
        rw [e, cutL_from]
        refine ⟨_, _, rfl, rfl, by simp; omega, _, rfl, p, _, dx, _, rfl, hp1, Z.cl, Z.n_text, ln_pg, ?_⟩
        rw [pt_text]
        exact k _ ((Kp.refl.upd (by simp)).upd (by simp)) ⟨dx, upd_same⟩
abbrev s_Page_use_mark : Stmt := inClass (top 24) 17
theorem sc_Page_use_mark : FnScope ["self", "key", "signs"] ["self", "key"] (defScope s_Page_use_mark) := ⟨rfl, rfl, rfl, by decide +kernel, rfl, by decide +kernel, by decide +kernel⟩
theorem ok_Page_use_mark (T : TX K mg) (Z : TP K) (p_Page_held : KPrp P w K mg base 1 (ga K "Page") "held" (spHeld K)) {f : Addr} {fd : FuncData} (F : FunD K "use_mark" "Page.use_mark" (defArgs s_Page_use_mark) (defBody s_Page_use_mark) (defScope s_Page_use_mark) [] [] f fd) : FnOk P w K mg base (CX P w) 3 f fd ["self", "key"] (spKey K [98, 107, 99] Pg.useMark) := by
  refine F.ok sc_Page_use_mark (fun vs H Q E h => ?_) (fun cdv A outer s H vs Q E hr h => ?_)
  · obtain ⟨p, g, h, key, rfl, _⟩ := h
    rfl
  · obtain ⟨p, g, h, key, rfl, hkey, ⟨dx, hp⟩, o, hl, k⟩ := h
    refine ⟨_, (pss_cons (ps_if (pt_cmpR op_isN (pe_fld (pv 0) rfl) pe_non (nomark _)) (pss_one (ps_ret pe_bl)) pss_nil) (pss_cons (ps_set (i := 2) sc_Page_use_mark.nd rfl (Or.inl rfl) (kprop p_Page_held hr (by decide) (pv 0))) (pss_cons (ps_if (pt_cmpR op_eqS (pv 1) (pe_strS [98] (by decide +kernel)) (nomark _)) (pss_cons (ps_if (pt_cmpR op_gt (pe_op op_add (pe_callB call_lenS (by rfl) T.b_len PySem.boot_len (pa_cons (pv 2) pa_nil)) (pe_fld (pv 0) rfl)) (pe_fld (pv 0) rfl) (nomark _)) (pss_one (ps_ret pe_bl)) pss_nil) (pss_cons (ps_fldaug (pv 0) (pe_callB call_lenS (by rfl) T.b_len PySem.boot_len (pa_cons (pv 2) pa_nil)) in_add) (pss_cons (ps_fld (pv 0) (pe_fld (pv 0) rfl) rfl) (pss_one (ps_ret pe_bl))))) pss_nil) (pss_cons (ps_fld (pv 0) (pv 2) rfl) (C8.pss_cut (ps_if (pt_cmpR op_eqS (pv 1) (pe_strS [99] (by decide +kernel)) (nomark _)) (pss_cons (ps_fld (pv 0) (pe_op op_addS (pe_slice sl_S (pe_fld (pv 0) rfl) po_none (po_some (pe_fld (pv 0) rfl))) (pe_slice sl_S (pe_fld (pv 0) rfl) (po_some (pe_fld (pv 0) rfl)) po_none)) rfl) (pss_one (ps_fld (pv 0) (pe_fld (pv 0) rfl) rfl))) pss_nil) (pss_one (ps_ret pe_bl))))))), ?_⟩
    refine ⟨_, rfl, p, _, _, _, _, rfl, hp, Z.cl, Z.n_mark, lk_mark, rfl, _, rfl, ?_⟩
    unfold Pg.useMark at k
    have hc := o.c
    have hk := o.k
    cases hm : g.m with
    | none =>
      rw [hm] at k
      refine ift (by rfl) ?_
      exact k H Kp.refl ⟨dx, hp⟩
    | some x =>
      have hmx := o.m x hm
      rw [hm] at k
      simp only at k
      refine iff' (by rfl) ?_
      refine ⟨_, rfl, p, dx, _, rfl, hp, p, g, h, rfl, ⟨dx, hp⟩, by omega, ?_⟩
      have eh : hV g.held = .str (S ((g.t.take g.c).drop x)) := by
        unfold Pg.held
        rw [hm]
        rfl
      have el : ((g.t.take g.c).drop x).length = g.c - x := by simp; omega
      rw [eh]
      unfold pgf at hp
      rw [hm] at hp
      refine ⟨_, rfl, _, _, rfl, rfl, _, rfl, ?_⟩
      refine if2 (fun c => ?_) (fun c => ?_)
      · have hc1 : key = 98 := by
          have : [key] = [98] := of_decide_eq_true c
          simpa using this
        rw [if_pos hc1] at k
        refine ⟨_, rfl, _, rfl, by omega, _, rfl, p, _, _, _, _, rfl, hp, Z.cl, Z.n_returned, lk_returned, _, _, rfl, rfl, _, rfl, p, _, _, _, _, rfl, hp, Z.cl, Z.n_hold, lk_hold, _, _, rfl, rfl, _, rfl, ?_⟩
        refine if2 (fun c => ?_) (fun c => ?_)
        · have hc2 := of_decide_eq_true c
          have hc3 : g.c - x + g.r > h := by omega
          rw [if_pos hc3] at k
          refine k H Kp.refl ⟨dx, ?_⟩
          unfold pgf
          rw [hm]
          exact hp
        · have hc2 := of_decide_eq_false c
          have hc3 : ¬ (g.c - x + g.r > h) := by omega
          rw [if_neg hc3] at k
          refine ⟨_, rfl, p, _, _, _, _, rfl, hp, Z.cl, Z.n_returned, lk_returned, _, rfl, _, rfl, by omega, _, _, rfl, rfl, dx, _, hp, ln_pg, ?_⟩
          rw [pt_returned]
          refine ⟨_, rfl, p, _, _, _, _, rfl, upd_same, Z.cl, Z.n_mark, lk_mark, _, rfl, p, _, dx, _, rfl, upd_same, Z.cl, Z.n_caret, ln_pg, ?_⟩
          rw [pt_caret]
          refine k _ ((Kp.refl.upd (by simp)).upd (by simp)) ⟨dx, ?_⟩
          rw [upd_same, el]
          rfl
      · have hc1 : ¬ key = 98 := by
          have : ¬ [key] = [98] := of_decide_eq_false c
          simpa using this
        rw [if_neg hc1] at k
        refine ⟨_, rfl, _, rfl, p, _, dx, _, rfl, hp, Z.cl, Z.n_kept, ln_pg, ?_⟩
        rw [pt_kept]
        have hp1 : upd H p (.ins (ga K "Page") dx (pgR (.str (S g.t)) (.int (g.c : Nat)) (mV (some x)) (.str (S ((g.t.take g.c).drop x))) (.int (g.r : Nat)) (.int (h : Nat)))) p = some (.ins (ga K "Page") dx (pgR (.str (S g.t)) (.int (g.c : Nat)) (mV (some x)) (.str (S ((g.t.take g.c).drop x))) (.int (g.r : Nat)) (.int (h : Nat)))) := upd_same
        have kp1 : Kp [p] H (upd H p (.ins (ga K "Page") dx (pgR (.str (S g.t)) (.int (g.c : Nat)) (mV (some x)) (.str (S ((g.t.take g.c).drop x))) (.int (g.r : Nat)) (.int (h : Nat))))) := Kp.refl.upd (by simp)
        refine ⟨fun σ' H' => Q (.bl true) H', ?_, fun σ' H' z => z⟩
        refine ⟨_, rfl, _, _, rfl, rfl, _, rfl, ?_⟩
        refine if2 (fun c => ?_) (fun c => ?_)
        · have hc2 : key = 99 := by
            have : [key] = [99] := of_decide_eq_true c
            simpa using this
          rw [if_pos hc2] at k
          refine ⟨_, rfl, p, _, _, _, _, rfl, hp1, Z.cl, Z.n_text, lk_text, _, rfl, p, _, _, _, _, rfl, hp1, Z.cl, Z.n_mark, lk_mark, (x : Nat), rfl, _, rfl, by omega, trivial, Int.natCast_nonneg _, ?_⟩
          rw [cutL_to]
          refine ⟨_, rfl, p, _, _, _, _, rfl, hp1, Z.cl, Z.n_text, lk_text, _, rfl, p, _, _, _, _, rfl, hp1, Z.cl, Z.n_caret, lk_caret, _, rfl, _, rfl, by omega, Int.natCast_nonneg _, trivial, ?_⟩
          rw [cutL_from]
          refine ⟨_, _, rfl, rfl, by simp; omega, _, rfl, p, _, dx, _, rfl, hp1, Z.cl, Z.n_text, ln_pg, ?_⟩
          rw [pt_text]
          refine ⟨_, rfl, p, _, _, _, _, rfl, upd_same, Z.cl, Z.n_mark, lk_mark, _, rfl, p, _, dx, _, rfl, upd_same, Z.cl, Z.n_caret, ln_pg, ?_⟩
          rw [pt_caret]
          exact k _ ((kp1.upd (by simp)).upd (by simp)) ⟨dx, upd_same⟩
        · have hc2 : ¬ key = 99 := by
            have : ¬ [key] = [99] := of_decide_eq_false c
            simpa using this
          rw [if_neg hc2] at k
          exact k _ kp1 ⟨dx, hp1⟩
def spKeyS (K : PySem.W.Frag) : Sp := fun vs H Q _ => ∃ (p : Addr) (g : Pg) (h key : Nat) (s : List Nat), vs = [.ref p, .str (S [key]), .str (S s)] ∧ key ∈ [47, 119, 110, 36] ∧ PageAt K H p g h ∧ PgOk h g ∧ g.t.length ≤ 40000 ∧ ∀ H', Kp [p] H H' → PageAt K H' p (g.travel h key s (g.t.length + 1)).2 h → Q (.bl (g.travel h key s (g.t.length + 1)).1) H'
theorem ahead_nil {g : Pg} : g.ahead = [] ↔ g.t[g.c]? = none := by
  unfold Pg.ahead
  cases e : g.t[g.c]? with
  | none =>
    have := List.getElem?_eq_none_iff.mp e
    rw [List.drop_of_length_le this]
    simp
  | some a =>
    obtain ⟨hi, e⟩ := List.getElem?_eq_some_iff.mp e
    rw [List.drop_eq_getElem_cons hi]
    simp [hi]
theorem ahead_some {g : Pg} {a : Nat} (h : g.t[g.c]? = some a) : g.ahead = [a] := by
  obtain ⟨hi, e⟩ := List.getElem?_eq_some_iff.mp h
  unfold Pg.ahead
  rw [List.drop_eq_getElem_cons hi, e]
  rfl
theorem travel_none {h key : Nat} {s : List Nat} {g : Pg} {n : Nat} (e : g.t[g.c]? = none) : g.travel h key s n = (decide (key ∈ [119, 36]), g) := by
  cases n with
  | zero => rfl
  | succ n =>
    unfold Pg.travel
    rw [e]
theorem travel_stop {h key : Nat} {s : List Nat} {g : Pg} {n a : Nat} (e : g.t[g.c]? = some a) (hs : Pg.stops key s a = true) : g.travel h key s (n + 1) = (true, g) := by
  unfold Pg.travel
  rw [e]
  simp only [hs, if_true]
theorem travel_pass {h key : Nat} {s : List Nat} {g : Pg} {n a : Nat} (e : g.t[g.c]? = some a) (hs : Pg.stops key s a = false) : g.travel h key s (n + 1) = (g.pass h).travel h key s n := by
  conv => lhs; unfold Pg.travel
  rw [e]
  simp only [hs]
  rfl
abbrev s_Page_travel : Stmt := inClass (top 24) 16
theorem sc_Page_travel : FnScope ["self", "key", "sign", "ahead"] ["self", "key", "sign"] (defScope s_Page_travel) := ⟨rfl, rfl, rfl, by decide +kernel, rfl, by decide +kernel, by decide +kernel⟩
theorem ok_Page_travel (T : TX K mg) (Z : TP K) (c_is_word_sign : KCal P w K mg base 1 "is_word_sign" spIsWord []) (m_Page_ahead : KMet P w K mg base 1 (ga K "Page") "ahead" (spAhead K)) (m_Page_pass_sign : KMet P w K mg base 2 (ga K "Page") "pass_sign" (spTurn K Pg.pass)) {f : Addr} {fd : FuncData} (F : FunD K "travel" "Page.travel" (defArgs s_Page_travel) (defBody s_Page_travel) (defScope s_Page_travel) [] [] f fd) : FnOk P w K mg base (CX P w) 3 f fd ["self", "key", "sign"] (spKeyS K) := by
  refine F.ok sc_Page_travel (fun vs H Q E h => ?_) (fun cdv A outer s H vs Q E hr h => ?_)
  · obtain ⟨p, g, h, key, s, rfl, _⟩ := h
    rfl
  · obtain ⟨p, g, h, key, sg, rfl, hkey, P0, o, hl, k⟩ := h
    refine ⟨_, (pss_cons (ps_while (passes_of rfl) (pt_cmpR op_neS (km0 m_Page_ahead hr (by decide) (pv 0)) (pe_strS [] (by decide +kernel)) (nomark _)) (pss_cons (ps_set (i := 3) sc_Page_travel.nd rfl (Or.inl rfl) (km0 m_Page_ahead hr (by decide) (pv 0))) (pss_cons (ps_if (PW.pt (pw_or (PW.pt (pw_and (pt_cmpR op_eqS (pv 1) (pe_strS [47] (by decide +kernel)) (nomark _)) (pw_and1 (pt_cmpR op_eqS (pv 3) (pv 2) (nomark _))))) (pw_or1 (PW.pt (pw_and (pt_cmpR op_eqS (pv 1) (pe_strS [36] (by decide +kernel)) (nomark _)) (pw_and1 (pt_cmpR op_eqS (pv 3) (pe_strS [10] (by decide +kernel)) (nomark _)))))))) (pss_one (ps_ret pe_bl)) pss_nil) (pss_cons (ps_if (PW.pt (pw_or (PW.pt (pw_and (pt_cmpR op_eqS (pv 1) (pe_strS [119] (by decide +kernel)) (nomark _)) (pw_and1 (pt_not (pt_val (kc c_is_word_sign hr (by decide) rfl (pa_cons (pv 3) pa_nil))))))) (pw_or1 (PW.pt (pw_and (pt_cmpR op_eqS (pv 1) (pe_strS [110] (by decide +kernel)) (nomark _)) (pw_and1 (pt_val (kc c_is_word_sign hr (by decide) rfl (pa_cons (pv 3) pa_nil))))))))) (pss_one (ps_ret pe_bl)) pss_nil) (pss_one (ps_expr (km0 m_Page_pass_sign hr (by decide) (pv 0)))))))) (pss_one (ps_ret (pe_cmpR op_inS (pv 1) (pe_strS [119, 36] (by decide +kernel)) rfl)))), ?_⟩
    refine ⟨fun m σ' H' => ∃ (u : Option V) (g1 : Pg) (n : Nat), σ' = [some (.ref p), some (.str (S [key])), some (.str (S sg)), u] ∧ Kp [p] H H' ∧ PageAt K H' p g1 h ∧ PgOk h g1 ∧ g1.t = g.t ∧ m = g.t.length - g1.c ∧ g.t.length - g1.c < n ∧ g1.travel h key sg n = g.travel h key sg (g.t.length + 1), ⟨_, none, g, g.t.length + 1, rfl, Kp.refl, P0, o, rfl, rfl, by omega, rfl⟩, ?_⟩
    rintro m σ' H1 ⟨u, g1, n, rfl, k1, ⟨dx, hp⟩, o1, et, em, hn, er⟩
    have hl1 : g1.t.length ≤ 40000 := by rw [et]; exact hl
    have hc1 := o1.c
    refine ⟨_, rfl, p, _, _, rfl, hp, nm_ahead, p, g1, h, rfl, ⟨dx, hp⟩, by omega, _, _, rfl, rfl, _, rfl, ?_⟩
    cases ea : g1.t[g1.c]? with
    | none =>
      have e0 := ahead_nil.mpr ea
      refine iff' (by simp [e0]) ?_
      refine ⟨_, rfl, _, _, rfl, rfl, ?_⟩
      rw [travel_none ea] at er
      have k' := k H1 k1
      rw [← er] at k'
      exact k' ⟨dx, hp⟩
    | some a =>
      have e0 := ahead_some ea
      have ha := (List.getElem?_eq_some_iff.mp ea).1
      refine ift (by simp [e0]) ?_
      refine ⟨fun σ' H' => ∃ (u : Option V) (g1 : Pg) (n : Nat), σ' = [some (.ref p), some (.str (S [key])), some (.str (S sg)), u] ∧ Kp [p] H H' ∧ PageAt K H' p g1 h ∧ PgOk h g1 ∧ g1.t = g.t ∧ g.t.length - g1.c < m ∧ g.t.length - g1.c < n ∧ g1.travel h key sg n = g.travel h key sg (g.t.length + 1), ?_, ?_⟩
      · rintro σ' H' ⟨u, g2, n2, e1, e2, e3, e4, e5, e6, e7, e8⟩
        exact ⟨_, e6, u, g2, n2, e1, e2, e3, e4, e5, rfl, e7, e8⟩
      refine ⟨_, rfl, p, _, _, rfl, hp, nm_ahead, p, g1, h, rfl, ⟨dx, hp⟩, by omega, ?_⟩
      rw [e0]
      obtain ⟨n, rfl⟩ : ∃ n', n = n' + 1 := ⟨n - 1, by omega⟩
      have stop : Pg.stops key sg a = true → Q (.bl true) H1 := fun hs => by
        rw [travel_stop ea hs] at er
        have k' := k H1 k1
        rw [← er] at k'
        exact k' ⟨dx, hp⟩
      have go : Pg.stops key sg a = false → ∀ H2, Kp [p] H1 H2 → PageAt K H2 p (g1.pass h) h → ∃ (u : Option V) (g3 : Pg) (n : Nat), [some (V.ref p), some (.str (S [key])), some (.str (S sg)), some (.str (S [a]))] = [some (.ref p), some (.str (S [key])), some (.str (S sg)), u] ∧ Kp [p] H H2 ∧ PageAt K H2 p g3 h ∧ PgOk h g3 ∧ g3.t = g.t ∧ g.t.length - g3.c < m ∧ g.t.length - g3.c < n ∧ g3.travel h key sg n = g.travel h key sg (g.t.length + 1) := fun hs H2 k2 P2 => by
        rw [travel_pass ea hs] at er
        have ec : (g1.pass h).c = g1.c + 1 := rfl
        rw [et] at ha
        exact ⟨_, _, n, rfl, k1.trans k2, P2, pass_ok o1 (by rw [et]; exact ha), et, by omega, by omega, er⟩
      simp only [List.mem_cons, List.not_mem_nil, or_false] at hkey
      rcases hkey with rfl | rfl | rfl | rfl
      · -- seek
        refine ⟨_, rfl, _, _, rfl, rfl, _, rfl, ?_⟩
        refine ift (by rfl) ?_
        refine ⟨_, rfl, _, rfl, _, _, rfl, rfl, _, rfl, ?_⟩
        refine if2 (fun c => ?_) (fun c => ?_)
        · refine ift rfl ?_
          exact stop c
        · refine ⟨_, rfl, _, _, rfl, rfl, _, rfl, ?_⟩
          refine iff' (by rfl) ?_
          refine iff' rfl ?_
          refine ⟨_, rfl, _, _, rfl, rfl, _, rfl, ?_⟩
          refine iff' (by rfl) ?_
          refine iff' rfl ?_
          refine ⟨_, rfl, _, _, rfl, rfl, _, rfl, ?_⟩
          refine iff' (by rfl) ?_
          refine iff' rfl ?_
          exact ⟨_, rfl, p, _, _, rfl, hp, nm_pass_sign, p, g1, h, rfl, ⟨dx, hp⟩, fun H2 k2 P2 => go c H2 k2 P2⟩
      · -- word
        refine ⟨_, rfl, _, _, rfl, rfl, _, rfl, ?_⟩
        refine iff' (by rfl) ?_
        refine iff' rfl ?_
        refine ⟨_, rfl, _, _, rfl, rfl, _, rfl, ?_⟩
        refine iff' (by rfl) ?_
        refine iff' rfl ?_
        refine ⟨_, rfl, _, _, rfl, rfl, _, rfl, ?_⟩
        refine ift (by rfl) ?_
        refine ⟨_, rfl, a, rfl, _, rfl, ?_⟩
        refine if2 (fun c => ?_) (fun c => ?_)
        · refine ift rfl ?_
          refine stop ?_
          have c' : decide (a ∈ wsg) = false := by simpa using c
          simp [Pg.stops, c']
        · have c' : decide (a ∈ wsg) = true := by simpa using c
          refine ⟨_, rfl, _, _, rfl, rfl, _, rfl, ?_⟩
          refine iff' (by rfl) ?_
          refine iff' rfl ?_
          exact ⟨_, rfl, p, _, _, rfl, hp, nm_pass_sign, p, g1, h, rfl, ⟨dx, hp⟩, fun H2 k2 P2 => go (by simp [Pg.stops, c']) H2 k2 P2⟩
      · -- next word
        refine ⟨_, rfl, _, _, rfl, rfl, _, rfl, ?_⟩
        refine iff' (by rfl) ?_
        refine iff' rfl ?_
        refine ⟨_, rfl, _, _, rfl, rfl, _, rfl, ?_⟩
        refine iff' (by rfl) ?_
        refine iff' rfl ?_
        refine ⟨_, rfl, _, _, rfl, rfl, _, rfl, ?_⟩
        refine iff' (by rfl) ?_
        refine iff' rfl ?_
        refine ⟨_, rfl, _, _, rfl, rfl, _, rfl, ?_⟩
        refine ift (by rfl) ?_
        refine ⟨_, rfl, a, rfl, _, rfl, ?_⟩
        refine if2 (fun c => ?_) (fun c => ?_)
        · refine stop ?_
          have c' : decide (a ∈ wsg) = true := c
          simp [Pg.stops, c']
        · have c' : decide (a ∈ wsg) = false := c
          exact ⟨_, rfl, p, _, _, rfl, hp, nm_pass_sign, p, g1, h, rfl, ⟨dx, hp⟩, fun H2 k2 P2 => go (by simp [Pg.stops, c']) H2 k2 P2⟩
      · -- line end
        refine ⟨_, rfl, _, _, rfl, rfl, _, rfl, ?_⟩
        refine iff' (by rfl) ?_
        refine iff' rfl ?_
        refine ⟨_, rfl, _, _, rfl, rfl, _, rfl, ?_⟩
        refine ift (by rfl) ?_
        refine ⟨_, rfl, _, _, rfl, rfl, _, rfl, ?_⟩
        refine if2 (fun c => ?_) (fun c => ?_)
        · refine stop ?_
          have c' : [a] = [10] := of_decide_eq_true c
          simp at c'
          simp [Pg.stops, c']
        · have c' : ¬ [a] = [10] := of_decide_eq_false c
          simp at c'
          refine ⟨_, rfl, _, _, rfl, rfl, _, rfl, ?_⟩
          refine iff' (by rfl) ?_
          refine iff' rfl ?_
          refine ⟨_, rfl, _, _, rfl, rfl, _, rfl, ?_⟩
          refine iff' (by rfl) ?_
          refine iff' rfl ?_
          exact ⟨_, rfl, p, _, _, rfl, hp, nm_pass_sign, p, g1, h, rfl, ⟨dx, hp⟩, fun H2 k2 P2 => go (by simp [Pg.stops, c']) H2 k2 P2⟩
def spAct (K : PySem.W.Frag) : Sp := fun vs H Q _ => ∃ (p : Addr) (g : Pg) (h key : Nat) (s : List Nat), vs = [.ref p, .str (S [key]), .str (S s)] ∧ vk key s ∧ PageAt K H p g h ∧ PgOk h g ∧ g.t.length ≤ 40000 ∧ ∀ H', Kp [p] H H' → PageAt K H' p (g.act h key s).2 h → Q (.bl (g.act h key s).1) H'
abbrev s_Page_act : Stmt := inClass (top 24) 14
theorem sc_Page_act : FnScope ["self", "key", "sign", "signs"] ["self", "key", "sign"] (defScope s_Page_act) := ⟨rfl, rfl, rfl, by decide +kernel, rfl, by decide +kernel, by decide +kernel⟩
theorem ok_Page_act (T : TX K mg) (Z : TP K) (m_Page_ahead : KMet P w K mg base 1 (ga K "Page") "ahead" (spAhead K)) (p_Page_fresh : KPrp P w K mg base 2 (ga K "Page") "fresh" (spFresh K)) (m_Page_insert : KMet P w K mg base 2 (ga K "Page") "insert" (spIns K)) (m_Page_take_one : KMet P w K mg base 3 (ga K "Page") "take_one" (spKey K [62, 120] Pg.takeOne)) (m_Page_use_mark : KMet P w K mg base 3 (ga K "Page") "use_mark" (spKey K [98, 107, 99] Pg.useMark)) (m_Page_travel : KMet P w K mg base 3 (ga K "Page") "travel" (spKeyS K)) {f : Addr} {fd : FuncData} (F : FunD K "act" "Page.act" (defArgs s_Page_act) (defBody s_Page_act) (defScope s_Page_act) [] [] f fd) : FnOk P w K mg base (CX P w) 5 f fd ["self", "key", "sign"] (spAct K) := by
  refine F.ok sc_Page_act (fun vs H Q E h => ?_) (fun cdv A outer s H vs Q E hr h => ?_)
  · obtain ⟨p, g, h, key, s, rfl, _⟩ := h
    rfl
  · obtain ⟨p, g, h, key, sg, rfl, hv, ⟨dx, hp⟩, o, hl, k⟩ := h
    refine ⟨_, (pss_cons (ps_if (pt_cmpR op_inS (pv 1) (pe_strS [47, 119, 110, 36] (by decide +kernel)) rfl) (pss_one (ps_ret (km m_Page_travel hr (by decide) (pv 0) (pa_cons (pv 1) (pa_cons (pv 2) pa_nil))))) pss_nil) (pss_cons (ps_if (pt_cmpR op_inS (pv 1) (pe_strS [98, 107, 99] (by decide +kernel)) rfl) (pss_one (ps_ret (km m_Page_use_mark hr (by decide) (pv 0) (pa_cons (pv 1) pa_nil)))) pss_nil) (pss_cons (ps_if (PW.pt (pw_or (pt_cmpR op_eqS (pv 1) (pe_strS [62] (by decide +kernel)) (nomark _)) (pw_or1 (pt_cmpR op_eqS (pv 1) (pe_strS [120] (by decide +kernel)) (nomark _))))) (pss_one (ps_ret (km m_Page_take_one hr (by decide) (pv 0) (pa_cons (pv 1) pa_nil)))) pss_nil) (pss_cons (ps_if (pt_cmpR op_eqS (pv 1) (pe_strS [61] (by decide +kernel)) (nomark _)) (pss_one (ps_ret (pe_cmpR op_eqS (km0 m_Page_ahead hr (by decide) (pv 0)) (pv 2) (nomark _)))) pss_nil) (pss_cons (ps_if (pt_cmpR op_eqS (pv 1) (pe_strS [94] (by decide +kernel)) (nomark _)) (pss_one (ps_ret (kprop p_Page_fresh hr (by decide) (pv 0)))) pss_nil) (C8.pss_cut (ps_if (pt_cmpR op_eqS (pv 1) (pe_strS [109] (by decide +kernel)) (nomark _)) (pss_one (ps_fld (pv 0) (pe_fld (pv 0) rfl) rfl)) (pss_one (ps_if (pt_cmpR op_eqS (pv 1) (pe_strS [39] (by decide +kernel)) (nomark _)) (pss_one (ps_expr (km m_Page_insert hr (by decide) (pv 0) (pa_cons (pv 2) pa_nil)))) (pss_cons (ps_set (i := 3) sc_Page_act.nd rfl (Or.inl rfl) (pe_fld (pv 0) rfl)) (pss_cons (ps_expr (km m_Page_insert hr (by decide) (pv 0) (pa_cons (pv 3) pa_nil))) (pss_one (ps_ret (pe_cmpR op_neS (pv 3) (pe_strS [] (by decide +kernel)) (nomark _))))))))) (pss_one (ps_ret pe_bl)))))))), ?_⟩
    have hc := o.c
    have hks := o.k
    unfold Pg.act at k
    refine ⟨_, rfl, _, _, rfl, rfl, _, rfl, ?_⟩
    refine if2 (fun c => ?_) (fun c => ?_)
    · have c1 : key ∈ [47, 119, 110, 36] := of_decide_eq_true c
      rw [if_pos c1] at k
      exact ⟨_, rfl, p, _, _, rfl, hp, nm_travel, _, rfl, _, rfl, p, g, h, key, sg, rfl, c1, ⟨dx, hp⟩, o, hl, k⟩
    have c1 : ¬ key ∈ [47, 119, 110, 36] := of_decide_eq_false c
    rw [if_neg c1] at k
    refine ⟨_, rfl, _, _, rfl, rfl, _, rfl, ?_⟩
    refine if2 (fun c => ?_) (fun c => ?_)
    · have c2 : key ∈ [98, 107, 99] := of_decide_eq_true c
      rw [if_pos c2] at k
      exact ⟨_, rfl, p, _, _, rfl, hp, nm_use_mark, _, rfl, p, g, h, key, rfl, c2, ⟨dx, hp⟩, o, hl, k⟩
    have c2 : ¬ key ∈ [98, 107, 99] := of_decide_eq_false c
    rw [if_neg c2] at k
    have one : ∀ b : Bool, (decide ([key] = [62]) = b) → (b = false → decide ([key] = [120]) = true) → key ∈ [62, 120] := fun b e1 e2 => by
      by_cases q : key = 62
      · simp [q]
      · have e3 : decide ([key] = [62]) = false := by simp [q]
        rw [e3] at e1
        have := of_decide_eq_true (e2 e1.symm)
        simp at this
        simp [this]
    refine ⟨_, rfl, _, _, rfl, rfl, _, rfl, ?_⟩
    refine if2 (fun c => ?_) (fun c => ?_)
    · have c3 : key ∈ [62, 120] := one true c (fun z => Bool.noConfusion z)
      rw [if_pos c3] at k
      refine ift rfl ?_
      exact ⟨_, rfl, p, _, _, rfl, hp, nm_take_one, _, rfl, p, g, h, key, rfl, c3, ⟨dx, hp⟩, o, hl, k⟩
    have c31 : ¬ [key] = [62] := of_decide_eq_false c
    refine ⟨_, rfl, _, _, rfl, rfl, _, rfl, ?_⟩
    refine if2 (fun c => ?_) (fun c => ?_)
    · have c3 : key ∈ [62, 120] := by
        have : [key] = [120] := of_decide_eq_true c
        simp at this
        simp [this]
      rw [if_pos c3] at k
      exact ⟨_, rfl, p, _, _, rfl, hp, nm_take_one, _, rfl, p, g, h, key, rfl, c3, ⟨dx, hp⟩, o, hl, k⟩
    have c32 : ¬ [key] = [120] := of_decide_eq_false c
    have c3 : ¬ key ∈ [62, 120] := by
      simp at c31 c32
      simp [c31, c32]
    rw [if_neg c3] at k
    refine ⟨_, rfl, _, _, rfl, rfl, _, rfl, ?_⟩
    refine if2 (fun c => ?_) (fun c => ?_)
    · have c4 : key = 61 := by
        have : [key] = [61] := of_decide_eq_true c
        simpa using this
      rw [if_pos c4] at k
      exact ⟨_, rfl, p, _, _, rfl, hp, nm_ahead, p, g, h, rfl, ⟨dx, hp⟩, by omega, _, rfl, _, _, rfl, rfl, k H Kp.refl ⟨dx, hp⟩⟩
    have c4 : ¬ key = 61 := by
      have : ¬ [key] = [61] := of_decide_eq_false c
      simpa using this
    rw [if_neg c4] at k
    refine ⟨_, rfl, _, _, rfl, rfl, _, rfl, ?_⟩
    refine if2 (fun c => ?_) (fun c => ?_)
    · have c5 : key = 94 := by
        have : [key] = [94] := of_decide_eq_true c
        simpa using this
      rw [if_pos c5] at k
      exact ⟨_, rfl, p, dx, _, rfl, hp, p, g, h, rfl, ⟨dx, hp⟩, by omega, o.c, k H Kp.refl ⟨dx, hp⟩⟩
    have c5 : ¬ key = 94 := by
      have : ¬ [key] = [94] := of_decide_eq_false c
      simpa using this
    rw [if_neg c5] at k
    refine ⟨fun σ' H' => Q (.bl true) H', ?_, fun σ' H' z => z⟩
    refine ⟨_, rfl, _, _, rfl, rfl, _, rfl, ?_⟩
    refine if2 (fun c => ?_) (fun c => ?_)
    · have c6 : key = 109 := by
        have : [key] = [109] := of_decide_eq_true c
        simpa using this
      rw [if_pos c6] at k
      refine ⟨_, rfl, p, _, _, _, _, rfl, hp, Z.cl, Z.n_caret, lk_caret, _, rfl, p, _, dx, _, rfl, hp, Z.cl, Z.n_mark, ln_pg, ?_⟩
      rw [pt_mark]
      exact k _ (Kp.refl.upd (by simp)) ⟨dx, upd_same⟩
    have c6 : ¬ key = 109 := by
      have : ¬ [key] = [109] := of_decide_eq_false c
      simpa using this
    rw [if_neg c6] at k
    refine ⟨_, rfl, _, _, rfl, rfl, _, rfl, ?_⟩
    refine if2 (fun c => ?_) (fun c => ?_)
    · have c7 : key = 39 := by
        have : [key] = [39] := of_decide_eq_true c
        simpa using this
      rw [if_pos c7] at k
      have sl : sg.length ≤ 1 := by
        rcases hv with ⟨_, rfl⟩ | ⟨_, a, _, rfl⟩ <;> simp
      exact ⟨_, rfl, p, _, _, rfl, hp, nm_insert, _, rfl, p, g, h, sg, rfl, ⟨dx, hp⟩, by omega, o.c, k⟩
    have c7 : ¬ key = 39 := by
      have : ¬ [key] = [39] := of_decide_eq_false c
      simpa using this
    rw [if_neg c7] at k
    refine ⟨_, rfl, p, _, _, _, _, rfl, hp, Z.cl, Z.n_kept, lk_kept, _, rfl, p, _, _, rfl, hp, nm_insert, _, rfl, p, g, h, g.k, rfl, ⟨dx, hp⟩, ?_, o.c, fun H1 k1 P1 => ?_⟩
    · have := o.hb
      omega
    · refine ⟨_, rfl, _, _, rfl, rfl, ?_⟩
      have := k H1 k1 P1
      simpa using this
def spPress (K : PySem.W.Frag) : Sp := fun vs H Q E => ∃ (p : Addr) (g : Pg) (h : Nat) (kk : List Nat), vs = [.ref p, .str (S kk)] ∧ kk.length ≤ 1000 ∧ PageAt K H p g h ∧ PgOk h g ∧ g.t.length ≤ 40000 ∧
  (isKey kk = false → Rz (ga K "InvalidKey") "key" (.str (S kk)) H E) ∧ (∀ key s, kk = key :: s → vk key s → ∀ H', Kp [p] H H' → PageAt K H' p (g.act h key s).2 h → Q (.bl (g.act h key s).1) H')
abbrev s_Page_press : Stmt := inClass (top 24) 13
theorem sc_Page_press : FnScope ["self", "key"] ["self", "key"] (defScope s_Page_press) := ⟨rfl, rfl, rfl, by decide +kernel, rfl, by decide +kernel, by decide +kernel⟩
theorem ok_Page_press (T : TX K mg) (Z : TP K) (x_InvalidKey : Ex1 P w K mg base "InvalidKey" "key" (ga K "InvalidKey")) (c_is_key : KCal P w K mg base 1 "is_key" spIsKey []) (m_Page_act : KMet P w K mg base 5 (ga K "Page") "act" (spAct K)) {f : Addr} {fd : FuncData} (F : FunD K "press" "Page.press" (defArgs s_Page_press) (defBody s_Page_press) (defScope s_Page_press) [] [] f fd) : FnOk P w K mg base (CX P w) 6 f fd ["self", "key"] (spPress K) := by
  refine F.ok sc_Page_press (fun vs H Q E h => ?_) (fun cdv A outer s H vs Q E hr h => ?_)
  · obtain ⟨p, g, h, kk, rfl, _⟩ := h
    rfl
  · obtain ⟨p, g, h, kk, rfl, hkl, ⟨dx, hp⟩, o, hl, kE, kN⟩ := h
    refine ⟨_, (pss_cons (ps_if (pt_not (pt_val (kc c_is_key hr (by decide) rfl (pa_cons (pv 1) pa_nil)))) (pss_one (ps_raise1 rfl (takes_of rfl rfl rfl rfl) x_InvalidKey hr (by decide) rfl (pv 1))) pss_nil) (pss_one (ps_ret (km m_Page_act hr (by decide) (pv 0) (pa_cons (pe_ix ix_S (pv 1) pe_int (fun _ _ => rfl)) (pa_cons (pe_slice sl_S (pv 1) (po_some pe_int) po_none) pa_nil)))))), ?_⟩
    refine ⟨_, rfl, kk, rfl, hkl, _, rfl, ?_⟩
    refine if2 (fun c => ?_) (fun c => ?_)
    · have c' : isKey kk = false := by simpa using c
      exact ⟨_, rfl, mk1_end fun d hd => kE c' H d (Same.refl H) hd⟩
    · have c' : isKey kk = true := by simpa using c
      obtain ⟨key, sg, rfl, hv⟩ := isKey_vk c'
      have hkl' : sg.length + 1 ≤ 1000 := hkl
      refine ⟨_, rfl, p, _, _, rfl, hp, nm_act, _, rfl, _, 0, key, rfl, rfl, by simp; omega, by decide, rfl, _, rfl, _, rfl, _, rfl, by simp; omega, (by show (0 : Int) ≤ 1; decide), trivial, ?_⟩
      have e : cutL (key :: sg) (some 1) none = sg := cutL_from (key :: sg) 1
      rw [e]
      exact ⟨p, g, h, key, sg, rfl, hv, ⟨dx, hp⟩, o, hl, kN key sg rfl hv⟩
def spMove (K : PySem.W.Frag) : Sp := fun vs H Q E => ∃ (p : Addr) (g : Pg) (h : Nat) (i : Int), vs = [.ref p, .int i] ∧ PageAt K H p g h ∧ g.t.length ≤ 40000 ∧
  (¬ (0 ≤ i ∧ i ≤ g.t.length) → Rz (ga K "InvalidPlace") "place" (.int i) H E) ∧ (0 ≤ i ∧ i ≤ g.t.length → ∀ H', Kp [p] H H' → PageAt K H' p ⟨g.t, i.toNat, none, g.k, 0⟩ h → Q .non H')
abbrev s_Page_move_to : Stmt := inClass (top 24) 6
theorem sc_Page_move_to : FnScope ["self", "place"] ["self", "place"] (defScope s_Page_move_to) := ⟨rfl, rfl, rfl, by decide +kernel, rfl, by decide +kernel, by decide +kernel⟩
theorem ok_Page_move_to (T : TX K mg) (Z : TP K) (c_check_place : KCal P w K mg base 3 "check_place" (spCheckPlace K) []) {f : Addr} {fd : FuncData} (F : FunD K "move_to" "Page.move_to" (defArgs s_Page_move_to) (defBody s_Page_move_to) (defScope s_Page_move_to) [] [] f fd) : FnOk P w K mg base (CX P w) 4 f fd ["self", "place"] (spMove K) := by
  refine F.ok sc_Page_move_to (fun vs H Q E h => ?_) (fun cdv A outer s H vs Q E hr h => ?_)
  · obtain ⟨p, g, h, i, rfl, _⟩ := h
    rfl
  · obtain ⟨p, g, h, i, rfl, ⟨dx, hp⟩, hl, kE, kN⟩ := h
    refine ⟨_, (pss_cons (ps_expr (kx c_check_place (takes_of rfl rfl rfl rfl) hr (by decide) rfl (pa_cons (pe_fld (pv 0) rfl) (pa_cons (pv 1) pa_nil)))) (pss_cons (ps_fld (pv 0) (pv 1) rfl) (pss_cons (ps_fld (pv 0) pe_non rfl) (pss_one (ps_fld (pv 0) pe_int rfl))))), ?_⟩
    refine ⟨_, rfl, p, _, _, _, _, rfl, hp, Z.cl, Z.n_text, lk_text, _, rfl, g.t, i, rfl, by omega, fun hi => ?_, fun hi => kE hi⟩
    refine ⟨_, rfl, _, rfl, p, _, dx, _, rfl, hp, Z.cl, Z.n_caret, ln_pg, ?_⟩
    rw [pt_caret]
    refine ⟨_, rfl, p, _, dx, _, rfl, upd_same, Z.cl, Z.n_mark, ln_pg, ?_⟩
    rw [pt_mark]
    refine ⟨_, rfl, p, _, dx, _, rfl, upd_same, Z.cl, Z.n_returned, ln_pg, ?_⟩
    rw [pt_returned]
    refine kN hi _ (((Kp.refl.upd (by simp)).upd (by simp)).upd (by simp)) ⟨dx, ?_⟩
    have e1 : ((i.toNat : Nat) : Int) = i := by omega
    rw [upd_same]
    show _ = some (HO.ins _ _ (pgR _ (V.int (i.toNat : Nat)) _ _ _ _))
    rw [e1]
    rfl
abbrev PgInit (K : PySem.W.Frag) (f : Addr) (fd : FuncData) : Prop := FunD K "__init__" "Page.__init__" (defArgs s_Page___init__) (defBody s_Page___init__) (defScope s_Page___init__) [.str (S []), .int 0] [("hold", .int 2)] f fd
theorem pg_b2 {f : Addr} {fd : FuncData} (F : PgInit K f fd) : ∃ g, KBn K fd ["self", "text", "place", "hold"] 3 ["hold"] g (fun vs zs => vs ++ zs) := by
  obtain ⟨its, mv, b⟩ := FunD.kbinds (ps := ["self", "text", "place", "hold"]) F 3 ["hold"] [] (fun us _ _ ws => us ++ ws) (by simp) (by simp) (by simp) (fun r1 r2 r3 r4 => Vals.append r1 r4)
    (fun T D doc pm an cdv ct us its mv ws h1 h2 h3 h4 => match us, its, mv, ws, h1, h2, h3, h4 with | [_, _, _], [_, _], [], [_], _, _, _, _ => ⟨_, rfl, rfl⟩)
  exact ⟨_, b⟩
theorem pg_b1 {f : Addr} {fd : FuncData} (F : PgInit K f fd) : ∃ ds, Vals [.int 0, .int 2] ds ∧ Binds K fd ["self", "text", "place", "hold"] ds :=
  FunD.binds (ps := ["self", "text", "place", "hold"]) F 2 1 (by simp) (by rfl) (fun T D doc pm an cdv ct us its ks h1 h2 h3 => match us, its, ks, h1, h2, h3 with | [_, _], [_, _], [_], _, _, _ => ⟨_, rfl, ⟨_, _, _, _, _, _, rfl, rfl, rfl⟩⟩) (by simp)
theorem pg_b0 {f : Addr} {fd : FuncData} (F : PgInit K f fd) : ∃ ds, Vals [.str (S []), .int 0, .int 2] ds ∧ Binds K fd ["self", "text", "place", "hold"] ds :=
  FunD.binds (ps := ["self", "text", "place", "hold"]) F 1 0 (by simp) (by rfl) (fun T D doc pm an cdv ct us its ks h1 h2 h3 => match us, its, ks, h1, h2, h3 with | [_], [_, _], [_], _, _, _ => ⟨_, rfl, ⟨_, _, _, _, _, _, rfl, rfl, rfl⟩⟩) (by simp)
def spCopy (K : PySem.W.Frag) : Sp := fun vs H Q _ => ∃ (p : Addr) (g : Pg) (h : Nat), vs = [.ref p] ∧ PageAt K H p g h ∧ PgOk h g ∧ g.t.length ≤ 40000 ∧ ∀ H' p', Same H H' → H p' = none → PageAt K H' p' g h → Q (.ref p') H'
theorem bad_none {t : List Nat} (h : ∀ a ∈ t, a ∈ sgn) : badAt t = none := by
  unfold badAt
  rw [List.findIdx?_eq_none_iff]
  intro a ha
  simpa using h a ha
theorem new_ok {t : List Nat} {i h : Nat} (h4 : h ≤ 4) (hi : i ≤ t.length) (ht : ∀ a ∈ t, a ∈ sgn) : PgOk h ⟨t, i, none, [], 0⟩ := ⟨hi, fun x hx => (by cases hx), Nat.zero_le _, ht, by simp, h4⟩
theorem Kp.new_same {H H2 H' : Hp} {p dx : Addr} {o1 o2 : HO} (hp : H p = none) (hdx : H dx = none) (k : Kp [p] (L2.upd (L2.upd H dx o1) p o2) H') : Same H H' := fun x o e => by
  have n1 := ne_of_none e hp
  have n2 := ne_of_none e hdx
  exact k x o (by simp; exact n1) (by rw [upd_ne n1, upd_ne n2]; exact e)
abbrev s_Page_copy : Stmt := inClass (top 24) 7
theorem sc_Page_copy : FnScope ["self", "other"] ["self"] (defScope s_Page_copy) := ⟨rfl, rfl, rfl, by decide +kernel, rfl, by decide +kernel, by decide +kernel⟩
theorem ok_Page_copy (T : TX K mg) (Z : TP K) (k_Page_2_hold : KMak P w K mg base 4 "Page" (ga K "Page") 2 ["hold"] (spInit K) (fun vs zs => vs ++ zs)) {f : Addr} {fd : FuncData} (F : FunD K "copy" "Page.copy" (defArgs s_Page_copy) (defBody s_Page_copy) (defScope s_Page_copy) [] [] f fd) : FnOk P w K mg base (CX P w) 6 f fd ["self"] (spCopy K) := by
  refine F.ok sc_Page_copy (fun vs H Q E h => ?_) (fun cdv A outer s H vs Q E hr h => ?_)
  · obtain ⟨p, g, h, rfl, _⟩ := h
    rfl
  · obtain ⟨p, g, h, rfl, ⟨dx, hp⟩, o, hl, k⟩ := h
    refine ⟨_, (pss_cons (ps_set (i := 1) sc_Page_copy.nd rfl (Or.inl rfl) (kmak k_Page_2_hold hr (by decide) rfl (pa_cons (pe_fld (pv 0) rfl) (pa_cons (pe_fld (pv 0) rfl) pa_nil)) (pk_cons (pe_fld (pv 0) rfl) pk_nil))) (pss_cons (ps_fld (pv 1) (pe_fld (pv 0) rfl) rfl) (pss_cons (ps_fld (pv 1) (pe_fld (pv 0) rfl) rfl) (pss_cons (ps_fld (pv 1) (pe_fld (pv 0) rfl) rfl) (pss_one (ps_ret (pv 1))))))), ?_⟩
    have hc := o.c
    have hb := o.hb
    have bn := bad_none o.ts
    refine ⟨_, rfl, p, _, _, _, _, rfl, hp, Z.cl, Z.n_text, lk_text, _, rfl, p, _, _, _, _, rfl, hp, Z.cl, Z.n_caret, lk_caret, _, rfl, p, _, _, _, _, rfl, hp, Z.cl, Z.n_hold, lk_hold, rfl, rfl, fun p2 dx2 hp2 hdx2 ne2 => ?_⟩
    refine ⟨p2, dx2, g.t, (g.c : Nat), (h : Nat), rfl, by omega, upd_same, fun j hj => (by rw [bn] at hj; cases hj), fun _ z => absurd ⟨by omega, by omega⟩ z, fun _ _ z => absurd ⟨by omega, by omega⟩ z, fun _ _ _ H1 k1 hp1 => ⟨rfl, ?_⟩⟩
    have s1 : Same H H1 := Kp.new_same (H2 := H1) hp2 hdx2 k1
    have npp : p ≠ p2 := ne_of_none hp hp2
    have hp3 := s1 _ _ hp
    have e1 : (((g.c : Nat) : Int)).toNat = g.c := by omega
    have e2 : (((h : Nat) : Int)).toNat = h := by omega
    rw [e1, e2] at hp1
    refine ⟨_, rfl, p, _, _, _, _, rfl, hp3, Z.cl, Z.n_mark, lk_mark, _, rfl, p2, _, dx2, _, rfl, hp1, Z.cl, Z.n_mark, ln_pg, ?_⟩
    rw [pt_mark]
    have hp4 : upd H1 p2 (.ins (ga K "Page") dx2 (pgR (.str (S g.t)) (.int (g.c : Nat)) (mV g.m) (.str (S [])) (.int (0 : Nat)) (.int (h : Nat)))) p = some (.ins (ga K "Page") dx (pgf g h)) := by rw [upd_ne npp]; exact hp3
    refine ⟨_, rfl, p, _, _, _, _, rfl, hp4, Z.cl, Z.n_kept, lk_kept, _, rfl, p2, _, dx2, _, rfl, upd_same, Z.cl, Z.n_kept, ln_pg, ?_⟩
    rw [pt_kept]
    refine ⟨_, rfl, p, _, _, _, _, rfl, ((upd_ne npp).trans hp4), Z.cl, Z.n_returned, lk_returned, _, rfl, p2, _, dx2, _, rfl, upd_same, Z.cl, Z.n_returned, ln_pg, ?_⟩
    rw [pt_returned]
    refine ⟨_, rfl, k _ p2 ?_ hp2 ⟨dx2, upd_same⟩⟩
    intro x u e
    have n1 : x ≠ p2 := ne_of_none e hp2
    rw [upd_ne n1, upd_ne n1, upd_ne n1]
    exact s1 x u e
/-- the caret moved -/
def Pg.moved (g : Pg) (i : Int) : Pg := if 0 ≤ i ∧ i ≤ g.t.length then ⟨g.t, i.toNat, none, g.k, 0⟩ else g
/-! ### the box -/
structure Box (H : Hp) (b l : Addr) : Prop where
  ne : b ≠ l
  ex : ∃ (cs : List Int) (x y : Int), H b = some (.lst [.ref l, .int x, .int y]) ∧ H l = some (.lst (cs.map V.int)) ∧ 0 ≤ x ∧ 0 ≤ y ∧ y < 2147483647
theorem Box.new {H : Hp} {b l p : Addr} {o : HO} (B : Box H b l) (h : H p = none) : Box (upd H p o) b l := by
  obtain ⟨ne, cs, x, y, h1, h2, r⟩ := B
  exact ⟨ne, cs, x, y, by rw [upd_ne (ne_of_none h1 h)]; exact h1, by rw [upd_ne (ne_of_none h2 h)]; exact h2, r⟩
theorem Box.mut {H : Hp} {b l p : Addr} {o : HO} (B : Box H b l) (h1 : p ≠ b) (h2 : p ≠ l) : Box (upd H p o) b l := by
  obtain ⟨ne, cs, x, y, e1, e2, r⟩ := B
  exact ⟨ne, cs, x, y, by rw [upd_ne h1.symm]; exact e1, by rw [upd_ne h2.symm]; exact e2, r⟩
theorem Box.same {H H' : Hp} {b l : Addr} (B : Box H b l) (k : Same H H') : Box H' b l := by
  obtain ⟨ne, cs, x, y, e1, e2, r⟩ := B
  exact ⟨ne, cs, x, y, k _ _ e1, k _ _ e2, r⟩
def spTake : Sp := fun vs H Q _ => ∃ (b l : Addr) (n : Int), vs = [.ref b, .int n] ∧ Box H b l ∧ 0 < n ∧ n ≤ 2 ^ 100 ∧ ∀ (H' : Hp) (r : Int), Kp [b, l] H H' → Box H' b l → 0 ≤ r → r < n → Q (.int r) H'
abbrev s_take : Stmt := top 28
theorem sc_take : FnScope ["_law_box_here", "_law_size", "_law_cell", "_law_digit"] ["_law_box_here", "_law_size"] (defScope s_take) := ⟨rfl, rfl, rfl, by decide +kernel, rfl, by decide +kernel, by decide +kernel⟩
theorem ok_take (T : TX K mg) {f : Addr} {fd : FuncData} (F : FnP K "_law_take" s_take f fd) : FnOk P w K mg base (CX P w) 1 f fd ["_law_box_here", "_law_size"] spTake := by
  refine F.ok sc_take (fun vs H Q E h => ?_) (fun cdv A outer s H vs Q E hr h => ?_)
  · obtain ⟨b, l, n, rfl, _⟩ := h
    rfl
  · obtain ⟨b, l, n, rfl, B, hn, hn2, k⟩ := h
    obtain ⟨ne, cs, x, y, hb, hl, hx, hy, hy2⟩ := B
    refine ⟨_, (C8.pss_cut (ps_if (PW.pt (pw_and (pt_cmpR op_eq (pe_ix ix_list (pv 0) pe_int (fun _ _ => rfl)) pe_int (nomark _)) (pw_and1 (pt_cmpR (op_neD hr.units) (pe_ix ix_list (pv 0) pe_int (fun _ _ => rfl)) (pe_lst pa_nil) (nomark _))))) (pss_cons (ps_set (i := 2) sc_take.nd rfl (Or.inl rfl) (pe_bm PySem.F.plainAttrs_list PySem.F.slot_list_pop PySem.F.type_list_pop mt_popAt (pe_ix ix_list (pv 0) pe_int (fun _ _ => rfl)) (pa_cons pe_int pa_nil))) (pss_one (ps_if (pt_cmpR op_ge (pv 2) (pe_op op_pow pe_int pe_int) (nomark _)) (pss_one (ps_asg (pe_op op_sub (pv 2) (pe_op op_pow pe_int pe_int)) (pg_sub (pv 0) pe_int set_list))) (pss_one (ps_asg (pe_op op_mod (pe_callTy call_int1 (by rfl) T.b_int (by decide +kernel) (pa_cons (pe_op op_add (pe_op op_mul (pe_ix ix_list (pv 0) pe_int (fun _ _ => rfl)) pe_int) (pe_op op_mul (pv 2) pe_int)) pa_nil)) pe_int) (pg_sub (pv 0) pe_int set_list)))))) pss_nil) (pss_cons (ps_if (pt_cmpR op_gt (pe_ix ix_list (pv 0) pe_int (fun _ _ => rfl)) pe_int (nomark _)) (pss_cons (ps_set (i := 3) sc_take.nd rfl (Or.inl rfl) (pe_op op_mod (pe_callTy call_int1 (by rfl) T.b_int (by decide +kernel) (pa_cons (pe_ix ix_list (pv 0) pe_int (fun _ _ => rfl)) pa_nil)) (pv 1))) (pss_cons (ps_asg (pe_op op_fdivW (pe_ix ix_list (pv 0) pe_int (fun _ _ => rfl)) (pv 1)) (pg_sub (pv 0) pe_int set_list)) (pss_one (ps_ret (pv 3))))) pss_nil) (pss_cons (ps_asg (pe_op op_mod (pe_callTy call_int1 (by rfl) T.b_int (by decide +kernel) (pa_cons (pe_op op_mul (pe_ix ix_list (pv 0) pe_int (fun _ _ => rfl)) pe_int) pa_nil)) pe_int) (pg_sub (pv 0) pe_int set_list)) (pss_one (ps_ret (pe_op op_mod (pe_callTy call_int1 (by rfl) T.b_int (by decide +kernel) (pa_cons (pe_op op_fdivW (pe_ix ix_list (pv 0) pe_int (fun _ _ => rfl)) pe_int) pa_nil)) (pv 1))))))), ?_⟩
    refine ⟨fun σ' H' => ∃ (u v : Option V) (cs : List Int) (x y : Int), σ' = [some (.ref b), some (.int n), u, v] ∧ Kp [b, l] H H' ∧ H' b = some (.lst [.ref l, .int x, .int y]) ∧ H' l = some (.lst (cs.map V.int)) ∧ 0 ≤ x ∧ 0 ≤ y ∧ y < 2147483647, ?_, ?_⟩
    · refine ⟨_, rfl, b, _, 1, _, rfl, rfl, SqL.of hb, rfl, rfl, _, rfl, ?_⟩
      refine if2 (fun c => ?_) (fun c => ?_)
      · rw [dI] at c
        have x0 : x = 0 := of_decide_eq_true c
        refine ⟨_, rfl, b, _, 0, _, rfl, rfl, SqL.of hb, rfl, Nat.zero_le _, fun p hp => ?_⟩
        have nl : l ≠ p := ne_of_none hl hp
        have nb : b ≠ p := ne_of_none hb hp
        cases cs with
        | nil =>
          refine ⟨_, _, .lst (SqL.of (by rw [upd_ne nl]; exact hl)) .nil, .lst (SqL.of upd_same) .nil, rfl, rfl, _, rfl, ?_⟩
          refine iff' (by rfl) ?_
          exact ⟨none, none, [], x, y, rfl, Kp.refl.new hp, by rw [upd_ne nb]; exact hb, by rw [upd_ne nl]; exact hl, hx, hy, hy2⟩
        | cons c0 cs =>
          refine ⟨_, _, .lst (SqL.of (by rw [upd_ne nl]; exact hl)) (dpInts (c0 :: cs)), .lst (SqL.of upd_same) .nil, shInts (c0 :: cs), rfl, _, rfl, ?_⟩
          refine ift (by rfl) ?_
          refine ⟨_, rfl, b, _, 0, _, rfl, rfl, SqL.of (by rw [upd_ne nb]; exact hb), rfl, tyL (by rw [upd_ne nl]; exact hl), ?_⟩
          refine ⟨l, _, 0, 0, .int c0, rfl, rfl, (by rw [upd_ne nl]; exact hl), by decide, by decide, six0 (by simp), rfl, ?_⟩
          have hb1 : upd (upd H p (.lst [])) l (.lst (cs.map V.int)) b = some (.lst [.ref l, .int x, .int y]) := by rw [upd_ne ne, upd_ne nb]; exact hb
          have hl1 : upd (upd H p (.lst [])) l (.lst (cs.map V.int)) l = some (.lst (cs.map V.int)) := upd_same
          have k1 : Kp [b, l] H (upd (upd H p (.lst [])) l (.lst (cs.map V.int))) := (Kp.refl.new hp).upd (by simp)
          refine ⟨_, rfl, 10, 18, rfl, rfl, ⟨by decide, by decide, by decide⟩, _, _, rfl, rfl, _, rfl, ?_⟩
          refine if2 (fun c => ?_) (fun c => ?_)
          · have hc : (10 : Int) ^ 18 ≤ c0 := of_decide_eq_true c
            refine ⟨_, rfl, 10, 18, rfl, rfl, ⟨by decide, by decide, by decide⟩, _, _, rfl, rfl, _, rfl, b, _, 1, 1, rfl, rfl, hb1, rfl, ?_⟩
            exact ⟨_, none, cs, _, y, rfl, k1.upd (by simp), upd_same, by rw [upd_ne ne.symm]; exact hl1, (show (0 : Int) ≤ c0 - 10 ^ 18 by omega), hy, hy2⟩
          · refine ⟨_, rfl, b, _, 2, _, rfl, rfl, SqL.of hb1, rfl, _, _, rfl, rfl, .inr ⟨by decide, by decide⟩, _, rfl, _, _, rfl, rfl, .inr ⟨by decide, by decide⟩, _, _, rfl, rfl, .inl ⟨_, rfl, _, _, rfl, rfl, (show (0 : Int) < 2147483647 by decide), _, rfl, b, _, 2, 2, rfl, rfl, hb1, rfl, ?_⟩⟩
            exact ⟨_, none, cs, x, _, rfl, k1.upd (by simp), upd_same, by rw [upd_ne ne.symm]; exact hl1, hx, Int.emod_nonneg _ (by decide), Int.emod_lt_of_pos _ (by decide)⟩
      · refine iff' rfl ?_
        exact ⟨none, none, cs, x, y, rfl, Kp.refl, hb, hl, hx, hy, hy2⟩
    · rintro σ' H' ⟨u, v, cs, x, y, rfl, kp, hb, hl, hx, hy, hy2⟩
      refine ⟨_, rfl, b, _, 1, _, rfl, rfl, SqL.of hb, rfl, _, _, rfl, rfl, _, rfl, ?_⟩
      refine if2 (fun c => ?_) (fun c => ?_)
      · have hc : (0 : Int) < x := of_decide_eq_true c
        refine ⟨_, rfl, b, _, 1, _, rfl, rfl, SqL.of hb, rfl, .inl ⟨_, rfl, _, rfl, _, _, rfl, rfl, hn, ?_⟩⟩
        refine ⟨_, rfl, b, _, 1, _, rfl, rfl, SqL.of hb, rfl, _, rfl, _, _, rfl, rfl, wide_div (b := 200) hn ?_ (by decide) (by decide), _, rfl, b, _, 1, 1, rfl, rfl, hb, rfl, _, rfl, ?_⟩
        · omega
        · exact k _ _ (kp.upd (by simp)) ⟨ne, cs, _, y, upd_same, by rw [upd_ne ne.symm]; exact hl, Int.ediv_nonneg hx (by omega), hy, hy2⟩ (Int.emod_nonneg _ (by omega)) (Int.emod_lt_of_pos _ hn)
      · refine ⟨_, rfl, b, _, 2, _, rfl, rfl, SqL.of hb, rfl, _, _, rfl, rfl, .inr ⟨by decide, by decide⟩, .inl ⟨_, rfl, _, _, rfl, rfl, (show (0 : Int) < 2147483647 by decide), _, rfl, b, _, 2, 2, rfl, rfl, hb, rfl, ?_⟩⟩
        refine ⟨_, rfl, b, _, 2, _, rfl, rfl, SqL.of upd_same, rfl, _, _, rfl, rfl, ⟨by decide, by decide⟩, .inl ⟨_, rfl, _, rfl, _, _, rfl, rfl, hn, ?_⟩⟩
        exact k _ _ (kp.upd (by simp)) ⟨ne, cs, x, _, upd_same, by rw [upd_ne ne.symm]; exact hl, hx, Int.emod_nonneg _ (by decide), Int.emod_lt_of_pos _ (by decide)⟩ (Int.emod_nonneg _ (by omega)) (Int.emod_lt_of_pos _ hn)
def spSigns : Sp := fun vs H Q _ => vs = [] ∧ Q (.str (S sgn)) H
abbrev s_signs : Stmt := top 26
theorem sc_signs : FnScope ["_law_signs_here"] [] (defScope s_signs) := ⟨rfl, rfl, rfl, by decide +kernel, rfl, by decide +kernel, by decide +kernel⟩
theorem ok_signs {f : Addr} {fd : FuncData} (F : FnP K "_law_signs" s_signs f fd) : FnOk P w K mg base (CX P w) 1 f fd [] spSigns := by
  refine F.ok sc_signs (fun vs H Q E h => ?_) (fun cdv A outer s H vs Q E hr h => ?_)
  · obtain ⟨rfl, _⟩ := h
    rfl
  · obtain ⟨rfl, k⟩ := h
    refine ⟨_, (pss_cons (ps_set (i := 0) sc_signs.nd rfl (Or.inl rfl) (pe_strS [10, 32, 33, 34, 35, 36, 38, 39, 40, 41, 42, 43, 44, 45, 46, 47, 48, 49, 50, 51, 52, 53, 54, 55, 56, 57, 58, 59, 60, 61, 62, 63, 64, 65, 66, 67, 68, 69, 70, 71, 72, 73, 74, 75, 76, 77, 78, 79, 80, 81, 82, 83, 84, 85, 86, 87, 88, 89, 90, 91, 92, 93, 94, 95, 96] (by decide +kernel))) (pss_one (ps_ret (pe_op op_addS (pv 0) (pe_strS [97, 98, 99, 100, 101, 102, 103, 104, 105, 106, 107, 108, 109, 110, 111, 112, 113, 114, 115, 116, 117, 118, 119, 120, 121, 122, 123, 124, 125, 126] (by decide +kernel)))))), ?_⟩
    exact ⟨_, rfl, _, _, rfl, rfl, by decide, k⟩
def spBox (K : PySem.W.Frag) : Sp := fun vs H Q _ => ∃ (a : Addr) (ns : List Int), vs = [.ref a] ∧ SqL K H a (ns.map V.int) ∧ ∀ H' b l, Same H H' → H b = none → H l = none → Box H' b l → Q (.ref b) H'
abbrev s_box : Stmt := top 27
theorem sc_box : FnScope ["_law_script"] ["_law_script"] (defScope s_box) := ⟨rfl, rfl, rfl, by decide +kernel, rfl, by decide +kernel, by decide +kernel⟩
theorem ok_box (T : TX K mg) {f : Addr} {fd : FuncData} (F : FnP K "_law_box" s_box f fd) : FnOk P w K mg base (CX P w) 1 f fd ["_law_script"] (spBox K) := by
  refine F.ok sc_box (fun vs H Q E h => ?_) (fun cdv A outer s H vs Q E hr h => ?_)
  · obtain ⟨a, ns, rfl, _⟩ := h
    rfl
  · obtain ⟨a, ns, rfl, hS, k⟩ := h
    refine ⟨_, (pss_one (ps_ret (pe_lst (pa_cons (pe_callTy call_list_of (by rfl) T.b_list (by decide +kernel) (pa_cons (pv 0) pa_nil)) (pa_cons pe_int (pa_cons pe_int pa_nil)))))), ?_⟩
    refine ⟨_, rfl, a, _, rfl, .inl hS, fun l hl => ⟨(show 3 ≤ sizeLine by decide), fun b hb => ?_⟩⟩
    have ne : l ≠ b := fun q => by rw [q, upd_same] at hb; cases hb
    have hb' : H b = none := by rw [upd_ne ne.symm] at hb; exact hb
    exact k _ b l (Same.new (Same.new (Same.refl H) hl) hb) hb' hl ⟨ne.symm, ns, 0, 0, upd_same, by rw [upd_ne ne]; exact upd_same, by decide, by decide, by decide⟩
def spText : Sp := fun vs H Q _ => ∃ (b l : Addr) (sg : List Nat) (m : Int), vs = [.ref b, .str (S sg), .int m] ∧ Box H b l ∧ 0 ≤ m ∧ m ≤ 1000 ∧ sg ≠ [] ∧ sg.length ≤ 1000 ∧ ∀ H' (t : List Nat), Kp [b, l] H H' → Box H' b l → (t.length : Int) ≤ m → (∀ c ∈ t, c ∈ sg) → Q (.str (S t)) H'
abbrev s_text : Stmt := top 29
theorem sc_text : FnScope ["_law_box_here", "_law_signs_here", "_law_most", "_law_size", "_law_k"] ["_law_box_here", "_law_signs_here", "_law_most"] (defScope s_text) := ⟨rfl, rfl, rfl, by decide +kernel, rfl, by decide +kernel, by decide +kernel⟩
theorem ok_text (T : TX K mg) (c__law_take : KCal P w K mg base 1 "_law_take" spTake []) {f : Addr} {fd : FuncData} (F : FnP K "_law_text" s_text f fd) : FnOk P w K mg base (CX P w) 2 f fd ["_law_box_here", "_law_signs_here", "_law_most"] spText := by
  refine F.ok sc_text (fun vs H Q E h => ?_) (fun cdv A outer s H vs Q E hr h => ?_)
  · obtain ⟨b, l, sg, m, rfl, _⟩ := h
    rfl
  · obtain ⟨b, l, sg, m, rfl, B, hm, hm2, hne, hsl, k⟩ := h
    refine ⟨_, (pss_cons (ps_set (i := 3) sc_text.nd rfl (Or.inl rfl) (kc c__law_take hr (by decide) rfl (pa_cons (pv 0) (pa_cons (pe_op op_add (pv 2) pe_int) pa_nil)))) (pss_one (ps_ret (pe_join0 (pe_strS [] (by decide +kernel)) (pe_lc (own := [("_law_k", 4)]) rfl sc_text.nd (pi_range1 (by rfl) T.b_range (pa_cons (pv 3) pa_nil)) (blkOk_by (own := [("_law_k", 4)]) (N := ["_law_box_here", "_law_signs_here", "_law_most", "_law_size", "_law_k"]) (sc := defScope s_text) (by decide +kernel)) (fun _ _ _ _ _ => (pg_name (i := 4) sc_text.nd rfl (Or.inl rfl))) (fun _ _ _ _ _ => pts_nil) (fun _ _ _ _ _ => (pe_ix ix_S (pv 1) (kc c__law_take hr (by decide) rfl (pa_cons (pv 0) (pa_cons (pe_callB call_lenS (by rfl) T.b_len PySem.boot_len (pa_cons (pv 1) pa_nil)) pa_nil))) (fun _ _ => rfl)))))))), ?_⟩
    refine ⟨_, rfl, _, rfl, _, _, rfl, rfl, b, l, m + 1, rfl, B, by omega, by omega, fun H1 r k1 B1 r0 r1 => ?_⟩
    refine ⟨⟨_, rfl⟩, _, rfl, r, rfl, by omega, by omega, fun D hD => ?_⟩
    have nDb : b ≠ D := fun q => by obtain ⟨_, _, _, _, hb, _⟩ := B1; rw [q, hD] at hb; cases hb
    have nDl : l ≠ D := fun q => by obtain ⟨_, _, _, _, _, hb, _⟩ := B1; rw [q, hD] at hb; cases hb
    refine lc_range (lo := 0) (n := r.toNat) (fun i H2 => ∃ ys : List (List Nat), H2 D = some (.lst (ys.map fun y => V.str (S y))) ∧ Kp [b, l] H1 H2 ∧ Box H2 b l ∧ ys.length = i ∧ ys.flatten.length = i ∧ ∀ c ∈ ys.flatten, c ∈ sg) ?_ ?_ ?_
    · refine ⟨[], upd_same, Kp.refl.new hD, B1.new hD, rfl, rfl, by simp⟩
    · rintro i H2 hi ⟨ys, hY, k2, B2, e1, e2, hc⟩
      refine ⟨rfl, ?_⟩
      refine ⟨_, rfl, _, rfl, _, rfl, _, rfl, by omega, b, l, (sg.length : Int), rfl, B2, ?_, by omega, fun H3 q k3 B3 q0 q1 => ?_⟩
      · have := List.length_pos_iff.mpr hne
        omega
      have hq : q.toNat < sg.length := by omega
      refine ⟨_, _, _, rfl, rfl, by omega, q0, List.getElem?_eq_getElem hq, ?_⟩
      have hD3 := k3 D _ (by simp [nDb.symm, nDl.symm]) hY
      refine ⟨_, hD3, ?_, ys ++ [[sg[q.toNat]]], ?_, (k2.trans k3).mut hD, B3.mut (nDb.symm) (nDl.symm), ?_, ?_, ?_⟩
      · rw [List.length_map]; exact ltSz (by omega)
      · rw [upd_same, List.map_append]; rfl
      · simp [e1]
      · simp [e2]
      · intro c hc'
        simp at hc'
        rcases hc' with ⟨y, hy, hy2⟩ | rfl
        · exact hc c (by simp; exact ⟨y, hy, hy2⟩)
        · exact List.getElem_mem hq
    · rintro H2 ⟨ys, hY, k2, B2, e1, e2, hc⟩
      refine ⟨_, _, rfl, rfl, SqL.of hY, by omega, ?_⟩
      exact k _ _ (k1.trans k2) B2 (by omega) hc
/-! ### the law's own page: a list of five -/
def dl (g : Pg) : List V := [.str (S g.t), .int (g.c : Nat), mV g.m, .str (S g.k), .int (g.r : Nat)]
def DueAt (H : Hp) (q : Addr) (g : Pg) : Prop := H q = some (.lst (dl g))
def spLTurn (F : Nat → Pg → Pg) : Sp := fun vs H Q _ => ∃ (q : Addr) (g : Pg) (h : Nat), vs = [.ref q, .int (h : Nat)] ∧ DueAt H q g ∧ ∀ H', Kp [q] H H' → DueAt H' q (F h g) → Q .non H'
/-- the mark is dropped beyond the hold: the end of a pass, of an insert -/
theorem adv_some {h x : Nat} {g : Pg} (hm : g.m = some x) : (g.adv h).m = if x + h < g.c + 1 then none else some x := by
  unfold Pg.adv
  rw [hm]
  rfl
theorem adv_none {h : Nat} {g : Pg} (hm : g.m = none) : (g.adv h).m = none := by
  unfold Pg.adv
  rw [hm]
  rfl
abbrev s_lpass : Stmt := top 32
theorem sc_lpass : FnScope ["_law_page", "_law_hold"] ["_law_page", "_law_hold"] (defScope s_lpass) := ⟨rfl, rfl, rfl, by decide +kernel, rfl, by decide +kernel, by decide +kernel⟩
theorem ok_lpass (T : TX K mg) {f : Addr} {fd : FuncData} (F : FunD K "_law_pass" "_law_pass" (defArgs s_lpass) (defBody s_lpass) (defScope s_lpass) [] [] f fd) : FnOk P w K mg base (CX P w) 1 f fd ["_law_page", "_law_hold"] (spLTurn Pg.pass) := by
  refine F.ok sc_lpass (fun vs H Q E h => ?_) (fun cdv A outer s H vs Q E hr h => ?_)
  · obtain ⟨q, g, h, rfl, _⟩ := h
    rfl
  · obtain ⟨q, ⟨t, c, m, kk, r⟩, h, rfl, hq, k⟩ := h
    refine ⟨_, (pss_cons (ps_asg (pe_op op_add (pe_ix ix_list (pv 0) pe_int (fun _ _ => rfl)) pe_int) (pg_sub (pv 0) pe_int set_list)) (pss_cons (ps_asg (pe_callB (call_max2 rfl) (by rfl) T.b_max (by decide +kernel) (pa_cons pe_int (pa_cons (pe_op op_sub (pe_ix ix_list (pv 0) pe_int (fun _ _ => rfl)) pe_int) pa_nil))) (pg_sub (pv 0) pe_int set_list)) (pss_one (ps_if (PW.pt (pw_and (pt_cmpR op_notN (pe_ix ix_list (pv 0) pe_int (fun _ _ => rfl)) pe_non (nomark _)) (pw_and1 (pt_cmpR op_gt (pe_op op_sub (pe_ix ix_list (pv 0) pe_int (fun _ _ => rfl)) (pe_ix ix_list (pv 0) pe_int (fun _ _ => rfl))) (pv 1) (nomark _))))) (pss_one (ps_asg pe_non (pg_sub (pv 0) pe_int set_list))) pss_nil)))), ?_⟩
    have hq' : H q = some (.lst [.str (S t), .int (c : Nat), mV m, .str (S kk), .int (r : Nat)]) := hq
    clear hq
    refine ⟨_, rfl, q, _, 1, _, rfl, rfl, SqL.of hq', rfl, _, _, rfl, rfl, _, rfl, q, _, 1, 1, rfl, rfl, hq', rfl, ?_⟩
    refine ⟨_, rfl, q, _, 4, _, rfl, rfl, SqL.of upd_same, rfl, _, _, rfl, rfl, _, _, rfl, _, rfl, q, _, 4, 4, rfl, rfl, upd_same, rfl, ?_⟩
    rw [max0]
    refine ⟨_, rfl, q, _, 2, _, rfl, rfl, SqL.of upd_same, rfl, rfl, _, rfl, ?_⟩
    cases m with
    | none =>
      refine iff' (by rfl) ?_
      refine iff' rfl ?_
      exact k _ ((Kp.refl.upd (by simp)).upd (by simp)) upd_same
    | some x =>
      refine ift (by rfl) ?_
      refine ⟨_, rfl, q, _, 1, _, rfl, rfl, SqL.of upd_same, rfl, _, rfl, q, _, 2, .int (x : Nat), rfl, rfl, SqL.of upd_same, rfl, _, (x : Nat), rfl, rfl, _, rfl, _, _, rfl, rfl, _, rfl, ?_⟩
      have e : (Pg.pass h ⟨t, c, some x, kk, r⟩) = ⟨t, c + 1, if x + h < c + 1 then none else some x, kk, r - 1⟩ := rfl
      refine if2 (fun c1 => ?_) (fun c1 => ?_)
      · have c2 := of_decide_eq_true c1
        refine ⟨_, rfl, q, _, 2, 2, rfl, rfl, upd_same, rfl, ?_⟩
        rw [e, if_pos (by omega)] at k
        exact k _ (((Kp.refl.upd (by simp)).upd (by simp)).upd (by simp)) upd_same
      · have c2 := of_decide_eq_false c1
        rw [e, if_neg (by omega)] at k
        exact k _ ((Kp.refl.upd (by simp)).upd (by simp)) upd_same
def spLIns : Sp := fun vs H Q _ => ∃ (q : Addr) (g : Pg) (h : Nat) (xs : List Nat), vs = [.ref q, .int (h : Nat), .str (S xs)] ∧ DueAt H q g ∧ g.t.length + xs.length ≤ 50000 ∧ g.c ≤ g.t.length ∧ ∀ H', Kp [q] H H' → DueAt H' q (g.inss h xs) → Q .non H'
abbrev s_linsert : Stmt := top 31
theorem sc_linsert : FnScope ["_law_page", "_law_hold", "_law_signs_here", "_law_sign"] ["_law_page", "_law_hold", "_law_signs_here"] (defScope s_linsert) := ⟨rfl, rfl, rfl, by decide +kernel, rfl, by decide +kernel, by decide +kernel⟩
theorem ok_linsert (T : TX K mg) {f : Addr} {fd : FuncData} (F : FunD K "_law_insert" "_law_insert" (defArgs s_linsert) (defBody s_linsert) (defScope s_linsert) [] [] f fd) : FnOk P w K mg base (CX P w) 1 f fd ["_law_page", "_law_hold", "_law_signs_here"] spLIns := by
  refine F.ok sc_linsert (fun vs H Q E h => ?_) (fun cdv A outer s H vs Q E hr h => ?_)
  · obtain ⟨q, g, h, xs, rfl, _⟩ := h
    rfl
  · obtain ⟨q, g, h, xs, rfl, hq0, hl, hc, k⟩ := h
    refine ⟨_, (pss_one (ps_for (passes_of rfl) rfl (pi_str (pv 2)) (pg_name (i := 3) sc_linsert.nd rfl (Or.inl rfl)) (pss_cons (ps_asg (pe_op op_addS (pe_op op_addS (pe_slice sl_S (pe_ix ix_list (pv 0) pe_int (fun _ _ => rfl)) po_none (po_some (pe_ix ix_list (pv 0) pe_int (fun _ _ => rfl)))) (pv 3)) (pe_slice sl_S (pe_ix ix_list (pv 0) pe_int (fun _ _ => rfl)) (po_some (pe_ix ix_list (pv 0) pe_int (fun _ _ => rfl))) po_none)) (pg_sub (pv 0) pe_int set_list)) (pss_cons (ps_asg (pe_op op_add (pe_ix ix_list (pv 0) pe_int (fun _ _ => rfl)) pe_int) (pg_sub (pv 0) pe_int set_list)) (pss_one (ps_if (PW.pt (pw_and (pt_cmpR op_notN (pe_ix ix_list (pv 0) pe_int (fun _ _ => rfl)) pe_non (nomark _)) (pw_and1 (pt_cmpR op_gt (pe_op op_sub (pe_ix ix_list (pv 0) pe_int (fun _ _ => rfl)) (pe_ix ix_list (pv 0) pe_int (fun _ _ => rfl))) (pv 1) (nomark _))))) (pss_one (ps_asg pe_non (pg_sub (pv 0) pe_int set_list))) pss_nil)))))), ?_⟩
    refine ⟨_, rfl, _, rfl, for_it walk_str (fun i σ H' => ∃ u, σ = [some (.ref q), some (.int (h : Nat)), some (.str (S xs)), u] ∧ Kp [q] H H' ∧ DueAt H' q (g.inss h (xs.take i))) ?_ (fun _ _ _ _ _ => trivial) ?_ ?_⟩
    · exact ⟨none, rfl, Kp.refl, hq0⟩
    · rintro i x σ H1 H2 hi ⟨u, rfl, k1, hq⟩ ⟨rfl, c, hc1, rfl⟩
      unfold DueAt at hq
      have hx : xs[i]? = some c := by simpa [S] using hc1
      have hil := (List.getElem?_eq_some_iff.mp hx).1
      obtain ⟨l1, l2⟩ := inss_len (h := h) (xs := xs.take i) hc
      have tl : (xs.take i).length = i := by simp; omega
      have eg : g.inss h (xs.take (i + 1)) = (g.inss h (xs.take i)).ins h c := by rw [take_snoc hx, inss_snoc]
      rw [eg]
      generalize g.inss h (xs.take i) = g1 at hq l1 l2 ⊢
      obtain ⟨t1, c1, m1, kk1, r1⟩ := g1
      have hq' : H2 q = some (.lst [.str (S t1), .int (c1 : Nat), mV m1, .str (S kk1), .int (r1 : Nat)]) := hq
      clear hq
      simp only at l1 l2
      refine ⟨_, rfl, q, _, 0, _, rfl, rfl, SqL.of hq', rfl, _, rfl, q, _, 1, _, rfl, rfl, SqL.of hq', rfl, _, rfl, _, rfl, by omega, trivial, Int.natCast_nonneg _, _, rfl, ?_⟩
      rw [cutL_to]
      refine ⟨_, _, rfl, rfl, by simp; omega, _, rfl, q, _, 0, _, rfl, rfl, SqL.of hq', rfl, _, rfl, q, _, 1, _, rfl, rfl, SqL.of hq', rfl, _, rfl, _, rfl, by omega, Int.natCast_nonneg _, trivial, ?_⟩
      rw [cutL_from]
      refine ⟨_, _, rfl, rfl, by simp; omega, _, rfl, q, _, 0, 0, rfl, rfl, hq', rfl, ?_⟩
      refine ⟨_, rfl, q, _, 1, _, rfl, rfl, SqL.of upd_same, rfl, _, _, rfl, rfl, _, rfl, q, _, 1, 1, rfl, rfl, upd_same, rfl, ?_⟩
      have et : t1.take c1 ++ [c] ++ t1.drop c1 = t1.take c1 ++ c :: t1.drop c1 := by rw [List.append_assoc]; rfl
      rw [et]
      refine ⟨_, rfl, q, _, 2, _, rfl, rfl, SqL.of upd_same, rfl, rfl, _, rfl, ?_⟩
      cases m1 with
      | none =>
        refine iff' (by rfl) ?_
        refine iff' rfl ?_
        exact ⟨_, rfl, k1.trans ((Kp.refl.upd (by simp)).upd (by simp)), upd_same⟩
      | some x =>
        refine ift (by rfl) ?_
        refine ⟨_, rfl, q, _, 1, _, rfl, rfl, SqL.of upd_same, rfl, _, rfl, q, _, 2, .int (x : Nat), rfl, rfl, SqL.of upd_same, rfl, _, (x : Nat), rfl, rfl, _, rfl, _, _, rfl, rfl, _, rfl, ?_⟩
        have e : (Pg.ins h ⟨t1, c1, some x, kk1, r1⟩ c) = ⟨t1.take c1 ++ c :: t1.drop c1, c1 + 1, if x + h < c1 + 1 then none else some x, kk1, r1⟩ := rfl
        refine if2 (fun c2 => ?_) (fun c2 => ?_)
        · have c3 := of_decide_eq_true c2
          refine ⟨_, rfl, q, _, 2, 2, rfl, rfl, upd_same, rfl, ?_⟩
          refine ⟨_, rfl, k1.trans (((Kp.refl.upd (by simp)).upd (by simp)).upd (by simp)), ?_⟩
          rw [e, if_pos (by omega)]
          exact upd_same
        · have c3 := of_decide_eq_false c2
          refine ⟨_, rfl, k1.trans ((Kp.refl.upd (by simp)).upd (by simp)), ?_⟩
          rw [e, if_neg (by omega)]
          exact upd_same
    · rintro σ H1 ⟨u, rfl, k1, P1⟩
      refine k H1 k1 ?_
      have e : xs.take (S xs).cps.size = xs := by simp [S]
      rw [e] at P1
      exact P1
def spLStops : Sp := fun vs H Q _ => ∃ (key a : Nat) (s : List Nat), vs = [.str (S [key]), .str (S s), .str (S [a])] ∧ a ∈ sgn ∧ Q (.bl (Pg.stops key s a)) H
theorem alnum_sgn : ∀ c ∈ sgn, Unicode.isAlnum c = decide (c ∈ wsg) := by decide +kernel
abbrev s_lstops : Stmt := top 33
theorem sc_lstops : FnScope ["_law_key_here", "_law_sign", "_law_ahead"] ["_law_key_here", "_law_sign", "_law_ahead"] (defScope s_lstops) := ⟨rfl, rfl, rfl, by decide +kernel, rfl, by decide +kernel, by decide +kernel⟩
theorem ok_lstops (T : TX K mg) {f : Addr} {fd : FuncData} (F : FunD K "_law_stops" "_law_stops" (defArgs s_lstops) (defBody s_lstops) (defScope s_lstops) [] [] f fd) : FnOk P w K mg base (CX P w) 1 f fd ["_law_key_here", "_law_sign", "_law_ahead"] spLStops := by
  refine F.ok sc_lstops (fun vs H Q E h => ?_) (fun cdv A outer s H vs Q E hr h => ?_)
  · obtain ⟨key, a, s, rfl, _⟩ := h
    rfl
  · obtain ⟨key, a, sg, rfl, ha, k⟩ := h
    refine ⟨_, (pss_cons (ps_if (pt_cmpR op_eqS (pv 0) (pe_strS [47] (by decide +kernel)) (nomark _)) (pss_one (ps_ret (pe_cmpR op_eqS (pv 2) (pv 1) (nomark _)))) pss_nil) (pss_cons (ps_if (pt_cmpR op_eqS (pv 0) (pe_strS [36] (by decide +kernel)) (nomark _)) (pss_one (ps_ret (pe_cmpR op_eqS (pv 2) (pe_strS [10] (by decide +kernel)) (nomark _)))) pss_nil) (pss_one (ps_ret (pe_cmpR op_eq (pe_m0 PySem.F.slot_str_isalnum PySem.F.type_str_isalnum mt_alnum1 (pv 2)) (pe_cmpR op_eqS (pv 0) (pe_strS [110] (by decide +kernel)) (nomark _)) (nomark _)))))), ?_⟩
    unfold Pg.stops at k
    refine ⟨_, rfl, _, _, rfl, rfl, _, rfl, ?_⟩
    refine if2 (fun c => ?_) (fun c => ?_)
    · have c1 : [key] = [47] := of_decide_eq_true c
      simp at c1
      rw [if_pos c1] at k
      exact ⟨_, rfl, _, rfl, _, _, rfl, rfl, k⟩
    have c1 : ¬ [key] = [47] := of_decide_eq_false c
    simp at c1
    rw [if_neg c1] at k
    refine ⟨_, rfl, _, _, rfl, rfl, _, rfl, ?_⟩
    refine if2 (fun c => ?_) (fun c => ?_)
    · have c2 : [key] = [36] := of_decide_eq_true c
      simp at c2
      rw [if_pos c2] at k
      refine ⟨_, rfl, _, _, rfl, rfl, ?_⟩
      have e : decide ([a] = [10]) = decide (a = 10) := by simp
      show Q (.bl (decide ([a] = [10]))) H
      rw [e]
      exact k
    have c2 : ¬ [key] = [36] := of_decide_eq_false c
    simp at c2
    rw [if_neg c2] at k
    refine ⟨_, rfl, ⟨_, rfl⟩, a, rfl, rfl, _, rfl, _, _, rfl, rfl, rfl, ?_⟩
    show Q (.bl (decide (V.bl _ = V.bl (decide ([key] = [110]))))) H
    rw [dB, alnum_sgn a ha]
    have e : decide (decide (a ∈ wsg) = decide ([key] = [110])) = (decide (a ∈ wsg) == decide (key = 110)) := by
      have e1 : decide ([key] = [110]) = decide (key = 110) := by simp
      rw [e1]
      cases decide (a ∈ wsg) <;> cases decide (key = 110) <;> rfl
    rw [e]
    exact k
def spLMarked : Sp := fun vs H Q _ => ∃ (q : Addr) (g : Pg) (h key : Nat), vs = [.ref q, .int (h : Nat), .str (S [key])] ∧ key ∈ [98, 107, 99] ∧ DueAt H q g ∧ PgOk h g ∧ g.t.length ≤ 40000 ∧ ∀ H', Kp [q] H H' → DueAt H' q (g.useMark h key).2 → Q (.bl (g.useMark h key).1) H'
abbrev s_lmarked : Stmt := top 34
theorem sc_lmarked : FnScope ["_law_page", "_law_hold", "_law_key_here", "_law_piece"] ["_law_page", "_law_hold", "_law_key_here"] (defScope s_lmarked) := ⟨rfl, rfl, rfl, by decide +kernel, rfl, by decide +kernel, by decide +kernel⟩
theorem ok_lmarked (T : TX K mg) {f : Addr} {fd : FuncData} (F : FunD K "_law_marked" "_law_marked" (defArgs s_lmarked) (defBody s_lmarked) (defScope s_lmarked) [] [] f fd) : FnOk P w K mg base (CX P w) 1 f fd ["_law_page", "_law_hold", "_law_key_here"] spLMarked := by
  refine F.ok sc_lmarked (fun vs H Q E h => ?_) (fun cdv A outer s H vs Q E hr h => ?_)
  · obtain ⟨q, g, h, key, rfl, _⟩ := h
    rfl
  · obtain ⟨q, g, h, key, rfl, hkey, hq, o, hl, k⟩ := h
    refine ⟨_, (pss_cons (ps_if (pt_cmpR op_isN (pe_ix ix_list (pv 0) pe_int (fun _ _ => rfl)) pe_non (nomark _)) (pss_one (ps_ret pe_bl)) pss_nil) (pss_cons (ps_set (i := 3) sc_lmarked.nd rfl (Or.inl rfl) (pe_slice sl_S (pe_ix ix_list (pv 0) pe_int (fun _ _ => rfl)) (po_some (pe_ix ix_list (pv 0) pe_int (fun _ _ => rfl))) (po_some (pe_ix ix_list (pv 0) pe_int (fun _ _ => rfl))))) (pss_cons (ps_if (pt_cmpR op_eqS (pv 2) (pe_strS [98] (by decide +kernel)) (nomark _)) (pss_cons (ps_if (pt_cmpR op_gt (pe_op op_add (pe_callB call_lenS (by rfl) T.b_len PySem.boot_len (pa_cons (pv 3) pa_nil)) (pe_ix ix_list (pv 0) pe_int (fun _ _ => rfl))) (pv 1) (nomark _)) (pss_one (ps_ret pe_bl)) pss_nil) (pss_cons (ps_asg (pe_op op_add (pe_ix ix_list (pv 0) pe_int (fun _ _ => rfl)) (pe_callB call_lenS (by rfl) T.b_len PySem.boot_len (pa_cons (pv 3) pa_nil))) (pg_sub (pv 0) pe_int set_list)) (pss_cons (ps_asg (pe_ix ix_list (pv 0) pe_int (fun _ _ => rfl)) (pg_sub (pv 0) pe_int set_list)) (pss_one (ps_ret pe_bl))))) pss_nil) (pss_cons (ps_asg (pv 3) (pg_sub (pv 0) pe_int set_list)) (C8.pss_cut (ps_if (pt_cmpR op_eqS (pv 2) (pe_strS [99] (by decide +kernel)) (nomark _)) (pss_cons (ps_asg (pe_op op_addS (pe_slice sl_S (pe_ix ix_list (pv 0) pe_int (fun _ _ => rfl)) po_none (po_some (pe_ix ix_list (pv 0) pe_int (fun _ _ => rfl)))) (pe_slice sl_S (pe_ix ix_list (pv 0) pe_int (fun _ _ => rfl)) (po_some (pe_ix ix_list (pv 0) pe_int (fun _ _ => rfl))) po_none)) (pg_sub (pv 0) pe_int set_list)) (pss_one (ps_asg (pe_ix ix_list (pv 0) pe_int (fun _ _ => rfl)) (pg_sub (pv 0) pe_int set_list)))) pss_nil) (pss_one (ps_ret pe_bl))))))), ?_⟩
    unfold DueAt at hq
    unfold Pg.useMark at k
    have hc := o.c
    have hk := o.k
    refine ⟨_, rfl, q, _, 2, _, rfl, rfl, SqL.of hq, rfl, rfl, _, rfl, ?_⟩
    cases hm : g.m with
    | none =>
      rw [hm] at k
      refine ift (by rfl) ?_
      exact k H Kp.refl hq
    | some x =>
      have hmx := o.m x hm
      rw [hm] at k
      simp only at k
      refine iff' (by rfl) ?_
      have el : ((g.t.take g.c).drop x).length = g.c - x := by simp; omega
      have hq0 := hq
      unfold dl at hq
      rw [hm] at hq
      refine ⟨_, rfl, q, _, 0, _, rfl, rfl, SqL.of hq, rfl, _, rfl, q, _, 2, _, rfl, rfl, SqL.of hq, rfl, (x : Nat), rfl, _, rfl, q, _, 1, _, rfl, rfl, SqL.of hq, rfl, _, rfl, _, rfl, by omega, Int.natCast_nonneg _, Int.natCast_nonneg _, ?_⟩
      rw [cutL_mid]
      refine ⟨_, rfl, _, _, rfl, rfl, _, rfl, ?_⟩
      refine if2 (fun c => ?_) (fun c => ?_)
      · have hc1 : [key] = [98] := of_decide_eq_true c
        simp at hc1
        rw [if_pos hc1] at k
        refine ⟨_, rfl, _, rfl, by omega, _, rfl, q, _, 4, _, rfl, rfl, SqL.of hq, rfl, _, _, rfl, rfl, _, rfl, _, _, rfl, rfl, _, rfl, ?_⟩
        refine if2 (fun c => ?_) (fun c => ?_)
        · have hc2 := of_decide_eq_true c
          have hc3 : g.c - x + g.r > h := by omega
          rw [if_pos hc3] at k
          exact k H Kp.refl hq0
        · have hc2 := of_decide_eq_false c
          have hc3 : ¬ (g.c - x + g.r > h) := by omega
          rw [if_neg hc3] at k
          refine ⟨_, rfl, q, _, 4, _, rfl, rfl, SqL.of hq, rfl, _, rfl, _, rfl, by omega, _, _, rfl, rfl, _, rfl, q, _, 4, 4, rfl, rfl, hq, rfl, ?_⟩
          refine ⟨_, rfl, q, _, 2, _, rfl, rfl, SqL.of upd_same, rfl, _, rfl, q, _, 1, 1, rfl, rfl, upd_same, rfl, ?_⟩
          refine k _ ((Kp.refl.upd (by simp)).upd (by simp)) ?_
          show upd _ _ _ _ = some (.lst [.str (S g.t), .int (x : Nat), mV (some x), .str (S g.k), .int (g.r + (g.c - x) : Nat)])
          rw [upd_same, el]
          rfl
      · have hc1 : ¬ [key] = [98] := of_decide_eq_false c
        simp at hc1
        rw [if_neg hc1] at k
        refine ⟨_, rfl, _, rfl, q, _, 3, 3, rfl, rfl, hq, rfl, ?_⟩
        refine ⟨fun σ' H' => Q (.bl true) H', ?_, fun σ' H' z => z⟩
        refine ⟨_, rfl, _, _, rfl, rfl, _, rfl, ?_⟩
        refine if2 (fun c => ?_) (fun c => ?_)
        · have hc2 : [key] = [99] := of_decide_eq_true c
          simp at hc2
          rw [if_pos hc2] at k
          refine ⟨_, rfl, q, _, 0, _, rfl, rfl, SqL.of upd_same, rfl, _, rfl, q, _, 2, _, rfl, rfl, SqL.of upd_same, rfl, (x : Nat), rfl, _, rfl, by omega, trivial, Int.natCast_nonneg _, ?_⟩
          rw [cutL_to]
          refine ⟨_, rfl, q, _, 0, _, rfl, rfl, SqL.of upd_same, rfl, _, rfl, q, _, 1, _, rfl, rfl, SqL.of upd_same, rfl, _, rfl, _, rfl, by omega, Int.natCast_nonneg _, trivial, ?_⟩
          rw [cutL_from]
          refine ⟨_, _, rfl, rfl, by simp; omega, _, rfl, q, _, 0, 0, rfl, rfl, upd_same, rfl, ?_⟩
          refine ⟨_, rfl, q, _, 2, _, rfl, rfl, SqL.of upd_same, rfl, _, rfl, q, _, 1, 1, rfl, rfl, upd_same, rfl, ?_⟩
          exact k _ (((Kp.refl.upd (by simp)).upd (by simp)).upd (by simp)) upd_same
        · have hc2 : ¬ [key] = [99] := of_decide_eq_false c
          simp at hc2
          rw [if_neg hc2] at k
          exact k _ (Kp.refl.upd (by simp)) upd_same
def spLKey : Sp := fun vs H Q _ => ∃ (b l : Addr) (sg : List Nat), vs = [.ref b, .str (S sg)] ∧ Box H b l ∧ sg ≠ [] ∧ sg.length ≤ 1000 ∧ (∀ a ∈ sg, a ∈ sgn) ∧ ∀ (H' : Hp) (key : Nat) (s : List Nat), Kp [b, l] H H' → Box H' b l → vk key s → Q (.str (S (key :: s))) H'
abbrev s_lkey : Stmt := top 30
theorem sc_lkey : FnScope ["_law_box_here", "_law_signs_here", "_law_choice"] ["_law_box_here", "_law_signs_here"] (defScope s_lkey) := ⟨rfl, rfl, rfl, by decide +kernel, rfl, by decide +kernel, by decide +kernel⟩
theorem ok_lkey (T : TX K mg) (c__law_take : KCal P w K mg base 1 "_law_take" spTake []) {f : Addr} {fd : FuncData} (F : FunD K "_law_key" "_law_key" (defArgs s_lkey) (defBody s_lkey) (defScope s_lkey) [] [] f fd) : FnOk P w K mg base (CX P w) 2 f fd ["_law_box_here", "_law_signs_here"] spLKey := by
  refine F.ok sc_lkey (fun vs H Q E h => ?_) (fun cdv A outer s H vs Q E hr h => ?_)
  · obtain ⟨b, l, sg, rfl, _⟩ := h
    rfl
  · obtain ⟨b, l, sg, rfl, B, hne, hsl, hss, k⟩ := h
    refine ⟨_, (pss_cons (ps_set (i := 2) sc_lkey.nd rfl (Or.inl rfl) (kc c__law_take hr (by decide) rfl (pa_cons (pv 0) (pa_cons pe_int pa_nil)))) (pss_cons (ps_if (pt_cmpR op_lt (pv 2) pe_int (nomark _)) (pss_one (ps_ret (pe_ix ix_S (pe_strS [62, 120, 119, 110, 36, 94, 109, 98, 107, 99, 112] (by decide +kernel)) (pv 2) (fun _ _ => rfl)))) pss_nil) (pss_one (ps_ret (pe_op op_addS (pe_ix ix_S (pe_strS [39, 61, 47] (by decide +kernel)) (pe_op op_mod (pv 2) pe_int) (fun _ _ => rfl)) (pe_ix ix_S (pv 1) (kc c__law_take hr (by decide) rfl (pa_cons (pv 0) (pa_cons (pe_callB call_lenS (by rfl) T.b_len PySem.boot_len (pa_cons (pv 1) pa_nil)) pa_nil))) (fun _ _ => rfl))))))), ?_⟩
    refine ⟨_, rfl, b, l, 17, rfl, B, by decide, by decide, fun H1 r k1 B1 r0 r1 => ?_⟩
    refine ⟨_, rfl, _, _, rfl, rfl, _, rfl, ?_⟩
    refine if2 (fun c => ?_) (fun c => ?_)
    · have c1 : r < 11 := of_decide_eq_true c
      have hr' : r.toNat < pk.length := by show r.toNat < 11; omega
      refine ⟨_, rfl, _, _, _, rfl, rfl, by decide, r0, List.getElem?_eq_getElem hr', ?_⟩
      exact k H1 _ [] k1 B1 (.inl ⟨List.getElem_mem hr', rfl⟩)
    · have c1 : ¬ r < 11 := of_decide_eq_false c
      have h3 : 0 ≤ r % 3 ∧ r % 3 < 3 := ⟨Int.emod_nonneg _ (by decide), Int.emod_lt_of_pos _ (by decide)⟩
      have hr' : (r % 3).toNat < sk.length := by show (r % 3).toNat < 3; omega
      refine ⟨_, rfl, _, _, rfl, rfl, (show (0 : Int) < 3 by decide), _, _, _, rfl, rfl, by decide, h3.1, List.getElem?_eq_getElem hr', ?_⟩
      have hp := List.length_pos_iff.mpr hne
      refine ⟨_, rfl, _, rfl, _, rfl, _, rfl, by omega, b, l, (sg.length : Int), rfl, B1, by omega, by omega, fun H2 x k2 B2 x0 x1 => ?_⟩
      have hx : x.toNat < sg.length := by omega
      refine ⟨_, _, _, rfl, rfl, by omega, x0, List.getElem?_eq_getElem hx, _, _, rfl, rfl, by simp, ?_⟩
      exact k H2 _ [sg[x.toNat]] (k1.trans k2) B2 (.inr ⟨List.getElem_mem hr', _, hss _ (List.getElem_mem hx), rfl⟩)
def spLPress : Sp := fun vs H Q _ => ∃ (q : Addr) (g : Pg) (h key : Nat) (s : List Nat), vs = [.ref q, .int (h : Nat), .str (S [key]), .str (S s)] ∧ vk key s ∧ DueAt H q g ∧ PgOk h g ∧ g.t.length ≤ 40000 ∧ ∀ H', Kp [q] H H' → DueAt H' q (g.act h key s).2 → Q (.bl (g.act h key s).1) H'
theorem DueAt.keep {H H' : Hp} {S : List Addr} {q : Addr} {g : Pg} (a : DueAt H q g) (k : Kp S H H') (hq : q ∉ S) : DueAt H' q g := k q _ hq a
abbrev s_lpress : Stmt := top 35
theorem sc_lpress : FnScope ["_law_page", "_law_hold", "_law_key_here", "_law_sign", "_law_ahead", "_law_piece"] ["_law_page", "_law_hold", "_law_key_here", "_law_sign"] (defScope s_lpress) := ⟨rfl, rfl, rfl, by decide +kernel, rfl, by decide +kernel, by decide +kernel⟩
theorem ok_lpress (T : TX K mg) (c__law_insert : KCal P w K mg base 1 "_law_insert" spLIns []) (c__law_pass : KCal P w K mg base 1 "_law_pass" (spLTurn Pg.pass) []) (c__law_stops : KCal P w K mg base 1 "_law_stops" spLStops []) (c__law_marked : KCal P w K mg base 1 "_law_marked" spLMarked []) {f : Addr} {fd : FuncData} (F : FunD K "_law_press" "_law_press" (defArgs s_lpress) (defBody s_lpress) (defScope s_lpress) [] [] f fd) : FnOk P w K mg base (CX P w) 2 f fd ["_law_page", "_law_hold", "_law_key_here", "_law_sign"] spLPress := by
  refine F.ok sc_lpress (fun vs H Q E h => ?_) (fun cdv A outer s H vs Q E hr h => ?_)
  · obtain ⟨q, g, h, key, s, rfl, _⟩ := h
    rfl
  · obtain ⟨q, g, h, key, sg, rfl, hv, hq, o, hl, k⟩ := h
    refine ⟨_, (pss_cons (ps_set (i := 4) sc_lpress.nd rfl (Or.inl rfl) (pe_slice sl_S (pe_ix ix_list (pv 0) pe_int (fun _ _ => rfl)) (po_some (pe_ix ix_list (pv 0) pe_int (fun _ _ => rfl))) (po_some (pe_op op_add (pe_ix ix_list (pv 0) pe_int (fun _ _ => rfl)) pe_int)))) (pss_cons (ps_if (pt_cmpR op_inS (pv 2) (pe_strS [47, 119, 110, 36] (by decide +kernel)) rfl) (pss_cons (ps_while (passes_of rfl) (PW.pt (pw_and (pt_cmpR op_lt (pe_ix ix_list (pv 0) pe_int (fun _ _ => rfl)) (pe_callB call_lenS (by rfl) T.b_len PySem.boot_len (pa_cons (pe_ix ix_list (pv 0) pe_int (fun _ _ => rfl)) pa_nil)) (nomark _)) (pw_and1 (pt_not (pt_val (kc c__law_stops hr (by decide) rfl (pa_cons (pv 2) (pa_cons (pv 3) (pa_cons (pe_ix ix_S (pe_ix ix_list (pv 0) pe_int (fun _ _ => rfl)) (pe_ix ix_list (pv 0) pe_int (fun _ _ => rfl)) (fun _ _ => rfl)) pa_nil))))))))) (pss_one (ps_expr (kc c__law_pass hr (by decide) rfl (pa_cons (pv 0) (pa_cons (pv 1) pa_nil)))))) (pss_one (ps_ret (pe_or (pe_cmpR op_lt (pe_ix ix_list (pv 0) pe_int (fun _ _ => rfl)) (pe_callB call_lenS (by rfl) T.b_len PySem.boot_len (pa_cons (pe_ix ix_list (pv 0) pe_int (fun _ _ => rfl)) pa_nil)) (nomark _)) (pe_one (pe_cmpR op_inS (pv 2) (pe_strS [119, 36] (by decide +kernel)) rfl)))))) pss_nil) (pss_cons (ps_if (pt_cmpR op_inS (pv 2) (pe_strS [98, 107, 99] (by decide +kernel)) rfl) (pss_one (ps_ret (kc c__law_marked hr (by decide) rfl (pa_cons (pv 0) (pa_cons (pv 1) (pa_cons (pv 2) pa_nil)))))) pss_nil) (C8.pss_cut (ps_if (PW.pt (pw_and (pt_cmpR op_eqS (pv 2) (pe_strS [62] (by decide +kernel)) (nomark _)) (pw_and1 (pt_cmpR op_neS (pv 4) (pe_strS [] (by decide +kernel)) (nomark _))))) (pss_one (ps_expr (kc c__law_pass hr (by decide) rfl (pa_cons (pv 0) (pa_cons (pv 1) pa_nil))))) pss_nil) (C8.pss_cut (ps_if (PW.pt (pw_and (pt_cmpR op_eqS (pv 2) (pe_strS [120] (by decide +kernel)) (nomark _)) (pw_and1 (pt_cmpR op_neS (pv 4) (pe_strS [] (by decide +kernel)) (nomark _))))) (pss_cons (ps_asg (pe_op op_addS (pe_slice sl_S (pe_ix ix_list (pv 0) pe_int (fun _ _ => rfl)) po_none (po_some (pe_ix ix_list (pv 0) pe_int (fun _ _ => rfl)))) (pe_slice sl_S (pe_ix ix_list (pv 0) pe_int (fun _ _ => rfl)) (po_some (pe_op op_add (pe_ix ix_list (pv 0) pe_int (fun _ _ => rfl)) pe_int)) po_none)) (pg_sub (pv 0) pe_int set_list)) (pss_one (ps_asg (pe_callB (call_max2 rfl) (by rfl) T.b_max (by decide +kernel) (pa_cons pe_int (pa_cons (pe_op op_sub (pe_ix ix_list (pv 0) pe_int (fun _ _ => rfl)) pe_int) pa_nil))) (pg_sub (pv 0) pe_int set_list)))) pss_nil) (pss_cons (ps_if (pt_cmpR op_inS (pv 2) (pe_strS [62, 120] (by decide +kernel)) rfl) (pss_one (ps_ret (pe_cmpR op_neS (pv 4) (pe_strS [] (by decide +kernel)) (nomark _)))) pss_nil) (pss_cons (ps_if (pt_cmpR op_eqS (pv 2) (pe_strS [61] (by decide +kernel)) (nomark _)) (pss_one (ps_ret (pe_cmpR op_eqS (pv 4) (pv 3) (nomark _)))) pss_nil) (pss_cons (ps_if (pt_cmpR op_eqS (pv 2) (pe_strS [94] (by decide +kernel)) (nomark _)) (pss_one (ps_ret (pe_or (pe_cmpR op_eq (pe_ix ix_list (pv 0) pe_int (fun _ _ => rfl)) pe_int (nomark _)) (pe_one (pe_cmpR op_eqS (pe_ix ix_S (pe_ix ix_list (pv 0) pe_int (fun _ _ => rfl)) (pe_op op_sub (pe_ix ix_list (pv 0) pe_int (fun _ _ => rfl)) pe_int) (fun _ _ => rfl)) (pe_strS [10] (by decide +kernel)) (nomark _)))))) pss_nil) (pss_cons (ps_if (pt_cmpR op_eqS (pv 2) (pe_strS [109] (by decide +kernel)) (nomark _)) (pss_cons (ps_asg (pe_ix ix_list (pv 0) pe_int (fun _ _ => rfl)) (pg_sub (pv 0) pe_int set_list)) (pss_one (ps_ret pe_bl))) pss_nil) (pss_cons (ps_set (i := 5) sc_lpress.nd rfl (Or.inl rfl) (pv 3)) (C8.pss_cut (ps_if (pt_cmpR op_eqS (pv 2) (pe_strS [112] (by decide +kernel)) (nomark _)) (pss_one (ps_set (i := 5) sc_lpress.nd rfl (Or.inl rfl) (pe_ix ix_list (pv 0) pe_int (fun _ _ => rfl)))) pss_nil) (pss_cons (ps_expr (kc c__law_insert hr (by decide) rfl (pa_cons (pv 0) (pa_cons (pv 1) (pa_cons (pv 5) pa_nil))))) (pss_one (ps_ret (pe_cmpR op_neS (pv 5) (pe_strS [] (by decide +kernel)) (nomark _)))))))))))))))), ?_⟩
    have hc := o.c
    have hks := o.k
    have hb4 := o.hb
    have hq0 := hq
    unfold DueAt dl at hq
    unfold Pg.act at k
    refine ⟨_, rfl, q, _, 0, _, rfl, rfl, SqL.of hq, rfl, _, rfl, q, _, 1, _, rfl, rfl, SqL.of hq, rfl, _, rfl, _, rfl, q, _, 1, _, rfl, rfl, SqL.of hq, rfl, _, _, rfl, rfl, _, rfl, _, rfl, by omega, Int.natCast_nonneg _, (by show (0 : Int) ≤ _; omega), ?_⟩
    rw [ahead_eq]
    refine ⟨_, rfl, _, _, rfl, rfl, _, rfl, ?_⟩
    refine if2 (fun c => ?_) (fun c => ?_)
    · have c1 : key ∈ [47, 119, 110, 36] := of_decide_eq_true c
      rw [if_pos c1] at k
      refine ⟨fun m σ' H' => ∃ (g1 : Pg) (n : Nat), σ' = [some (.ref q), some (.int (h : Nat)), some (.str (S [key])), some (.str (S sg)), some (.str (S g.ahead)), none] ∧ Kp [q] H H' ∧ DueAt H' q g1 ∧ PgOk h g1 ∧ g1.t = g.t ∧ m = g.t.length - g1.c ∧ g.t.length - g1.c < n ∧ g1.travel h key sg n = g.travel h key sg (g.t.length + 1), ⟨_, g, g.t.length + 1, rfl, Kp.refl, hq0, o, rfl, rfl, by omega, rfl⟩, ?_⟩
      rintro m σ' H1 ⟨g1, n, rfl, k1, hq1, o1, et, em, hn, er⟩
      have hl1 : g1.t.length ≤ 40000 := by rw [et]; exact hl
      have hc1 := o1.c
      have hq2 := hq1
      unfold DueAt dl at hq2
      refine ⟨_, rfl, q, _, 1, _, rfl, rfl, SqL.of hq2, rfl, _, rfl, q, _, 0, _, rfl, rfl, SqL.of hq2, rfl, _, rfl, by omega, _, _, rfl, rfl, _, rfl, ?_⟩
      refine if2 (fun c => ?_) (fun c => ?_)
      · have c2 := of_decide_eq_true c
        have hi : g1.c < g1.t.length := by omega
        have ea : g1.t[g1.c]? = some g1.t[g1.c] := List.getElem?_eq_getElem hi
        have ha := o1.ts _ (List.getElem_mem hi)
        generalize g1.t[g1.c] = a at ea ha
        refine ⟨_, rfl, _, rfl, _, rfl, q, _, 0, _, rfl, rfl, SqL.of hq2, rfl, _, rfl, q, _, 1, _, rfl, rfl, SqL.of hq2, rfl, _, _, a, rfl, rfl, by omega, Int.natCast_nonneg _, ea, key, a, sg, rfl, ha, _, rfl, ?_⟩
        obtain ⟨n, rfl⟩ : ∃ n', n = n' + 1 := ⟨n - 1, by omega⟩
        refine if2 (fun c => ?_) (fun c => ?_)
        · have hs : Pg.stops key sg a = false := by simpa using c
          refine ⟨fun σ' H' => ∃ (g1 : Pg) (n : Nat), σ' = [some (.ref q), some (.int (h : Nat)), some (.str (S [key])), some (.str (S sg)), some (.str (S g.ahead)), none] ∧ Kp [q] H H' ∧ DueAt H' q g1 ∧ PgOk h g1 ∧ g1.t = g.t ∧ g.t.length - g1.c < m ∧ g.t.length - g1.c < n ∧ g1.travel h key sg n = g.travel h key sg (g.t.length + 1), ?_, ?_⟩
          · rintro σ' H' ⟨g2, n2, e1, e2, e3, e4, e5, e6, e7, e8⟩
            exact ⟨_, e6, g2, n2, e1, e2, e3, e4, e5, rfl, e7, e8⟩
          refine ⟨_, rfl, _, rfl, q, g1, h, rfl, hq1, fun H2 k2 P2 => ?_⟩
          rw [travel_pass ea hs] at er
          have ec : (g1.pass h).c = g1.c + 1 := rfl
          rw [et] at hi
          exact ⟨_, n, rfl, k1.trans k2, P2, pass_ok o1 (by rw [et]; exact hi), et, by omega, by omega, er⟩
        · have hs : Pg.stops key sg a = true := by simpa using c
          rw [travel_stop ea hs] at er
          have k' := k H1 k1
          rw [← er] at k'
          refine ⟨_, rfl, q, _, 1, _, rfl, rfl, SqL.of hq2, rfl, _, rfl, q, _, 0, _, rfl, rfl, SqL.of hq2, rfl, _, rfl, by omega, _, _, rfl, rfl, _, rfl, ?_⟩
          refine ift (decide_eq_true (by omega)) ?_
          exact k' hq1
      · have c2 := of_decide_eq_false c
        have ea : g1.t[g1.c]? = none := List.getElem?_eq_none_iff.mpr (by omega)
        rw [travel_none ea] at er
        have k' := k H1 k1
        rw [← er] at k'
        refine iff' rfl ?_
        refine ⟨_, rfl, q, _, 1, _, rfl, rfl, SqL.of hq2, rfl, _, rfl, q, _, 0, _, rfl, rfl, SqL.of hq2, rfl, _, rfl, by omega, _, _, rfl, rfl, _, rfl, ?_⟩
        refine iff' (decide_eq_false (by omega)) ?_
        exact ⟨_, rfl, _, _, rfl, rfl, k' hq1⟩
    have c1 : ¬ key ∈ [47, 119, 110, 36] := of_decide_eq_false c
    rw [if_neg c1] at k
    refine ⟨_, rfl, _, _, rfl, rfl, _, rfl, ?_⟩
    refine if2 (fun c => ?_) (fun c => ?_)
    · have c2 : key ∈ [98, 107, 99] := of_decide_eq_true c
      rw [if_pos c2] at k
      exact ⟨_, rfl, _, rfl, _, rfl, q, g, h, key, rfl, c2, hq0, o, hl, k⟩
    have c2 : ¬ key ∈ [98, 107, 99] := of_decide_eq_false c
    rw [if_neg c2] at k
    -- step and delete
    refine ⟨fun σ' H' => σ' = [some (.ref q), some (.int (h : Nat)), some (.str (S [key])), some (.str (S sg)), some (.str (S g.ahead)), none] ∧ Kp [q] H H' ∧ DueAt H' q (if key = 62 ∧ g.ahead ≠ [] then g.pass h else g), ?_, ?_⟩
    · refine ⟨_, rfl, _, _, rfl, rfl, _, rfl, ?_⟩
      refine if2 (fun c => ?_) (fun c => ?_)
      · have c3 : [key] = [62] := of_decide_eq_true c
        simp at c3
        refine ⟨_, rfl, _, _, rfl, rfl, _, rfl, ?_⟩
        refine if2 (fun c => ?_) (fun c => ?_)
        · have c4 : ¬ g.ahead = [] := by simpa using c
          refine ⟨_, rfl, _, rfl, q, g, h, rfl, hq0, fun H1 k1 P1 => ⟨rfl, k1, ?_⟩⟩
          rw [if_pos ⟨c3, c4⟩]
          exact P1
        · have c4 : g.ahead = [] := by simpa using c
          refine ⟨rfl, Kp.refl, ?_⟩
          rw [if_neg (fun z => z.2 c4)]
          exact hq0
      · have c3 : ¬ [key] = [62] := of_decide_eq_false c
        simp at c3
        refine iff' rfl ?_
        refine ⟨rfl, Kp.refl, ?_⟩
        rw [if_neg (fun z => c3 z.1)]
        exact hq0
    rintro σ' H1 ⟨rfl, k1, hq1⟩
    refine ⟨fun σ' H' => σ' = [some (.ref q), some (.int (h : Nat)), some (.str (S [key])), some (.str (S sg)), some (.str (S g.ahead)), none] ∧ Kp [q] H H' ∧ DueAt H' q (if key ∈ [62, 120] then (g.takeOne h key).2 else g), ?_, ?_⟩
    · refine ⟨_, rfl, _, _, rfl, rfl, _, rfl, ?_⟩
      refine if2 (fun c => ?_) (fun c => ?_)
      · have c3 : [key] = [120] := of_decide_eq_true c
        simp at c3
        subst c3
        rw [if_neg (fun z => absurd z.1 (by decide))] at hq1
        rw [if_pos (by decide)]
        unfold Pg.takeOne
        refine ⟨_, rfl, _, _, rfl, rfl, _, rfl, ?_⟩
        refine if2 (fun c => ?_) (fun c => ?_)
        · have c4 : ¬ g.ahead = [] := by simpa using c
          rw [if_neg c4, if_neg (by decide)]
          have hq2 := hq1
          unfold DueAt dl at hq2
          refine ⟨_, rfl, q, _, 0, _, rfl, rfl, SqL.of hq2, rfl, _, rfl, q, _, 1, _, rfl, rfl, SqL.of hq2, rfl, _, rfl, _, rfl, by omega, trivial, Int.natCast_nonneg _, ?_⟩
          rw [cutL_to]
          refine ⟨_, rfl, q, _, 0, _, rfl, rfl, SqL.of hq2, rfl, _, rfl, q, _, 1, _, rfl, rfl, SqL.of hq2, rfl, _, _, rfl, rfl, _, rfl, _, rfl, by omega, (by show (0 : Int) ≤ _; omega), trivial, ?_⟩
          have e : ((g.c : Nat) : Int) + 1 = ((g.c + 1 : Nat) : Int) := by omega
          rw [e, cutL_from]
          refine ⟨_, _, rfl, rfl, by simp; omega, _, rfl, q, _, 0, 0, rfl, rfl, hq2, rfl, ?_⟩
          refine ⟨_, rfl, q, _, 4, _, rfl, rfl, SqL.of upd_same, rfl, _, _, rfl, rfl, _, _, rfl, _, rfl, q, _, 4, 4, rfl, rfl, upd_same, rfl, ?_⟩
          rw [max0]
          exact ⟨rfl, k1.trans ((Kp.refl.upd (by simp)).upd (by simp)), upd_same⟩
        · have c4 : g.ahead = [] := by simpa using c
          rw [if_pos c4]
          exact ⟨rfl, k1, hq1⟩
      · have c3 : ¬ [key] = [120] := of_decide_eq_false c
        simp at c3
        refine iff' rfl ?_
        refine ⟨rfl, k1, ?_⟩
        by_cases c4 : key = 62
        · subst c4
          rw [if_pos (by decide)]
          unfold Pg.takeOne
          by_cases c5 : g.ahead = []
          · rw [if_pos c5]
            rw [if_neg (fun z => z.2 c5)] at hq1
            exact hq1
          · rw [if_neg c5, if_pos rfl]
            rw [if_pos ⟨rfl, c5⟩] at hq1
            exact hq1
        · rw [if_neg (by simp [c3, c4])]
          rw [if_neg (fun z => c4 z.1)] at hq1
          exact hq1
    rintro σ' H2 ⟨rfl, k2, hq2⟩
    refine ⟨_, rfl, _, _, rfl, rfl, _, rfl, ?_⟩
    refine if2 (fun c => ?_) (fun c => ?_)
    · have c3 : key ∈ [62, 120] := of_decide_eq_true c
      rw [if_pos c3] at k hq2
      refine ⟨_, rfl, _, _, rfl, rfl, ?_⟩
      have e : (g.takeOne h key).1 = (!decide (g.ahead = [])) := by
        unfold Pg.takeOne
        by_cases c5 : g.ahead = []
        · simp [c5]
        · rw [if_neg c5]
          split <;> simp [c5]
      have k' := k H2 k2 hq2
      rw [e] at k'
      exact k'
    have c3 : ¬ key ∈ [62, 120] := of_decide_eq_false c
    rw [if_neg c3] at k hq2
    refine ⟨_, rfl, _, _, rfl, rfl, _, rfl, ?_⟩
    refine if2 (fun c => ?_) (fun c => ?_)
    · have c4 : [key] = [61] := of_decide_eq_true c
      simp at c4
      rw [if_pos c4] at k
      exact ⟨_, rfl, _, rfl, _, _, rfl, rfl, k H2 k2 hq2⟩
    have c4 : ¬ [key] = [61] := of_decide_eq_false c
    simp at c4
    rw [if_neg c4] at k
    have hq3 := hq2
    unfold DueAt dl at hq3
    refine ⟨_, rfl, _, _, rfl, rfl, _, rfl, ?_⟩
    refine if2 (fun c => ?_) (fun c => ?_)
    · have c5 : [key] = [94] := of_decide_eq_true c
      simp at c5
      rw [if_pos c5] at k
      refine ⟨_, rfl, q, _, 1, _, rfl, rfl, SqL.of hq3, rfl, rfl, _, rfl, ?_⟩
      have k' := k H2 k2 hq2
      unfold Pg.fresh at k'
      by_cases c6 : g.c = 0
      · refine ift (by rw [dI]; simp [c6]) ?_
        simp [c6] at k'
        exact k'
      · refine iff' (by rw [dI]; simp; omega) ?_
        have hi : g.c - 1 < g.t.length := by omega
        have e1 : (((g.c : Nat) : Int) - 1).toNat = g.c - 1 := by omega
        refine ⟨_, rfl, q, _, 0, _, rfl, rfl, SqL.of hq3, rfl, _, rfl, q, _, 1, _, rfl, rfl, SqL.of hq3, rfl, _, _, rfl, rfl, _, _, g.t[g.c - 1], rfl, rfl, by omega, by omega, ?_, _, _, rfl, rfl, ?_⟩
        · rw [e1]; exact List.getElem?_eq_getElem hi
        · have e2 : (decide (g.c = 0) || g.t[g.c - 1]? == some 10) = decide ([g.t[g.c - 1]] = [10]) := by
            rw [List.getElem?_eq_getElem hi, decide_eq_false c6]
            by_cases q : g.t[g.c - 1] = 10 <;> simp [q]
          rw [e2] at k'
          exact k'
    have c5 : ¬ [key] = [94] := of_decide_eq_false c
    simp at c5
    rw [if_neg c5] at k
    refine ⟨_, rfl, _, _, rfl, rfl, _, rfl, ?_⟩
    refine if2 (fun c => ?_) (fun c => ?_)
    · have c6 : [key] = [109] := of_decide_eq_true c
      simp at c6
      rw [if_pos c6] at k
      refine ⟨_, rfl, q, _, 1, _, rfl, rfl, SqL.of hq3, rfl, _, rfl, q, _, 2, 2, rfl, rfl, hq3, rfl, ?_⟩
      exact k _ (k2.upd (by simp)) upd_same
    have c6 : ¬ [key] = [109] := of_decide_eq_false c
    simp at c6
    rw [if_neg c6] at k
    refine ⟨_, rfl, ?_⟩
    refine ⟨fun σ' H' => σ' = [some (.ref q), some (.int (h : Nat)), some (.str (S [key])), some (.str (S sg)), some (.str (S g.ahead)), some (.str (S (if key = 112 then g.k else sg)))] ∧ H' = H2, ?_, ?_⟩
    · refine ⟨_, rfl, _, _, rfl, rfl, _, rfl, ?_⟩
      refine if2 (fun c => ?_) (fun c => ?_)
      · have c7 : [key] = [112] := of_decide_eq_true c
        simp at c7
        rw [if_pos c7]
        exact ⟨_, rfl, q, _, 3, _, rfl, rfl, SqL.of hq3, rfl, rfl, rfl⟩
      · have c7 : ¬ [key] = [112] := of_decide_eq_false c
        simp at c7
        rw [if_neg c7]
        exact ⟨rfl, rfl⟩
    rintro σ' H3 ⟨rfl, rfl⟩
    have sl : sg.length ≤ 1 := by
      rcases hv with ⟨_, rfl⟩ | ⟨_, a, _, rfl⟩ <;> simp
    refine ⟨_, rfl, _, rfl, _, rfl, q, g, h, _, rfl, hq2, ?_, o.c, fun H4 k4 hq4 => ?_⟩
    · split <;> omega
    refine ⟨_, rfl, _, _, rfl, rfl, ?_⟩
    by_cases c7 : key = 39
    · rw [if_pos c7] at k
      have c8 : ¬ key = 112 := by omega
      rw [if_neg c8] at hq4
      have k' := k H4 (k2.trans k4) hq4
      have ne : sg ≠ [] := by
        rcases hv with ⟨h1, _⟩ | ⟨_, a, _, rfl⟩
        · subst c7; simp at h1
        · simp
      show Q (.bl (!decide ((if key = 112 then g.k else sg) = []))) H4
      rw [if_neg c8]
      have e : (!decide (sg = [])) = true := by simp [ne]
      rw [e]
      exact k'
    · rw [if_neg c7] at k
      have c8 : key = 112 := by
        rcases hv with ⟨h1, _⟩ | ⟨h1, _⟩
        · simp at h1 c1 c2 c3
          omega
        · simp at h1 c1
          omega
      rw [if_pos c8] at hq4
      have k' := k H4 (k2.trans k4) hq4
      show Q (.bl (!decide ((if key = 112 then g.k else sg) = []))) H4
      rw [if_pos c8]
      have e : (!decide (g.k = [])) = decide (g.k ≠ []) := by simp
      rw [e]
      exact k'
def spLSame (K : PySem.W.Frag) : Sp := fun vs H Q _ => ∃ (p q : Addr) (g : Pg) (h : Nat), vs = [.ref p, .ref q] ∧ PageAt K H p g h ∧ DueAt H q g ∧ PgOk h g ∧ g.t.length ≤ 40000 ∧ Q (.bl true) H
abbrev s_lsame : Stmt := top 36
theorem sc_lsame : FnScope ["_law_page", "_law_due"] ["_law_page", "_law_due"] (defScope s_lsame) := ⟨rfl, rfl, rfl, by decide +kernel, rfl, by decide +kernel, by decide +kernel⟩
theorem ok_lsame (T : TX K mg) (Z : TP K) (p_Page_spot : KPrp P w K mg base 1 (ga K "Page") "spot" (spSpot K)) (p_Page_fresh : KPrp P w K mg base 2 (ga K "Page") "fresh" (spFresh K)) (p_Page_held : KPrp P w K mg base 1 (ga K "Page") "held" (spHeld K)) {f : Addr} {fd : FuncData} (F : FunD K "_law_same_page" "_law_same_page" (defArgs s_lsame) (defBody s_lsame) (defScope s_lsame) [] [] f fd) : FnOk P w K mg base (CX P w) 4 f fd ["_law_page", "_law_due"] (spLSame K) := by
  refine F.ok sc_lsame (fun vs H Q E h => ?_) (fun cdv A outer s H vs Q E hr h => ?_)
  · obtain ⟨p, q, g, h, rfl, _⟩ := h
    rfl
  · obtain ⟨p, q, g, h, rfl, ⟨dx, hp⟩, hq, o, hl, k⟩ := h
    refine ⟨_, (pss_cons (ps_if (PW.pt (pw_or (pt_cmpR op_neS (pe_fld (pv 0) rfl) (pe_ix ix_list (pv 1) pe_int (fun _ _ => rfl)) (nomark _)) (pw_or (pt_cmpR op_ne (pe_fld (pv 0) rfl) (pe_ix ix_list (pv 1) pe_int (fun _ _ => rfl)) (nomark _)) (pw_or1 (pt_cmpR op_ne (kprop p_Page_spot hr (by decide) (pv 0)) (pe_ix ix_list (pv 1) pe_int (fun _ _ => rfl)) (nomark _)))))) (pss_one (ps_ret pe_bl)) pss_nil) (pss_cons (ps_if (PW.pt (pw_or (pt_cmpR op_ne (pe_fld (pv 0) rfl) (pe_ix ix_list (pv 1) pe_int (fun _ _ => rfl)) (nomark _)) (pw_or (pt_cmpR op_neS (pe_fld (pv 0) rfl) (pe_ix ix_list (pv 1) pe_int (fun _ _ => rfl)) (nomark _)) (pw_or1 (pt_cmpR op_ne (pe_fld (pv 0) rfl) (pe_ix ix_list (pv 1) pe_int (fun _ _ => rfl)) (nomark _)))))) (pss_one (ps_ret pe_bl)) pss_nil) (pss_cons (ps_if (PW.pt (pw_or (pt_val (pe_callB call_isi (by rfl) T.b_isinstance (by decide +kernel) (pa_cons (pe_fld (pv 0) rfl) (pa_cons (pe_bT "bool" T.b_bool (by rfl) (by decide +kernel)) pa_nil)))) (pw_or (pt_val (pe_callB call_isi (by rfl) T.b_isinstance (by decide +kernel) (pa_cons (pe_fld (pv 0) rfl) (pa_cons (pe_bT "bool" T.b_bool (by rfl) (by decide +kernel)) pa_nil)))) (pw_or1 (pt_val (pe_callB call_isi (by rfl) T.b_isinstance (by decide +kernel) (pa_cons (pe_fld (pv 0) rfl) (pa_cons (pe_bT "bool" T.b_bool (by rfl) (by decide +kernel)) pa_nil)))))))) (pss_one (ps_ret pe_bl)) pss_nil) (C8.pss_cut (ps_if (PW.pt (pw_and (pt_cmpR op_notBl (kprop p_Page_fresh hr (by decide) (pv 0)) pe_bl (nomark _)) (pw_and1 (pt_cmpR op_notBl (kprop p_Page_fresh hr (by decide) (pv 0)) pe_bl (nomark _))))) (pss_one (ps_ret pe_bl)) pss_nil) (C8.pss_cut (ps_if (pt_cmpR op_ne (kprop p_Page_fresh hr (by decide) (pv 0)) (pe_or (pe_cmpR op_eq (pe_ix ix_list (pv 1) pe_int (fun _ _ => rfl)) pe_int (nomark _)) (pe_one (pe_cmpR op_eqS (pe_ix ix_S (pe_ix ix_list (pv 1) pe_int (fun _ _ => rfl)) (pe_op op_sub (pe_ix ix_list (pv 1) pe_int (fun _ _ => rfl)) pe_int) (fun _ _ => rfl)) (pe_strS [10] (by decide +kernel)) (nomark _)))) (nomark _)) (pss_one (ps_ret pe_bl)) pss_nil) (pss_cons (ps_if (pt_cmpR op_isN (pe_ix ix_list (pv 1) pe_int (fun _ _ => rfl)) pe_non (nomark _)) (pss_one (ps_ret (pe_cmpR op_isN (kprop p_Page_held hr (by decide) (pv 0)) pe_non (nomark _)))) pss_nil) (pss_one (ps_ret (pe_cmpR op_eqS (kprop p_Page_held hr (by decide) (pv 0)) (pe_slice sl_S (pe_ix ix_list (pv 1) pe_int (fun _ _ => rfl)) (po_some (pe_ix ix_list (pv 1) pe_int (fun _ _ => rfl))) (po_some (pe_ix ix_list (pv 1) pe_int (fun _ _ => rfl)))) (nomark _)))))))))), ?_⟩
    have hc := o.c
    unfold DueAt dl at hq
    refine ⟨_, rfl, p, _, _, _, _, rfl, hp, Z.cl, Z.n_text, lk_text, _, rfl, q, _, 0, _, rfl, rfl, SqL.of hq, rfl, _, _, rfl, rfl, _, rfl, ?_⟩
    refine iff' (by simp) ?_
    refine ⟨_, rfl, p, _, _, _, _, rfl, hp, Z.cl, Z.n_caret, lk_caret, _, rfl, q, _, 1, _, rfl, rfl, SqL.of hq, rfl, rfl, _, rfl, ?_⟩
    refine iff' (by simp) ?_
    refine ⟨_, rfl, p, dx, _, rfl, hp, p, g, h, rfl, ⟨dx, hp⟩, _, rfl, q, _, 1, _, rfl, rfl, SqL.of hq, rfl, rfl, _, rfl, ?_⟩
    refine iff' (by simp) ?_
    refine ⟨_, rfl, p, _, _, _, _, rfl, hp, Z.cl, Z.n_mark, lk_mark, _, rfl, q, _, 2, _, rfl, rfl, SqL.of hq, rfl, ?_, _, rfl, ?_⟩
    · cases g.m <;> rfl
    refine iff' (by simp) ?_
    refine ⟨_, rfl, p, _, _, _, _, rfl, hp, Z.cl, Z.n_kept, lk_kept, _, rfl, q, _, 3, _, rfl, rfl, SqL.of hq, rfl, _, _, rfl, rfl, _, rfl, ?_⟩
    refine iff' (by simp) ?_
    refine ⟨_, rfl, p, _, _, _, _, rfl, hp, Z.cl, Z.n_returned, lk_returned, _, rfl, q, _, 4, _, rfl, rfl, SqL.of hq, rfl, rfl, _, rfl, ?_⟩
    refine iff' (by simp) ?_
    have tm : ∃ t, TyX K H (mV g.m) t ∧ PySem.W.kitOne K t (.type "bool") = some false := by
      cases g.m with
      | none => exact ⟨_, .base .non, kit_ty (by decide +kernel)⟩
      | some x => exact ⟨_, .base (.int _), kit_ty (by decide +kernel)⟩
    obtain ⟨tt, tm1, tm2⟩ := tm
    refine ⟨_, rfl, p, _, _, _, _, rfl, hp, Z.cl, Z.n_mark, lk_mark, _, _, tt, _, false, rfl, .ty _, tm1, tm2, _, rfl, ?_⟩
    refine iff' rfl ?_
    refine ⟨_, rfl, p, _, _, _, _, rfl, hp, Z.cl, Z.n_returned, lk_returned, _, _, _, _, false, rfl, .ty _, .base (.int _), kit_ty (by decide +kernel), _, rfl, ?_⟩
    refine iff' rfl ?_
    refine ⟨_, rfl, p, _, _, _, _, rfl, hp, Z.cl, Z.n_caret, lk_caret, _, _, _, _, false, rfl, .ty _, .base (.int _), kit_ty (by decide +kernel), _, rfl, ?_⟩
    refine iff' rfl ?_
    refine ⟨fun σ' H' => H' = H ∧ σ' = [some (V.ref p), some (V.ref q)], ?_, ?_⟩
    · refine ⟨_, rfl, p, dx, _, rfl, hp, p, g, h, rfl, ⟨dx, hp⟩, by omega, hc, _, _, rfl, rfl, _, rfl, ?_⟩
      cases hf : g.fresh with
      | true =>
        refine iff' rfl ?_
        refine iff' rfl ?_
        exact ⟨rfl, rfl⟩
      | false =>
        refine ift rfl ?_
        refine ⟨_, rfl, p, dx, _, rfl, hp, p, g, h, rfl, ⟨dx, hp⟩, by omega, hc, _, _, rfl, rfl, _, rfl, ?_⟩
        rw [hf]
        refine iff' rfl ?_
        exact ⟨rfl, rfl⟩
    rintro σ' H' ⟨rfl, rfl⟩
    have tail : (if decide (g.m = none) = true then Q (.bl true) H' else Q (.bl true) H') := by split <;> exact k
    refine ⟨fun σ' H1 => H1 = H' ∧ σ' = [some (V.ref p), some (V.ref q)], ?_, ?_⟩
    · refine ⟨_, rfl, p, dx, _, rfl, hp, p, g, h, rfl, ⟨dx, hp⟩, by omega, hc, _, rfl, q, _, 1, _, rfl, rfl, SqL.of hq, rfl, rfl, _, rfl, ?_⟩
      by_cases c6 : g.c = 0
      · refine ift (by rw [dI]; simp [c6]) ?_
        refine ⟨rfl, _, rfl, ?_⟩
        refine iff' ?_ ⟨rfl, rfl⟩
        rw [dB]
        simp [Pg.fresh, c6]
      · refine iff' (by rw [dI]; simp; omega) ?_
        have hi : g.c - 1 < g.t.length := by omega
        have e1 : (((g.c : Nat) : Int) - 1).toNat = g.c - 1 := by omega
        refine ⟨_, rfl, q, _, 0, _, rfl, rfl, SqL.of hq, rfl, _, rfl, q, _, 1, _, rfl, rfl, SqL.of hq, rfl, _, _, rfl, rfl, _, _, g.t[g.c - 1], rfl, rfl, by omega, by omega, ?_, _, _, rfl, rfl, rfl, _, rfl, ?_⟩
        · rw [e1]; exact List.getElem?_eq_getElem hi
        · refine iff' ?_ ⟨rfl, rfl⟩
          have e2 : g.fresh = decide ([g.t[g.c - 1]] = [10]) := by
            unfold Pg.fresh
            rw [List.getElem?_eq_getElem hi, decide_eq_false c6]
            by_cases q : g.t[g.c - 1] = 10 <;> simp [q]
          rw [dB, e2]
          simp
    rintro σ' H1 ⟨rfl, rfl⟩
    refine ⟨_, rfl, q, _, 2, _, rfl, rfl, SqL.of hq, rfl, rfl, _, rfl, ?_⟩
    cases hm : g.m with
    | none =>
      refine ift (by rfl) ?_
      refine ⟨_, rfl, p, dx, _, rfl, hp, p, g, h, rfl, ⟨dx, hp⟩, by omega, rfl, ?_⟩
      unfold Pg.held
      rw [hm]
      exact k
    | some x =>
      refine iff' (by rfl) ?_
      refine ⟨_, rfl, p, dx, _, rfl, hp, p, g, h, rfl, ⟨dx, hp⟩, by omega, ?_⟩
      have e3 : hV g.held = .str (S ((g.t.take g.c).drop x)) := by
        unfold Pg.held
        rw [hm]
        rfl
      rw [e3]
      rw [hm] at hq
      refine ⟨_, rfl, q, _, 0, _, rfl, rfl, SqL.of hq, rfl, _, rfl, q, _, 2, _, rfl, rfl, SqL.of hq, rfl, (x : Nat), rfl, _, rfl, q, _, 1, _, rfl, rfl, SqL.of hq, rfl, _, rfl, _, rfl, by omega, Int.natCast_nonneg _, Int.natCast_nonneg _, ?_⟩
      rw [cutL_mid]
      refine ⟨_, _, rfl, rfl, ?_⟩
      have e4 : decide ((g.t.take g.c).drop x = (g.t.take g.c).drop x) = true := decide_eq_true rfl
      show Q (.bl (decide ((g.t.take g.c).drop x = (g.t.take g.c).drop x))) H1
      rw [e4]
      exact k
structure TW (K : PySem.W.Frag) : Prop where
  ep : PySem.W.exmOne K (.ref (ga K "InvalidPlace")) (.ref (ga K "InvalidPlace")) = some true
  ek : PySem.W.exmOne K (.ref (ga K "InvalidKey")) (.ref (ga K "InvalidKey")) = some true
def spLMove (K : PySem.W.Frag) : Sp := fun vs H Q _ => ∃ (p q : Addr) (g : Pg) (h : Nat) (i : Int), vs = [.ref p, .ref q, .int i] ∧ p ≠ q ∧ PageAt K H p g h ∧ DueAt H q g ∧ g.t.length ≤ 40000 ∧ ∀ H', Kp [p, q] H H' → PageAt K H' p (g.moved i) h → DueAt H' q (g.moved i) → Q (.bl true) H'
abbrev s_lmove : Stmt := top 37
theorem sc_lmove : FnScope ["_law_page", "_law_due", "_law_place", "e"] ["_law_page", "_law_due", "_law_place"] (defScope s_lmove) := ⟨rfl, rfl, rfl, by decide +kernel, rfl, by decide +kernel, by decide +kernel⟩
theorem ok_lmove (T : TX K mg) (Z : TP K) (Y : TW K) (x_InvalidPlace : Ex1 P w K mg base "InvalidPlace" "place" (ga K "InvalidPlace")) (m_Page_move_to : KMet P w K mg base 4 (ga K "Page") "move_to" (spMove K)) {f : Addr} {fd : FuncData} (F : FunD K "_law_move" "_law_move" (defArgs s_lmove) (defBody s_lmove) (defScope s_lmove) [] [] f fd) : FnOk P w K mg base (CX P w) 6 f fd ["_law_page", "_law_due", "_law_place"] (spLMove K) := by
  refine F.ok sc_lmove (fun vs H Q E h => ?_) (fun cdv A outer s H vs Q E hr h => ?_)
  · obtain ⟨p, q, g, h, i, rfl, _⟩ := h
    rfl
  · obtain ⟨p, q, g, h, i, rfl, npq, ⟨dx, hp⟩, hq, hl, k⟩ := h
    refine ⟨_, (pss_cons (ps_try_as (i := 3) (Wout := fun cls d _ H => E cls d H) rfl rfl sc_lmove.nd rfl rfl ⟨rfl, by decide, Or.inl x_InvalidPlace.gC⟩ (takes_of rfl rfl rfl rfl) (fun W pn xe tk ps => (pss_one (ps_if (pt_cmpR op_notN (kmx m_Page_move_to tk hr (by decide) (pv 0) (pa_cons (pv 2) pa_nil)) pe_non (nomark _)) (pss_one (ps_ret pe_bl)) pss_nil))) (fun a oe cls d pn hz hf => (pss_one (ps_ret (pe_and (pe_cmpR op_eq (pe_xf x_InvalidPlace.xf x_InvalidPlace.no hz hf (pv 3)) (pv 2) (nomark _)) (pe_one (pe_or (pe_cmpR op_lt (pv 2) pe_int (nomark _)) (pe_one (pe_cmpR op_gt (pv 2) (pe_callB call_lenS (by rfl) T.b_len PySem.boot_len (pa_cons (pe_ix (ix_listK (K := K) rfl) (pv 1) pe_int (fun _ _ => rfl)) pa_nil)) (nomark _)))))))))) (pss_cons (ps_if (PW.pt (pw_or (pt_cmpR op_lt (pv 2) pe_int (nomark _)) (pw_or1 (pt_cmpR op_gt (pv 2) (pe_callB call_lenS (by rfl) T.b_len PySem.boot_len (pa_cons (pe_ix ix_list (pv 1) pe_int (fun _ _ => rfl)) pa_nil)) (nomark _))))) (pss_one (ps_ret pe_bl)) pss_nil) (pss_cons (ps_asg (pv 2) (pg_sub (pv 1) pe_int set_list)) (pss_cons (ps_asg pe_non (pg_sub (pv 1) pe_int set_list)) (pss_cons (ps_asg pe_int (pg_sub (pv 1) pe_int set_list)) (pss_one (ps_ret pe_bl))))))), ?_⟩
    unfold Pg.moved at k
    have hq0 := hq
    unfold DueAt dl at hq
    refine ⟨_, rfl, p, _, _, rfl, hp, nm_move_to, _, rfl, p, g, h, i, rfl, ⟨dx, hp⟩, hl, fun hi H1 d s1 hd => ?_, fun hi H1 k1 P1 => ?_⟩
    · rw [if_neg hi] at k
      refine ⟨true, Y.ep, fun _ a0 ha0 => ?_, fun z => Bool.noConfusion z⟩
      have s2 := Same.new (o := .xd [("place", .int i)]) s1 hd
      have hq2 := s2 _ _ hq
      have fin := k _ (Kp.of_same s2) ⟨dx, s2 _ _ hp⟩ (s2 _ _ hq0)
      refine ⟨_, rfl, rfl, rfl, d, _, _, rfl, upd_same, rfl, _, rfl, rfl, _, rfl, ?_⟩
      refine ift (by simp) ?_
      refine ⟨_, rfl, _, _, rfl, rfl, _, rfl, ?_⟩
      refine if2 (fun c => ?_) (fun c => ?_)
      · exact fin
      · have c1 := of_decide_eq_false c
        refine ⟨_, rfl, _, rfl, q, _, 0, _, rfl, rfl, SqL.of hq2, rfl, _, rfl, by omega, _, _, rfl, rfl, ?_⟩
        have e : decide (((g.t.length : Nat) : Int) < i) = true := decide_eq_true (by omega)
        show Q (.bl (decide (((g.t.length : Nat) : Int) < i))) _
        rw [e]
        exact fin
    · rw [if_pos hi] at k
      have hq1 := k1 q _ (by simp; exact npq.symm) hq
      refine ⟨rfl, _, rfl, ?_⟩
      refine ⟨_, rfl, _, _, rfl, rfl, _, rfl, ?_⟩
      refine iff' (decide_eq_false (by omega)) ?_
      refine ⟨_, rfl, _, rfl, q, _, 0, _, rfl, rfl, SqL.of hq1, rfl, _, rfl, by omega, _, _, rfl, rfl, _, rfl, ?_⟩
      refine iff' (decide_eq_false (by omega)) ?_
      refine ⟨_, rfl, _, rfl, q, _, 1, 1, rfl, rfl, hq1, rfl, ?_⟩
      refine ⟨_, rfl, q, _, 2, 2, rfl, rfl, upd_same, rfl, ?_⟩
      refine ⟨_, rfl, q, _, 4, 4, rfl, rfl, upd_same, rfl, ?_⟩
      refine k _ ?_ ?_ ?_
      · exact (((k1.mono (S' := [p, q]) (by simp)).upd (by simp)).upd (by simp)).upd (by simp)
      · obtain ⟨dx1, hp1⟩ := P1
        exact ⟨dx1, by rw [upd_ne npq, upd_ne npq, upd_ne npq]; exact hp1⟩
      · have e1 : ((i.toNat : Nat) : Int) = i := by omega
        show upd _ _ _ q = some (.lst [.str (S g.t), .int (i.toNat : Nat), .non, .str (S g.k), .int (0 : Nat)])
        rw [e1, upd_same]
        rfl
def spLRefused (K : PySem.W.Frag) : Sp := fun vs H Q _ => ∃ (p : Addr) (g : Pg) (h : Nat) (kk : List Nat), vs = [.ref p, .str (S kk)] ∧ kk.length ≤ 1000 ∧ isKey kk = false ∧ PageAt K H p g h ∧ PgOk h g ∧ g.t.length ≤ 40000 ∧ ∀ H', Same H H' → Q (.bl true) H'
abbrev s_lrefused : Stmt := top 38
theorem sc_lrefused : FnScope ["_law_page", "_law_key_here", "e"] ["_law_page", "_law_key_here"] (defScope s_lrefused) := ⟨rfl, rfl, rfl, by decide +kernel, rfl, by decide +kernel, by decide +kernel⟩
theorem ok_lrefused (T : TX K mg) (Z : TP K) (Y : TW K) (x_InvalidKey : Ex1 P w K mg base "InvalidKey" "key" (ga K "InvalidKey")) (m_Page_press : KMet P w K mg base 6 (ga K "Page") "press" (spPress K)) {f : Addr} {fd : FuncData} (F : FunD K "_law_refused" "_law_refused" (defArgs s_lrefused) (defBody s_lrefused) (defScope s_lrefused) [] [] f fd) : FnOk P w K mg base (CX P w) 8 f fd ["_law_page", "_law_key_here"] (spLRefused K) := by
  refine F.ok sc_lrefused (fun vs H Q E h => ?_) (fun cdv A outer s H vs Q E hr h => ?_)
  · obtain ⟨p, g, h, kk, rfl, _⟩ := h
    rfl
  · obtain ⟨p, g, h, kk, rfl, hkl, hk, ⟨dx, hp⟩, o, hl, k⟩ := h
    refine ⟨_, (pss_cons (ps_try_as (i := 2) (Wout := fun cls d _ H => E cls d H) rfl rfl sc_lrefused.nd rfl rfl ⟨rfl, by decide, Or.inl x_InvalidKey.gC⟩ (takes_of rfl rfl rfl rfl) (fun W pn xe tk ps => (pss_one (ps_expr (kmx m_Page_press tk hr (by decide) (pv 0) (pa_cons (pv 1) pa_nil))))) (fun a oe cls d pn hz hf => (pss_one (ps_ret (pe_cmpR op_eqS (pe_xf x_InvalidKey.xf x_InvalidKey.no hz hf (pv 2)) (pv 1) (nomark _)))))) (pss_one (ps_ret pe_bl))), ?_⟩
    refine ⟨_, rfl, p, _, _, rfl, hp, nm_press, _, rfl, p, g, h, kk, rfl, hkl, ⟨dx, hp⟩, o, hl, fun _ H1 d s1 hd => ?_, fun key s' e hv => ?_⟩
    · refine ⟨true, Y.ek, fun _ a0 ha0 => ?_, fun z => Bool.noConfusion z⟩
      have s2 := Same.new (o := .xd [("key", .str (S kk))]) s1 hd
      refine ⟨_, rfl, rfl, rfl, d, _, _, rfl, upd_same, rfl, _, rfl, _, _, rfl, rfl, ?_⟩
      have e : decide (kk = kk) = true := decide_eq_true rfl
      show Q (.bl (decide (kk = kk))) _
      rw [e]
      exact k _ s2
    · rw [e, vk_isKey hv] at hk
      cases hk
/-! ### two pages -/
structure St2 (K : PySem.W.Frag) (H : Hp) (b l pp qq : Addr) (h n : Nat) (p q : Nat → Addr) (g : Nat → Pg) : Prop where
  hpp : H pp = some (.lst [.ref (p 0), .ref (p 1)])
  hqq : H qq = some (.lst [.ref (q 0), .ref (q 1)])
  npq : pp ≠ qq
  pg : ∀ x, x < 2 → PageAt K H (p x) (g x) h
  du : ∀ x, x < 2 → DueAt H (q x) (g x)
  ok : ∀ x, x < 2 → PgOk h (g x)
  ln : ∀ x, x < 2 → (g x).t.length ≤ n
  bx : Box H b l
  n1 : p 0 ≠ p 1
  n2 : q 0 ≠ q 1
section
variable {H H' : Hp} {b l pp qq : Addr} {h n : Nat} {p q : Nat → Addr} {g : Nat → Pg} {x : Nat}
theorem St2.off (s : St2 K H b l pp qq h n p q g) (hx : x < 2) : p x ∉ [b, l, pp, qq] ∧ q x ∉ [b, l, pp, qq] ∧ pp ∉ [b, l] ∧ qq ∉ [b, l] ∧ ∀ y, y < 2 → p x ≠ q y := by
  obtain ⟨_, cs, u, v, e1, e2, _⟩ := s.bx
  obtain ⟨dx, ep⟩ := s.pg x hx
  have eq : H (q x) = some (.lst (dl (g x))) := s.du x hx
  have hdl : ∀ (g : Pg) (xs : List V), xs.length ≠ 5 → HO.lst (dl g) ≠ HO.lst xs := fun g xs hl z => by
    have z2 : dl g = xs := by injection z
    rw [← z2] at hl
    exact hl rfl
  have hcs : ∀ g : Pg, HO.lst (dl g) ≠ HO.lst (cs.map V.int) := fun g z => by
    have z2 : dl g = cs.map V.int := by injection z
    unfold dl at z2
    cases cs with
    | nil => cases z2
    | cons c cs => injection z2 with z3 _; cases z3
  have h2 : ∀ xs : List V, xs.length = 2 → HO.lst xs ≠ HO.lst [V.ref l, .int u, .int v] := fun xs hl z => by
    have z2 : xs = [V.ref l, .int u, .int v] := by injection z
    rw [z2] at hl
    cases hl
  have h3 : ∀ (a : Addr) (xs : List V), HO.lst (V.ref a :: xs) ≠ HO.lst (cs.map V.int) := fun a xs z => by
    have z2 : V.ref a :: xs = cs.map V.int := by injection z
    cases cs with
    | nil => cases z2
    | cons c cs => injection z2 with z3 _; cases z3
  refine ⟨?_, ?_, ?_, ?_, fun y hy => ?_⟩
  · simp
    exact ⟨ne_of ep e1 (by intro z; cases z), ne_of ep e2 (by intro z; cases z), ne_of ep s.hpp (by intro z; cases z), ne_of ep s.hqq (by intro z; cases z)⟩
  · simp
    exact ⟨ne_of eq e1 (hdl _ _ (by simp)), ne_of eq e2 (hcs _), ne_of eq s.hpp (hdl _ _ (by simp)), ne_of eq s.hqq (hdl _ _ (by simp))⟩
  · simp
    exact ⟨ne_of s.hpp e1 (h2 _ rfl), ne_of s.hpp e2 (h3 _ _)⟩
  · simp
    exact ⟨ne_of s.hqq e1 (h2 _ rfl), ne_of s.hqq e2 (h3 _ _)⟩
  · have eq' : H (q y) = some (.lst (dl (g y))) := s.du y hy
    exact ne_of ep eq' (by intro z; cases z)
theorem St2.keep (s : St2 K H b l pp qq h n p q g) (k : Kp [b, l] H H') (B : Box H' b l) : St2 K H' b l pp qq h n p q g := by
  obtain ⟨_, _, f3, f4, _⟩ := s.off (x := 0) (by decide)
  refine ⟨k _ _ f3 s.hpp, k _ _ f4 s.hqq, s.npq, fun x hx => ?_, fun x hx => ?_, s.ok, s.ln, B, s.n1, s.n2⟩
  · obtain ⟨f1, _⟩ := s.off hx
    exact (s.pg x hx).keep k (fun z => f1 (by simp at z ⊢; rcases z with z | z <;> simp [z]))
  · obtain ⟨_, f2, _⟩ := s.off hx
    exact (s.du x hx).keep k (fun z => f2 (by simp at z ⊢; rcases z with z | z <;> simp [z]))
theorem St2.same (s : St2 K H b l pp qq h n p q g) (k : Same H H') : St2 K H' b l pp qq h n p q g :=
  ⟨k _ _ s.hpp, k _ _ s.hqq, s.npq, fun x hx => (s.pg x hx).same k, fun x hx => k _ _ (s.du x hx), s.ok, s.ln, s.bx.same k, s.n1, s.n2⟩
theorem St2.inj (s : St2 K H b l pp qq h n p q g) {x y : Nat} (hx : x < 2) (hy : y < 2) (ne : y ≠ x) : p y ≠ p x ∧ q y ≠ q x := by
  have h1 := s.n1
  have h2 := s.n2
  have : x = 0 ∧ y = 1 ∨ x = 1 ∧ y = 0 := by omega
  rcases this with ⟨rfl, rfl⟩ | ⟨rfl, rfl⟩
  · exact ⟨h1.symm, h2.symm⟩
  · exact ⟨h1, h2⟩
/-- the page x and the list x are turned alike -/
theorem St2.turn (s : St2 K H b l pp qq h n p q g) (hx : x < 2) {g1 : Pg} {n' : Nat} (k : Kp [p x, q x] H H') (P1 : PageAt K H' (p x) g1 h) (D1 : DueAt H' (q x) g1) (o1 : PgOk h g1) (l1 : g1.t.length ≤ n') (hn : n ≤ n') : St2 K H' b l pp qq h n' p q (fun y => if y = x then g1 else g y) := by
  obtain ⟨f1, f2, f3, f4, f5⟩ := s.off hx
  obtain ⟨nbl, cs, u, v, e1, e2, rr⟩ := s.bx
  simp at f1 f2
  refine ⟨k _ _ ?_ s.hpp, k _ _ ?_ s.hqq, s.npq, fun y hy => ?_, fun y hy => ?_, fun y hy => ?_, fun y hy => ?_, ⟨nbl, cs, u, v, k _ _ ?_ e1, k _ _ ?_ e2, rr⟩, s.n1, s.n2⟩
  · simp; exact ⟨fun z => f1.2.2.1 z.symm, fun z => f2.2.2.1 z.symm⟩
  · simp; exact ⟨fun z => f1.2.2.2 z.symm, fun z => f2.2.2.2 z.symm⟩
  · by_cases e : y = x
    · subst e; simp; exact P1
    · simp only [if_neg e]
      obtain ⟨i1, i2⟩ := s.inj hx hy e
      obtain ⟨_, _, _, _, f6⟩ := s.off hy
      exact (s.pg y hy).keep k (by simp; exact ⟨i1, f6 x hx⟩)
  · by_cases e : y = x
    · subst e; simp; exact D1
    · simp only [if_neg e]
      obtain ⟨i1, i2⟩ := s.inj hx hy e
      exact (s.du y hy).keep k (by simp; exact ⟨fun z => f5 y hy z.symm, i2⟩)
  · by_cases e : y = x
    · simp [e]; exact o1
    · simp [e]; exact s.ok y hy
  · by_cases e : y = x
    · simp [e]; exact l1
    · simp [e]; have := s.ln y hy; omega
  · simp; exact ⟨fun z => f1.1 z.symm, fun z => f2.1 z.symm⟩
  · simp; exact ⟨fun z => f1.2.1 z.symm, fun z => f2.2.1 z.symm⟩
theorem at2 (a0 a1 : Addr) (f : Nat → Addr) (h0 : f 0 = a0) (h1 : f 1 = a1) {x : Nat} (hx : x < 2) : atI [V.ref a0, V.ref a1] ((x : Nat) : Int) = some (.ref (f x)) := by
  have : x = 0 ∨ x = 1 := by omega
  rcases this with rfl | rfl
  · rw [h0]; rfl
  · rw [h1]; rfl
theorem ix2 {x : Nat} (hx : x < 2) : ixN 2 (1 - ((x : Nat) : Int)) = some (1 - x) := by
  have : x = 0 ∨ x = 1 := by omega
  rcases this with rfl | rfl <;> rfl
theorem set2 (f : Nat → Addr) (a : Addr) {x : Nat} (hx : x < 2) : [V.ref (f 0), V.ref (f 1)].set (1 - x) (.ref a) = [V.ref ((fun y => if y = 1 - x then a else f y) 0), V.ref ((fun y => if y = 1 - x then a else f y) 1)] := by
  have : x = 0 ∨ x = 1 := by omega
  rcases this with rfl | rfl <;> rfl
/-- the page x and the list x are copied over the others -/
theorem St2.copied (s : St2 K H b l pp qq h n p q g) (hx : x < 2) {p2 q2 : Addr} (hp2 : ∀ y, y < 2 → p y ≠ p2) (hq2 : ∀ y, y < 2 → q y ≠ q2) (k : Kp [pp, qq] H H') (P2 : PageAt K H' p2 (g x) h) (D2 : DueAt H' q2 (g x))
    (h1 : H' pp = some (.lst [.ref ((fun y => if y = 1 - x then p2 else p y) 0), .ref ((fun y => if y = 1 - x then p2 else p y) 1)])) (h2 : H' qq = some (.lst [.ref ((fun y => if y = 1 - x then q2 else q y) 0), .ref ((fun y => if y = 1 - x then q2 else q y) 1)])) :
    St2 K H' b l pp qq h n (fun y => if y = 1 - x then p2 else p y) (fun y => if y = 1 - x then q2 else q y) (fun y => if y = 1 - x then g x else g y) := by
  obtain ⟨nbl, cs, u, v, e1, e2, rr⟩ := s.bx
  obtain ⟨_, _, f3, f4, _⟩ := s.off hx
  simp at f3 f4
  refine ⟨h1, h2, s.npq, fun y hy => ?_, fun y hy => ?_, fun y hy => ?_, fun y hy => ?_, ⟨nbl, cs, u, v, k _ _ ?_ e1, k _ _ ?_ e2, rr⟩, ?_, ?_⟩
  · by_cases e : y = 1 - x
    · simp [e]; exact P2
    · simp [e]
      obtain ⟨f1, _⟩ := s.off hy
      exact (s.pg y hy).keep k (fun z => f1 (by simp at z ⊢; rcases z with z | z <;> simp [z]))
  · by_cases e : y = 1 - x
    · simp [e]; exact D2
    · simp [e]
      obtain ⟨_, f2, _⟩ := s.off hy
      exact (s.du y hy).keep k (fun z => f2 (by simp at z ⊢; rcases z with z | z <;> simp [z]))
  · by_cases e : y = 1 - x
    · simp [e]; exact s.ok x hx
    · simp [e]; exact s.ok y hy
  · by_cases e : y = 1 - x
    · simp [e]; exact s.ln x hx
    · simp [e]; exact s.ln y hy
  · simp; exact ⟨fun z => f3.1 z.symm, fun z => f4.1 z.symm⟩
  · simp; exact ⟨fun z => f3.2 z.symm, fun z => f4.2 z.symm⟩
  · have : x = 0 ∨ x = 1 := by omega
    rcases this with rfl | rfl
    · simp; exact hp2 0 (by decide)
    · simp; exact (hp2 1 (by decide)).symm
  · have : x = 0 ∨ x = 1 := by omega
    rcases this with rfl | rfl
    · simp; exact hq2 0 (by decide)
    · simp; exact (hq2 1 (by decide)).symm
theorem menu10 {r : Int} (h0 : 0 ≤ r) (h1 : r < 10) : ∃ kk : List Nat, atI [V.str (S []), .str (S [62, 62]), .str (S [39]), .str (S [39, 97, 98]), .str (S [40]), .str (S [93]), .str (S [97]), .str (S [61]), .str (S [64, 97]), .str (S [39, 9])] r = some (.str (S kk)) ∧ isKey kk = false ∧ kk.length ≤ 1000 := by
  have : r = 0 ∨ r = 1 ∨ r = 2 ∨ r = 3 ∨ r = 4 ∨ r = 5 ∨ r = 6 ∨ r = 7 ∨ r = 8 ∨ r = 9 := by omega
  rcases this with rfl | rfl | rfl | rfl | rfl | rfl | rfl | rfl | rfl | rfl <;> exact ⟨_, rfl, by decide +kernel, by decide⟩
theorem moved_ok {g : Pg} (o : PgOk h g) (i : Int) : PgOk h (g.moved i) ∧ (g.moved i).t = g.t := by
  unfold Pg.moved
  split
  · exact ⟨⟨by simp only; omega, fun x hx => (by cases hx), o.k, o.ts, o.ks, o.hb⟩, rfl⟩
  · exact ⟨o, rfl⟩
end
/-! ### the law -/
def spLaw (K : PySem.W.Frag) : Sp := fun vs H Q _ => ∃ (a : Addr) (ns : List Int), vs = [.ref a] ∧ SqL K H a (ns.map V.int) ∧ ∀ H', Q (.bl true) H'
abbrev s_law : Stmt := top 39
theorem sc_law : FnScope ["_law_script", "_law_box_here", "_law_menu", "_law_text_here", "_law_place", "_law_hold", "_law_pages", "_law_dues", "_law_k", "_law_one", "_law_choice", "_law_key_here", "_law_works"] ["_law_script"] (defScope s_law) := ⟨rfl, rfl, rfl, by decide +kernel, rfl, by decide +kernel, by decide +kernel⟩
theorem ok_law (T : TX K mg) (Z : TP K) (c__law_box : KCal P w K mg base 1 "_law_box" (spBox K) []) (c__law_signs : KCal P w K mg base 1 "_law_signs" spSigns []) (c__law_take : KCal P w K mg base 1 "_law_take" spTake []) (c__law_text : KCal P w K mg base 2 "_law_text" spText []) (c__law_key : KCal P w K mg base 2 "_law_key" spLKey []) (c__law_press : KCal P w K mg base 2 "_law_press" spLPress []) (c__law_same_page : KCal P w K mg base 4 "_law_same_page" (spLSame K) []) (c__law_move : KCal P w K mg base 6 "_law_move" (spLMove K) []) (c__law_refused : KCal P w K mg base 8 "_law_refused" (spLRefused K) []) (m_Page_press : KMet P w K mg base 6 (ga K "Page") "press" (spPress K)) (m_Page_copy : KMet P w K mg base 6 (ga K "Page") "copy" (spCopy K)) (k_Page_2_hold : KMak P w K mg base 4 "Page" (ga K "Page") 2 ["hold"] (spInit K) (fun vs zs => vs ++ zs)) {f : Addr} {fd : FuncData} (F : FunD K "law" "law" (defArgs s_law) (defBody s_law) (defScope s_law) [] [] f fd) : FnOk P w K mg base (CX P w) 9 f fd ["_law_script"] (spLaw K) := by
  refine F.ok sc_law (fun vs H Q E h => ?_) (fun cdv A outer s H vs Q E hr h => ?_)
  · obtain ⟨a, ns, rfl, _⟩ := h
    rfl
  · obtain ⟨a, ns, rfl, hS, k⟩ := h
    refine ⟨_, (pss_cons (ps_set (i := 1) sc_law.nd rfl (Or.inl rfl) (kc c__law_box hr (by decide) rfl (pa_cons (pv 0) pa_nil))) (pss_cons (ps_set (i := 2) sc_law.nd rfl (Or.inl rfl) (pe_ix ix_list (pe_lst (pa_cons (pe_strS [97, 98] (by decide +kernel)) (pa_cons (pe_strS [97, 10] (by decide +kernel)) (pa_cons (pe_strS [97, 66, 49, 45, 32, 10] (by decide +kernel)) (pa_cons (kc0 c__law_signs hr (by decide) rfl) pa_nil))))) (kc c__law_take hr (by decide) rfl (pa_cons (pv 1) (pa_cons pe_int pa_nil))) (fun _ _ => rfl))) (pss_cons (ps_set (i := 3) sc_law.nd rfl (Or.inl rfl) (kc c__law_text hr (by decide) rfl (pa_cons (pv 1) (pa_cons (pv 2) (pa_cons pe_int pa_nil))))) (pss_cons (ps_set (i := 4) sc_law.nd rfl (Or.inl rfl) (kc c__law_take hr (by decide) rfl (pa_cons (pv 1) (pa_cons (pe_op op_add (pe_callB call_lenS (by rfl) T.b_len PySem.boot_len (pa_cons (pv 3) pa_nil)) pe_int) pa_nil)))) (pss_cons (ps_set (i := 5) sc_law.nd rfl (Or.inl rfl) (kc c__law_take hr (by decide) rfl (pa_cons (pv 1) (pa_cons pe_int pa_nil)))) (pss_cons (ps_set (i := 6) sc_law.nd rfl (Or.inl rfl) (pe_lst (pa_cons (kmak k_Page_2_hold hr (by decide) rfl (pa_cons (pv 3) (pa_cons (pv 4) pa_nil)) (pk_cons (pv 5) pk_nil)) (pa_cons (kmak k_Page_2_hold hr (by decide) rfl (pa_cons (pv 3) (pa_cons (pv 4) pa_nil)) (pk_cons (pv 5) pk_nil)) pa_nil)))) (pss_cons (ps_set (i := 7) sc_law.nd rfl (Or.inl rfl) (pe_lst (pa_cons (pe_lst (pa_cons (pv 3) (pa_cons (pv 4) (pa_cons pe_non (pa_cons (pe_strS [] (by decide +kernel)) (pa_cons pe_int pa_nil)))))) (pa_cons (pe_lst (pa_cons (pv 3) (pa_cons (pv 4) (pa_cons pe_non (pa_cons (pe_strS [] (by decide +kernel)) (pa_cons pe_int pa_nil)))))) pa_nil)))) (pss_cons (ps_for (passes_of rfl) rfl (pi_range1 (by rfl) T.b_range (pa_cons (kc c__law_take hr (by decide) rfl (pa_cons (pv 1) (pa_cons pe_int pa_nil))) pa_nil)) (pg_name (i := 8) sc_law.nd rfl (Or.inl rfl)) (pss_cons (ps_set (i := 9) sc_law.nd rfl (Or.inl rfl) (kc c__law_take hr (by decide) rfl (pa_cons (pv 1) (pa_cons pe_int pa_nil)))) (pss_cons (ps_set (i := 10) sc_law.nd rfl (Or.inl rfl) (kc c__law_take hr (by decide) rfl (pa_cons (pv 1) (pa_cons pe_int pa_nil)))) (C8.pss_cut (ps_if (pt_cmpR op_eq (pv 10) pe_int (nomark _)) (pss_one (ps_if (pt_not (pt_val (kc c__law_move hr (by decide) rfl (pa_cons (pe_ix ix_list (pv 6) (pv 9) (fun _ _ => rfl)) (pa_cons (pe_ix ix_list (pv 7) (pv 9) (fun _ _ => rfl)) (pa_cons (pe_op op_sub (kc c__law_take hr (by decide) rfl (pa_cons (pv 1) (pa_cons (pe_op op_add (pe_callB call_lenS (by rfl) T.b_len PySem.boot_len (pa_cons (pe_ix ix_list (pe_ix ix_list (pv 7) (pv 9) (fun _ _ => rfl)) pe_int (fun _ _ => rfl)) pa_nil)) pe_int) pa_nil))) pe_int) pa_nil)))))) (pss_one (ps_ret pe_bl)) pss_nil)) (pss_one (ps_if (pt_cmpR op_eq (pv 10) pe_int (nomark _)) (pss_one (ps_if (pt_not (pt_val (kc c__law_refused hr (by decide) rfl (pa_cons (pe_ix ix_list (pv 6) (pv 9) (fun _ _ => rfl)) (pa_cons (pe_ix ix_list (pe_lst (pa_cons (pe_strS [] (by decide +kernel)) (pa_cons (pe_strS [62, 62] (by decide +kernel)) (pa_cons (pe_strS [39] (by decide +kernel)) (pa_cons (pe_strS [39, 97, 98] (by decide +kernel)) (pa_cons (pe_strS [40] (by decide +kernel)) (pa_cons (pe_strS [93] (by decide +kernel)) (pa_cons (pe_strS [97] (by decide +kernel)) (pa_cons (pe_strS [61] (by decide +kernel)) (pa_cons (pe_strS [64, 97] (by decide +kernel)) (pa_cons (pe_strS [39, 9] (by decide +kernel)) pa_nil))))))))))) (kc c__law_take hr (by decide) rfl (pa_cons (pv 1) (pa_cons pe_int pa_nil))) (fun _ _ => rfl)) pa_nil))))) (pss_one (ps_ret pe_bl)) pss_nil)) (pss_one (ps_if (pt_cmpR op_eq (pv 10) pe_int (nomark _)) (pss_cons (ps_asg (km0 m_Page_copy hr (by decide) (pe_ix ix_list (pv 6) (pv 9) (fun _ _ => rfl))) (pg_sub (pv 6) (pe_op op_sub pe_int (pv 9)) set_list)) (pss_one (ps_asg (pe_callTy call_list_of (by rfl) T.b_list (by decide +kernel) (pa_cons (pe_ix ix_list (pv 7) (pv 9) (fun _ _ => rfl)) pa_nil)) (pg_sub (pv 7) (pe_op op_sub pe_int (pv 9)) set_list)))) (pss_cons (ps_set (i := 11) sc_law.nd rfl (Or.inl rfl) (kc c__law_key hr (by decide) rfl (pa_cons (pv 1) (pa_cons (pv 2) pa_nil)))) (pss_cons (ps_set (i := 12) sc_law.nd rfl (Or.inl rfl) (kc c__law_press hr (by decide) rfl (pa_cons (pe_ix ix_list (pv 7) (pv 9) (fun _ _ => rfl)) (pa_cons (pv 5) (pa_cons (pe_ix ix_S (pv 11) pe_int (fun _ _ => rfl)) (pa_cons (pe_slice sl_S (pv 11) (po_some pe_int) po_none) pa_nil)))))) (pss_one (ps_if (pt_cmpR op_ne (kmx m_Page_press (takes_of rfl rfl rfl rfl) hr (by decide) (pe_ix ix_list (pv 6) (pv 9) (fun _ _ => rfl)) (pa_cons (pv 11) pa_nil)) (pv 12) (nomark _)) (pss_one (ps_ret pe_bl)) pss_nil))))))))) (pss_cons (ps_if (PW.pt (pw_or (pt_not (pt_val (kc c__law_same_page hr (by decide) rfl (pa_cons (pe_ix ix_list (pv 6) pe_int (fun _ _ => rfl)) (pa_cons (pe_ix ix_list (pv 7) pe_int (fun _ _ => rfl)) pa_nil))))) (pw_or1 (pt_not (pt_val (kc c__law_same_page hr (by decide) rfl (pa_cons (pe_ix ix_list (pv 6) pe_int (fun _ _ => rfl)) (pa_cons (pe_ix ix_list (pv 7) pe_int (fun _ _ => rfl)) pa_nil)))))))) (pss_one (ps_ret pe_bl)) pss_nil) (pss_one (ps_if (PW.pt (pw_or (pt_cmpR op_ne (pe_fld (pe_ix ix_list (pv 6) pe_int (fun _ _ => rfl)) rfl) (pv 5) (nomark _)) (pw_or1 (pt_cmpR op_ne (pe_fld (pe_ix ix_list (pv 6) pe_int (fun _ _ => rfl)) rfl) (pv 5) (nomark _))))) (pss_one (ps_ret pe_bl)) pss_nil))))))) (pss_one (ps_ret pe_bl)))))))))), ?_⟩
    refine ⟨_, rfl, a, ns, rfl, hS, fun H1 b l s1 hb hl B1 => ?_⟩
    refine ⟨rfl, (show 4 ≤ sizeLine by decide), fun m0 hm0 => ?_⟩
    have B2 := B1.new (o := .lst [.str (S [97, 98]), .str (S [97, 10]), .str (S [97, 66, 49, 45, 32, 10]), .str (S sgn)]) hm0
    refine ⟨_, rfl, b, l, 4, rfl, B2, by decide, by decide, fun H3 r k3 B3 r0 r1 => ?_⟩
    have nm : m0 ∉ [b, l] := by
      obtain ⟨_, _, _, _, e1, e2, _⟩ := B1
      simp
      exact ⟨fun z => (by rw [z, e1] at hm0; cases hm0), fun z => (by rw [z, e2] at hm0; cases hm0)⟩
    have hm3 := k3 m0 _ nm upd_same
    have men : ∃ m : List Nat, atI [V.str (S [97, 98]), .str (S [97, 10]), .str (S [97, 66, 49, 45, 32, 10]), .str (S sgn)] r = some (.str (S m)) ∧ m ≠ [] ∧ m.length ≤ 95 ∧ ∀ a ∈ m, a ∈ sgn := by
      have : r = 0 ∨ r = 1 ∨ r = 2 ∨ r = 3 := by omega
      rcases this with rfl | rfl | rfl | rfl
      · exact ⟨_, rfl, by decide, by decide, by decide⟩
      · exact ⟨_, rfl, by decide, by decide, by decide⟩
      · exact ⟨_, rfl, by decide, by decide, by decide⟩
      · exact ⟨sgn, rfl, by decide, by decide, fun a h => h⟩
    obtain ⟨m, e1, mne, mle, mss⟩ := men
    refine ⟨m0, _, r, _, rfl, rfl, SqL.of hm3, e1, ?_⟩
    refine ⟨_, rfl, _, rfl, b, l, m, 10, rfl, B3, by decide, by decide, mne, by omega, fun H4 t k4 B4 tl tss => ?_⟩
    have tsg : ∀ a ∈ t, a ∈ sgn := fun a ha => mss a (tss a ha)
    refine ⟨_, rfl, _, rfl, _, rfl, by omega, _, _, rfl, rfl, b, l, _, rfl, B4, by omega, by omega, fun H5 i k5 B5 i0 i1 => ?_⟩
    refine ⟨_, rfl, b, l, 5, rfl, B5, by decide, by decide, fun H6 h k6 B6 h0 h1 => ?_⟩
    obtain ⟨i, rfl⟩ := Int.eq_ofNat_of_zero_le i0
    obtain ⟨h, rfl⟩ := Int.eq_ofNat_of_zero_le h0
    have hi : i ≤ t.length := by omega
    have h4 : h ≤ 4 := by omega
    have bn := bad_none tsg
    have o := new_ok h4 hi tsg
    refine ⟨_, rfl, _, rfl, _, rfl, rfl, rfl, fun p0 dx hp hdx ne => ?_⟩
    refine ⟨p0, dx, t, i, h, rfl, by omega, upd_same, fun j hj => (by rw [bn] at hj; cases hj), fun _ z => absurd ⟨by omega, by omega⟩ z, fun _ _ z => absurd ⟨by omega, by omega⟩ z, fun _ _ _ H8 k8 hp8 => ⟨rfl, ?_⟩⟩
    have s8 : Same H6 H8 := Kp.new_same (H2 := H8) hp hdx k8
    refine ⟨_, rfl, _, rfl, _, rfl, rfl, rfl, fun p1 dx1 hp1 hdx1 ne1 => ?_⟩
    refine ⟨p1, dx1, t, i, h, rfl, by omega, upd_same, fun j hj => (by rw [bn] at hj; cases hj), fun _ z => absurd ⟨by omega, by omega⟩ z, fun _ _ z => absurd ⟨by omega, by omega⟩ z, fun _ _ _ H9 k9 hp9 => ⟨rfl, ?_⟩⟩
    have s9 : Same H8 H9 := Kp.new_same (H2 := H9) hp1 hdx1 k9
    have n01 : p0 ≠ p1 := ne_of_none hp8 hp1
    refine ⟨(show 2 ≤ sizeLine by decide), fun pp hpp => ?_⟩
    refine ⟨_, rfl, _, rfl, (show 5 ≤ sizeLine by decide), fun q0 hq0 => ?_⟩
    refine ⟨_, rfl, _, rfl, (show 5 ≤ sizeLine by decide), fun q1 hq1 => ?_⟩
    refine ⟨(show 2 ≤ sizeLine by decide), fun qq hqq => ?_⟩
    have sp := Same.new (o := .lst [.ref p0, .ref p1]) (Same.refl H9) hpp
    have sq0 := Same.new (o := .lst (dl ⟨t, i, none, [], 0⟩)) (Same.refl _) hq0
    have sq1 := Same.new (o := .lst (dl ⟨t, i, none, [], 0⟩)) (Same.refl _) hq1
    have sqq := Same.new (o := .lst [.ref q0, .ref q1]) (Same.refl _) hqq
    have sAll := Same.trans (Same.trans sp sq0) (Same.trans sq1 sqq)
    have st0 : St2 K (upd (upd (upd (upd H9 pp (.lst [.ref p0, .ref p1])) q0 (.lst (dl ⟨t, i, none, [], 0⟩))) q1 (.lst (dl ⟨t, i, none, [], 0⟩))) qq (.lst [.ref q0, .ref q1])) b l pp qq h 10 (fun y => if y = 0 then p0 else p1) (fun y => if y = 0 then q0 else q1) (fun _ => ⟨t, i, none, [], 0⟩) := by
      refine ⟨?_, upd_same, ?_, fun x hx => ?_, fun x hx => ?_, fun _ _ => o, fun _ _ => by simp only; omega, (B6.same s8).same (Same.trans s9 sAll), ?_, ?_⟩
      · exact Same.trans sq0 (Same.trans sq1 sqq) _ _ upd_same
      · exact ne_of_none (Same.trans sq0 sq1 _ _ upd_same) hqq
      · have : x = 0 ∨ x = 1 := by omega
        rcases this with rfl | rfl
        · exact ⟨dx, sAll _ _ (s9 _ _ hp8)⟩
        · exact ⟨dx1, sAll _ _ hp9⟩
      · have : x = 0 ∨ x = 1 := by omega
        rcases this with rfl | rfl
        · exact Same.trans sq1 sqq _ _ upd_same
        · exact sqq _ _ upd_same
      · simpa using n01
      · simpa using (ne_of_none (upd_same : upd _ q0 _ q0 = some _) hq1)
    refine ⟨_, rfl, b, l, 25, rfl, st0.bx, by decide, by decide, fun H10 n k10 B10 n0 n1 => ?_⟩
    have st1 := st0.keep k10 B10
    refine ⟨n, rfl, by omega, by omega, ?_⟩
    refine for_range (lo := 0) (n := n.toNat) (fun j σ H' => ∃ (u v w x y : Option V) (p q : Nat → Addr) (g : Nat → Pg), σ = [some (.ref a), some (.ref b), some (.str (S m)), some (.str (S t)), some (.int (i : Nat)), some (.int (h : Nat)), some (.ref pp), some (.ref qq), u, v, w, x, y] ∧ St2 K H' b l pp qq h (10 + 5 * j) p q g) ?_ ?_ ?_
    · exact ⟨none, none, none, none, none, _, _, _, rfl, st1⟩
    · rintro j σ H11 hj ⟨u, v, w, x, y, p, q, g, rfl, s11⟩
      have hj25 : j < 25 := by omega
      refine ⟨_, rfl, b, l, 2, rfl, s11.bx, by decide, by decide, fun H12 one k12 B12 o0 o1 => ?_⟩
      have s12 := s11.keep k12 B12
      obtain ⟨z, rfl⟩ := Int.eq_ofNat_of_zero_le o0
      have hz : z < 2 := by omega
      refine ⟨_, rfl, b, l, 10, rfl, s12.bx, by decide, by decide, fun H13 ch k13 B13 c0 c1 => ?_⟩
      have s13 := s12.keep k13 B13
      have atp := at2 (p 0) (p 1) p rfl rfl hz
      have atq := at2 (q 0) (q 1) q rfl rfl hz
      have lnz := s13.ln z hz
      have okz := s13.ok z hz
      obtain ⟨_, _, _, _, f5⟩ := s13.off hz
      refine ⟨fun σ' H' => ∃ (x y : Option V) (p q : Nat → Addr) (g : Nat → Pg), σ' = [some (.ref a), some (.ref b), some (.str (S m)), some (.str (S t)), some (.int (i : Nat)), some (.int (h : Nat)), some (.ref pp), some (.ref qq), some (.int ((0 : Int) + (j : Nat))), some (.int (z : Nat)), some (.int ch), x, y] ∧ St2 K H' b l pp qq h (10 + 5 * (j + 1)) p q g, ?_, ?_⟩
      · refine ⟨_, rfl, rfl, _, rfl, ?_⟩
        refine if2 (fun c => ?_) (fun c => ?_)
        · -- a move
          have dz : H13 (q z) = some (.lst (dl (g z))) := s13.du z hz
          refine ⟨_, rfl, _, rfl, pp, _, (z : Nat), _, rfl, rfl, SqL.of s13.hpp, atp, _, rfl, _, rfl, qq, _, (z : Nat), _, rfl, rfl, SqL.of s13.hqq, atq, ?_⟩
          refine ⟨_, rfl, _, rfl, _, rfl, qq, _, (z : Nat), _, rfl, rfl, SqL.of s13.hqq, atq, q z, _, 0, _, rfl, rfl, SqL.of dz, rfl, _, rfl, by omega, _, _, rfl, rfl, b, l, _, rfl, s13.bx, by omega, by omega, fun H14 pl k14 B14 p0' p1' => ?_⟩
          have s14 := s13.keep k14 B14
          obtain ⟨o2, e2⟩ := moved_ok okz (pl - 2)
          refine ⟨_, _, rfl, rfl, p z, q z, g z, h, _, rfl, f5 z hz, s14.pg z hz, s14.du z hz, by omega, fun H15 k15 P15 D15 => ?_⟩
          refine ⟨_, rfl, ?_⟩
          refine iff' (by rfl) ?_
          exact ⟨_, _, _, _, _, rfl, s14.turn hz k15 P15 D15 o2 (by rw [e2]; omega) (by omega)⟩
        refine ⟨_, rfl, rfl, _, rfl, ?_⟩
        refine if2 (fun c => ?_) (fun c => ?_)
        · -- a string that is no key
          refine ⟨_, rfl, _, rfl, pp, _, (z : Nat), _, rfl, rfl, SqL.of s13.hpp, atp, ?_⟩
          refine ⟨(show 10 ≤ sizeLine by decide), fun m1 hm1 => ?_⟩
          have s14 := s13.same (Same.new (o := .lst [.str (S []), .str (S [62, 62]), .str (S [39]), .str (S [39, 97, 98]), .str (S [40]), .str (S [93]), .str (S [97]), .str (S [61]), .str (S [64, 97]), .str (S [39, 9])]) (Same.refl H13) hm1)
          have n1B : m1 ∉ [b, l] := by
            obtain ⟨_, _, _, _, e1, e2, _⟩ := s13.bx
            simp
            exact ⟨fun z => (by rw [z, e1] at hm1; cases hm1), fun z => (by rw [z, e2] at hm1; cases hm1)⟩
          refine ⟨_, rfl, b, l, 10, rfl, s14.bx, by decide, by decide, fun H15 r k15 B15 r0 r1 => ?_⟩
          have s15 := s14.keep k15 B15
          obtain ⟨kk, ev, hk, hkl⟩ := menu10 r0 r1
          refine ⟨m1, _, r, _, rfl, rfl, SqL.of (k15 m1 _ n1B upd_same), ev, ?_⟩
          refine ⟨p z, g z, h, kk, rfl, hkl, hk, s15.pg z hz, okz, by omega, fun H16 s16 => ?_⟩
          refine ⟨_, rfl, ?_⟩
          refine iff' (by rfl) ?_
          have st := s15.same s16
          exact ⟨_, _, _, _, _, rfl, st.hpp, st.hqq, st.npq, st.pg, st.du, st.ok, fun x hx => Nat.le_trans (st.ln x hx) (by omega), st.bx, st.n1, st.n2⟩
        refine ⟨_, rfl, rfl, _, rfl, ?_⟩
        refine if2 (fun c => ?_) (fun c => ?_)
        · -- a copy
          obtain ⟨dxz, hpz⟩ := s13.pg z hz
          refine ⟨_, rfl, _, rfl, pp, _, (z : Nat), _, rfl, rfl, SqL.of s13.hpp, atp, ?_⟩
          refine ⟨p z, dxz, _, rfl, hpz, nm_copy, p z, g z, h, rfl, s13.pg z hz, okz, by omega, fun H14 p2 s14 hp2 P2 => ?_⟩
          have hpp14 := s14 _ _ s13.hpp
          have hqq14 := s14 _ _ s13.hqq
          refine ⟨_, rfl, _, rfl, _, _, rfl, rfl, pp, _, _, _, rfl, rfl, hpp14, ix2 hz, ?_⟩
          obtain ⟨dx2, hp2'⟩ := id P2
          have n2pp : p2 ≠ pp := fun e => by rw [e, s13.hpp] at hp2; cases hp2
          have n2qq : p2 ≠ qq := fun e => by rw [e, s13.hqq] at hp2; cases hp2
          have dz14 : H14 (q z) = some (.lst (dl (g z))) := s14 _ _ (s13.du z hz)
          obtain ⟨_, fz2, _⟩ := s13.off hz
          simp at fz2
          have dz15 : upd H14 pp (.lst ([V.ref (p 0), V.ref (p 1)].set (1 - z) (.ref p2))) (q z) = some (.lst (dl (g z))) := by rw [upd_ne fz2.2.2.1]; exact dz14
          have hqq15 : upd H14 pp (.lst ([V.ref (p 0), V.ref (p 1)].set (1 - z) (.ref p2))) qq = some (.lst [.ref (q 0), .ref (q 1)]) := by rw [upd_ne s13.npq.symm]; exact hqq14
          refine ⟨_, rfl, _, rfl, qq, _, (z : Nat), _, rfl, rfl, SqL.of hqq15, atq, q z, _, rfl, .inl (SqL.of dz15), fun q2 hq2 => ?_⟩
          have nq2 : ∀ (x : Addr), (∃ o, upd H14 pp (.lst ([V.ref (p 0), V.ref (p 1)].set (1 - z) (.ref p2))) x = some o) → x ≠ q2 := fun x hx e => by
            obtain ⟨o, ho⟩ := hx
            rw [e, hq2] at ho; cases ho
          have nqq2 : qq ≠ q2 := nq2 qq ⟨_, hqq15⟩
          have npp2 : pp ≠ q2 := nq2 pp ⟨_, upd_same⟩
          have hqq16 : upd (upd H14 pp (.lst ([V.ref (p 0), V.ref (p 1)].set (1 - z) (.ref p2)))) q2 (.lst (dl (g z))) qq = some (.lst [.ref (q 0), .ref (q 1)]) := by rw [upd_ne nqq2]; exact hqq15
          refine ⟨_, rfl, _, rfl, _, _, rfl, rfl, qq, _, _, _, rfl, rfl, hqq16, ix2 hz, ?_⟩
          rw [set2 p p2 hz, set2 q q2 hz]
          have st := s13.copied (x := z) (p2 := p2) (q2 := q2) (H' := upd (upd (upd H14 pp (.lst [V.ref ((fun y => if y = 1 - z then p2 else p y) 0), V.ref ((fun y => if y = 1 - z then p2 else p y) 1)])) q2 (.lst (dl (g z)))) qq (.lst [V.ref ((fun y => if y = 1 - z then q2 else q y) 0), V.ref ((fun y => if y = 1 - z then q2 else q y) 1)])) hz ?_ ?_ ?_ ?_ ?_ ?_ ?_
          · exact ⟨_, _, _, _, _, rfl, st.hpp, st.hqq, st.npq, st.pg, st.du, st.ok, fun x hx => Nat.le_trans (st.ln x hx) (by omega), st.bx, st.n1, st.n2⟩
          · intro y hy e
            obtain ⟨d', e'⟩ := s13.pg y hy
            rw [e, hp2] at e'; cases e'
          · intro y hy
            refine nq2 (q y) ⟨.lst (dl (g y)), ?_⟩
            obtain ⟨_, fy, _⟩ := s13.off hy
            simp at fy
            rw [upd_ne fy.2.2.1]
            exact s14 _ _ (s13.du y hy)
          · refine ((((Kp.of_same s14).upd (by simp)).mut ?_).upd (by simp))
            have e := hq2
            rw [upd_ne npp2.symm] at e
            exact (Kp.of_same (S := []) s14).free (by simp) e
          · refine ⟨dx2, ?_⟩
            rw [upd_ne n2qq, upd_ne (nq2 p2 ⟨_, by rw [upd_ne n2pp]; exact hp2'⟩), upd_ne n2pp]
            exact hp2'
          · show upd _ _ _ q2 = _
            rw [upd_ne nqq2.symm, upd_same]
          · rw [upd_ne s13.npq, upd_ne npp2, upd_same]
          · exact upd_same
        · -- a key
          refine ⟨_, rfl, _, rfl, b, l, m, rfl, s13.bx, mne, by omega, mss, fun H14 key sg k14 B14 hv => ?_⟩
          have s14 := s13.keep k14 B14
          have kl : sg.length ≤ 1 := by
            rcases hv with ⟨_, rfl⟩ | ⟨_, a, _, rfl⟩ <;> simp
          refine ⟨_, rfl, _, rfl, qq, _, (z : Nat), _, rfl, rfl, SqL.of s14.hqq, atq, _, rfl, _, rfl, _, 0, key, rfl, rfl, by simp; omega, by decide, rfl, _, rfl, 1, rfl, _, rfl, by simp; omega, (by show (0 : Int) ≤ 1; decide), trivial, ?_⟩
          have ec : cutL (key :: sg) (some 1) none = sg := cutL_from (key :: sg) 1
          rw [ec]
          refine ⟨q z, g z, h, key, sg, rfl, hv, s14.du z hz, okz, by omega, fun H15 k15 D15 => ?_⟩
          obtain ⟨fp, fq, _, _, _⟩ := s14.off hz
          simp at fq
          have P15 := (s14.pg z hz).keep k15 (by simp; exact f5 z hz)
          have hpp15 := k15 pp _ (by simp; exact fun e => fq.2.2.1 e.symm) s14.hpp
          obtain ⟨dx15, hp15⟩ := id P15
          refine ⟨_, rfl, _, rfl, pp, _, (z : Nat), _, rfl, rfl, SqL.of hpp15, atp, p z, dx15, _, rfl, hp15, nm_press, _, rfl, p z, g z, h, key :: sg, rfl, by simp; omega, P15, okz, by omega, fun e => (by rw [vk_isKey hv] at e; cases e), fun key' s' e hv' H16 k16 P16 => ?_⟩
          cases e
          have D16 := D15.keep k16 (by simp; exact fun e => f5 z hz e.symm)
          obtain ⟨o2, l2⟩ := act_ok okz hv
          have hb4 := okz.hb
          refine ⟨_, rfl, rfl, _, rfl, ?_⟩
          refine iff' (by simp) ?_
          have kk : Kp [p z, q z] H14 H16 := (k15.mono (by simp)).trans (k16.mono (by simp))
          exact ⟨_, _, _, _, _, rfl, s14.turn hz kk P16 D16 o2 (by omega) (by omega)⟩
      · rintro σ' H14 ⟨x, y, p, q, g, rfl, s14⟩
        have ln0 := s14.ln 0 (by decide)
        have ln1 := s14.ln 1 (by decide)
        refine ⟨_, rfl, pp, _, 0, _, rfl, rfl, SqL.of s14.hpp, rfl, _, rfl, qq, _, 0, _, rfl, rfl, SqL.of s14.hqq, rfl, p 0, q 0, g 0, h, rfl, s14.pg 0 (by decide), s14.du 0 (by decide), s14.ok 0 (by decide), by omega, _, rfl, ?_⟩
        refine iff' (by rfl) ?_
        refine ⟨_, rfl, pp, _, 1, _, rfl, rfl, SqL.of s14.hpp, rfl, _, rfl, qq, _, 1, _, rfl, rfl, SqL.of s14.hqq, rfl, p 1, q 1, g 1, h, rfl, s14.pg 1 (by decide), s14.du 1 (by decide), s14.ok 1 (by decide), by omega, _, rfl, ?_⟩
        refine iff' (by rfl) ?_
        obtain ⟨d0, e0⟩ := s14.pg 0 (by decide)
        obtain ⟨d1, e1⟩ := s14.pg 1 (by decide)
        refine ⟨_, rfl, pp, _, 0, _, rfl, rfl, SqL.of s14.hpp, rfl, p 0, _, _, _, _, rfl, e0, Z.cl, Z.n_hold, lk_hold, _, rfl, rfl, _, rfl, ?_⟩
        refine iff' (by simp) ?_
        refine ⟨_, rfl, pp, _, 1, _, rfl, rfl, SqL.of s14.hpp, rfl, p 1, _, _, _, _, rfl, e1, Z.cl, Z.n_hold, lk_hold, _, rfl, rfl, _, rfl, ?_⟩
        refine iff' (by simp) ?_
        exact ⟨_, _, _, _, _, _, _, _, rfl, s14⟩
    · rintro σ H11 ⟨u, v, w, x, y, p, q, g, rfl, s11⟩
      exact k H11
end
/-! ### the head -/
def dd (x : Str) (st : Stmt) : He.DefD := ⟨(x, none), x, x, defArgs st, defBody st, defScope st, [], []⟩
def dx (C q : Str) (st : Stmt) : He.DefD := ⟨(C, some "__init__"), "__init__", q, defArgs st, defBody st, defScope st, [], []⟩
def dm (C m : String) (st : Stmt) : He.DefD := ⟨(Str.ofString C, some (Str.ofString m)), Str.ofString m, Str.ofString (C ++ "." ++ m), defArgs st, defBody st, defScope st, [], []⟩
def fn : List He.DefD := [dx "InvalidText" "InvalidText.__init__" s_InvalidText, dx "InvalidPlace" "InvalidPlace.__init__" s_InvalidPlace, dx "InvalidKey" "InvalidKey.__init__" s_InvalidKey, dx "InvalidHold" "InvalidHold.__init__" s_InvalidHold, dd "is_word_sign" s_is_word_sign, dd "check_text" s_check_text, dd "check_place" s_check_place, dd "is_key" s_is_key, dd "check_hold" s_check_hold, ⟨("Page", some "__init__"), "__init__", "Page.__init__", defArgs s_Page___init__, defBody s_Page___init__, defScope s_Page___init__, [.str (S []), .int 0], [("hold", .int 2)]⟩, dm "Page" "line_start_at" s_Page_line_start_at, dm "Page" "move_to" s_Page_move_to, dm "Page" "ahead" s_Page_ahead, dm "Page" "advance_caret" s_Page_advance_caret, dm "Page" "pass_sign" s_Page_pass_sign, dm "Page" "insert" s_Page_insert, dm "Page" "take_one" s_Page_take_one, dm "Page" "travel" s_Page_travel, dm "Page" "use_mark" s_Page_use_mark, dm "Page" "act" s_Page_act, dm "Page" "press" s_Page_press, dm "Page" "copy" s_Page_copy, dd "_law_signs" s_signs, dd "_law_box" s_box, dd "_law_take" s_take, dd "_law_text" s_text, dd "_law_key" s_lkey, dd "_law_insert" s_linsert, dd "_law_pass" s_lpass, dd "_law_stops" s_lstops, dd "_law_marked" s_lmarked, dd "_law_press" s_lpress, dd "_law_same_page" s_lsame, dd "_law_move" s_lmove, dd "_law_refused" s_lrefused, dd "law" s_law]
def fa : List He.Fa := [.glo "is_word_sign", .glo "check_text", .glo "check_place", .glo "is_key", .glo "check_hold", .glo "_law_signs", .glo "_law_box", .glo "_law_take", .glo "_law_text", .glo "_law_key", .glo "_law_insert", .glo "_law_pass", .glo "_law_stops", .glo "_law_marked", .glo "_law_press", .glo "_law_same_page", .glo "_law_move", .glo "_law_refused", .glo "law", .free "len", .free "int", .free "list", .free "range", .free "max", .free "enumerate", .free "isinstance", .free "bool", .str "SIGNS" (S sgn), .str "WORD_SIGNS" (S wsg), .str "PLAIN_KEYS" (S [62, 120, 119, 110, 36, 94, 109, 98, 107, 99, 112]), .str "SIGN_KEYS" (S [39, 61, 47]), .int "HOLD" 2, .int "MOST_HOLD" 4, .exm "InvalidPlace" "InvalidPlace" true, .exm "InvalidKey" "InvalidKey" true, .cls "Page", .mkr "Page", .glo "Page", .noat "Page" "text", .noat "Page" "caret", .noat "Page" "mark", .noat "Page" "kept", .noat "Page" "returned", .noat "Page" "hold", .meth "Page" "line_start_at", .meth "Page" "move_to", .meth "Page" "ahead", .meth "Page" "advance_caret", .meth "Page" "pass_sign", .meth "Page" "insert", .meth "Page" "take_one", .meth "Page" "travel", .meth "Page" "use_mark", .meth "Page" "act", .meth "Page" "press", .meth "Page" "copy"]
def exq (K : PySem.W.Frag) : Bool := [He.ex1B K "InvalidText" "place", He.ex1B K "InvalidPlace" "place", He.ex1B K "InvalidKey" "key", He.ex1B K "InvalidHold" "hold"].all id
abbrev R : PySem.W.OpenRow := PySem.W.OpenLaw.row PySem.Challenge.rw_keyreel_k12_whole_pages
def pd : List PD := [("Page", "held", ⟨("Page", some "held"), "held", "Page.held", defArgs s_Page_held, defBody s_Page_held, defScope s_Page_held, [], []⟩), ("Page", "fresh", ⟨("Page", some "fresh"), "fresh", "Page.fresh", defArgs s_Page_fresh, defBody s_Page_fresh, defScope s_Page_fresh, [], []⟩), ("Page", "spot", ⟨("Page", some "spot"), "spot", "Page.spot", defArgs s_Page_spot, defBody s_Page_spot, defScope s_Page_spot, [], []⟩)]
abbrev hk : PySem.W.Hook := hookY 6 fa fn pd exq
def ob (s : PySem.W.SharedT) : AlY := obsY 6 fa fn pd exq (HandSHeadRun.getT s)
theorem ob_eq (s : PySem.W.SharedT) : ob s = hk.obs s.abs := obsY_eq (HandSHeadRun.getT_eq s)
def loose0 : List Str := [("_wall" : Str), ("__name__" : Str), ("KeyreelError" : Str), ("InvalidText" : Str), ("InvalidPlace" : Str), ("InvalidKey" : Str), ("InvalidHold" : Str), ("DIGITS" : Str), ("CAPITALS" : Str), ("LETTERS" : Str), ("WORD_SIGNS" : Str), ("SIGNS" : Str)]
def loose1 : List Str := [("is_word_sign" : Str), ("check_text" : Str), ("check_place" : Str), ("PLAIN_KEYS" : Str), ("SIGN_KEYS" : Str), ("is_key" : Str), ("HOLD" : Str), ("MOST_HOLD" : Str), ("check_hold" : Str), ("Page" : Str), ("_law_signs" : Str), ("_law_box" : Str)]
def loose2 : List Str := [("_law_take" : Str), ("_law_text" : Str), ("_law_key" : Str), ("_law_insert" : Str), ("_law_pass" : Str), ("_law_stops" : Str), ("_law_marked" : Str), ("_law_press" : Str), ("_law_same_page" : Str), ("_law_move" : Str), ("_law_refused" : Str)]
def loose : List Str := loose0 ++ loose1 ++ loose2
theorem run (w : World) : HandSHeadRun.RunEq R (PySem.W.view R.prog [39]) hk ob 6000 loose w := by
  intro os
  kernel_rfl
theorem kcal {P : Program} {w : World} {K : PySem.W.Frag} {mg : Str → Option Value} {base : Heap} {k : Nat} {x : Str} {sp : Sp} {f : Addr} {fd : FuncData} {ps : List Str} (F : FnOk P w K mg base (CX P w) k f fd ps sp) (g : mg x = some (.ref f)) (kp : PySem.W.keepIn K (.ref f) = true) (b : Binds K fd ps []) : KCal P w K mg base k x sp [] := ⟨f, fd, ps, [], F, g, kp, b, .nil⟩
theorem facts {P : Program} {w : World} {K : PySem.W.Frag} {h : Heap} {mg : Str → Option Value} {f : Addr} (X : K.In h) (G : h.Ns mainGlobals mg) (hfa : mg ("law" : Str) = some (.ref f)) (c0 : SaysY fa fn pd exq w h K) :
    ∃ fd : FuncData, (∀ (s : Shared) (v : Value), BindsTo s fd ⟨[v], []⟩ [("_law_script", v)]) ∧ ∀ base : Heap, K.In base → base.Ns mainGlobals mg → FnOk P w K mg base CX0 9 f fd ["_law_script"] (spLaw K) := by
  have c : He.SaysD fa fn K := c0.x.t.d
  have more : ∀ i (b : Bool), [He.ex1B K "InvalidText" "place", He.ex1B K "InvalidPlace" "place", He.ex1B K "InvalidKey" "key", He.ex1B K "InvalidHold" "hold"][i]? = some b → b = true := fun i b hb => List.all_eq_true.mp c0.ex b (List.mem_of_getElem? hb)
  have T : TX K mg := by
    refine { b_len := ?_, b_int := ?_, b_list := ?_, b_range := ?_, b_max := ?_, b_enumerate := ?_, b_isinstance := ?_, b_bool := ?_, g_SIGNS := ?_, g_WORD_SIGNS := ?_, g_PLAIN_KEYS := ?_, g_SIGN_KEYS := ?_, g_HOLD := ?_, g_MOST_HOLD := ?_ }
    · exact He.free_ok X G (c.fact 19 (f := .free "len") rfl)
    · exact He.free_ok X G (c.fact 20 (f := .free "int") rfl)
    · exact He.free_ok X G (c.fact 21 (f := .free "list") rfl)
    · exact He.free_ok X G (c.fact 22 (f := .free "range") rfl)
    · exact He.free_ok X G (c.fact 23 (f := .free "max") rfl)
    · exact He.free_ok X G (c.fact 24 (f := .free "enumerate") rfl)
    · exact He.free_ok X G (c.fact 25 (f := .free "isinstance") rfl)
    · exact He.free_ok X G (c.fact 26 (f := .free "bool") rfl)
    · exact He.str_ok X G (c.fact 27 (f := .str "SIGNS" (S sgn)) rfl)
    · exact He.str_ok X G (c.fact 28 (f := .str "WORD_SIGNS" (S wsg)) rfl)
    · exact He.str_ok X G (c.fact 29 (f := .str "PLAIN_KEYS" (S [62, 120, 119, 110, 36, 94, 109, 98, 107, 99, 112])) rfl)
    · exact He.str_ok X G (c.fact 30 (f := .str "SIGN_KEYS" (S [39, 61, 47])) rfl)
    · exact He.int_ok X G (c.fact 31 (f := .int "HOLD" 2) rfl)
    · exact He.int_ok X G (c.fact 32 (f := .int "MOST_HOLD" 4) rfl)
  obtain ⟨fdx0, Fx0⟩ := c.def_ 0 (d := dx "InvalidText" "InvalidText.__init__" s_InvalidText) rfl
  have bx0 : Binds K fdx0 ["self", "place"] [] := FunD.bindsN (ps := ["self", "place"]) Fx0 fun _ _ _ _ _ _ us hl => match us, hl with | [_, _], _ => rfl
  obtain ⟨fdx1, Fx1⟩ := c.def_ 1 (d := dx "InvalidPlace" "InvalidPlace.__init__" s_InvalidPlace) rfl
  have bx1 : Binds K fdx1 ["self", "place"] [] := FunD.bindsN (ps := ["self", "place"]) Fx1 fun _ _ _ _ _ _ us hl => match us, hl with | [_, _], _ => rfl
  obtain ⟨fdx2, Fx2⟩ := c.def_ 2 (d := dx "InvalidKey" "InvalidKey.__init__" s_InvalidKey) rfl
  have bx2 : Binds K fdx2 ["self", "key"] [] := FunD.bindsN (ps := ["self", "key"]) Fx2 fun _ _ _ _ _ _ us hl => match us, hl with | [_, _], _ => rfl
  obtain ⟨fdx3, Fx3⟩ := c.def_ 3 (d := dx "InvalidHold" "InvalidHold.__init__" s_InvalidHold) rfl
  have bx3 : Binds K fdx3 ["self", "hold"] [] := FunD.bindsN (ps := ["self", "hold"]) Fx3 fun _ _ _ _ _ _ us hl => match us, hl with | [_, _], _ => rfl
  obtain ⟨fd0, F0⟩ := c.def_ 4 (d := dd "is_word_sign" s_is_word_sign) rfl
  have b0 : Binds K fd0 ["sign"] [] := FunD.bindsN (ps := ["sign"]) F0 fun _ _ _ _ _ _ us hl => match us, hl with | [_], _ => rfl
  obtain ⟨fd1, F1⟩ := c.def_ 5 (d := dd "check_text" s_check_text) rfl
  have b1 : Binds K fd1 ["text"] [] := FunD.bindsN (ps := ["text"]) F1 fun _ _ _ _ _ _ us hl => match us, hl with | [_], _ => rfl
  obtain ⟨fd2, F2⟩ := c.def_ 6 (d := dd "check_place" s_check_place) rfl
  have b2 : Binds K fd2 ["text", "place"] [] := FunD.bindsN (ps := ["text", "place"]) F2 fun _ _ _ _ _ _ us hl => match us, hl with | [_, _], _ => rfl
  obtain ⟨fd3, F3⟩ := c.def_ 7 (d := dd "is_key" s_is_key) rfl
  have b3 : Binds K fd3 ["key"] [] := FunD.bindsN (ps := ["key"]) F3 fun _ _ _ _ _ _ us hl => match us, hl with | [_], _ => rfl
  obtain ⟨fd4, F4⟩ := c.def_ 8 (d := dd "check_hold" s_check_hold) rfl
  have b4 : Binds K fd4 ["hold"] [] := FunD.bindsN (ps := ["hold"]) F4 fun _ _ _ _ _ _ us hl => match us, hl with | [_], _ => rfl
  obtain ⟨fd5, F5⟩ := c.def_ 9 (d := ⟨("Page", some "__init__"), "__init__", "Page.__init__", defArgs s_Page___init__, defBody s_Page___init__, defScope s_Page___init__, [.str (S []), .int 0], [("hold", .int 2)]⟩) rfl
  obtain ⟨fd6, F6⟩ := c.def_ 10 (d := dm "Page" "line_start_at" s_Page_line_start_at) rfl
  have b6 : Binds K fd6 ["self", "place"] [] := FunD.bindsN (ps := ["self", "place"]) F6 fun _ _ _ _ _ _ us hl => match us, hl with | [_, _], _ => rfl
  obtain ⟨fd7, F7⟩ := c.def_ 11 (d := dm "Page" "move_to" s_Page_move_to) rfl
  have b7 : Binds K fd7 ["self", "place"] [] := FunD.bindsN (ps := ["self", "place"]) F7 fun _ _ _ _ _ _ us hl => match us, hl with | [_, _], _ => rfl
  obtain ⟨fd8, F8⟩ := c.def_ 12 (d := dm "Page" "ahead" s_Page_ahead) rfl
  have b8 : Binds K fd8 ["self"] [] := FunD.bindsN (ps := ["self"]) F8 fun _ _ _ _ _ _ us hl => match us, hl with | [_], _ => rfl
  obtain ⟨fd9, F9⟩ := c.def_ 13 (d := dm "Page" "advance_caret" s_Page_advance_caret) rfl
  have b9 : Binds K fd9 ["self"] [] := FunD.bindsN (ps := ["self"]) F9 fun _ _ _ _ _ _ us hl => match us, hl with | [_], _ => rfl
  obtain ⟨fd10, F10⟩ := c.def_ 14 (d := dm "Page" "pass_sign" s_Page_pass_sign) rfl
  have b10 : Binds K fd10 ["self"] [] := FunD.bindsN (ps := ["self"]) F10 fun _ _ _ _ _ _ us hl => match us, hl with | [_], _ => rfl
  obtain ⟨fd11, F11⟩ := c.def_ 15 (d := dm "Page" "insert" s_Page_insert) rfl
  have b11 : Binds K fd11 ["self", "signs"] [] := FunD.bindsN (ps := ["self", "signs"]) F11 fun _ _ _ _ _ _ us hl => match us, hl with | [_, _], _ => rfl
  obtain ⟨fd12, F12⟩ := c.def_ 16 (d := dm "Page" "take_one" s_Page_take_one) rfl
  have b12 : Binds K fd12 ["self", "key"] [] := FunD.bindsN (ps := ["self", "key"]) F12 fun _ _ _ _ _ _ us hl => match us, hl with | [_, _], _ => rfl
  obtain ⟨fd13, F13⟩ := c.def_ 17 (d := dm "Page" "travel" s_Page_travel) rfl
  have b13 : Binds K fd13 ["self", "key", "sign"] [] := FunD.bindsN (ps := ["self", "key", "sign"]) F13 fun _ _ _ _ _ _ us hl => match us, hl with | [_, _, _], _ => rfl
  obtain ⟨fd14, F14⟩ := c.def_ 18 (d := dm "Page" "use_mark" s_Page_use_mark) rfl
  have b14 : Binds K fd14 ["self", "key"] [] := FunD.bindsN (ps := ["self", "key"]) F14 fun _ _ _ _ _ _ us hl => match us, hl with | [_, _], _ => rfl
  obtain ⟨fd15, F15⟩ := c.def_ 19 (d := dm "Page" "act" s_Page_act) rfl
  have b15 : Binds K fd15 ["self", "key", "sign"] [] := FunD.bindsN (ps := ["self", "key", "sign"]) F15 fun _ _ _ _ _ _ us hl => match us, hl with | [_, _, _], _ => rfl
  obtain ⟨fd16, F16⟩ := c.def_ 20 (d := dm "Page" "press" s_Page_press) rfl
  have b16 : Binds K fd16 ["self", "key"] [] := FunD.bindsN (ps := ["self", "key"]) F16 fun _ _ _ _ _ _ us hl => match us, hl with | [_, _], _ => rfl
  obtain ⟨fd17, F17⟩ := c.def_ 21 (d := dm "Page" "copy" s_Page_copy) rfl
  have b17 : Binds K fd17 ["self"] [] := FunD.bindsN (ps := ["self"]) F17 fun _ _ _ _ _ _ us hl => match us, hl with | [_], _ => rfl
  obtain ⟨fd18, F18⟩ := c.def_ 22 (d := dd "_law_signs" s_signs) rfl
  have b18 : Binds K fd18 [] [] := FunD.bindsN (ps := []) F18 fun _ _ _ _ _ _ us hl => match us, hl with | [], _ => rfl
  obtain ⟨fd19, F19⟩ := c.def_ 23 (d := dd "_law_box" s_box) rfl
  have b19 : Binds K fd19 ["_law_script"] [] := FunD.bindsN (ps := ["_law_script"]) F19 fun _ _ _ _ _ _ us hl => match us, hl with | [_], _ => rfl
  obtain ⟨fd20, F20⟩ := c.def_ 24 (d := dd "_law_take" s_take) rfl
  have b20 : Binds K fd20 ["_law_box_here", "_law_size"] [] := FunD.bindsN (ps := ["_law_box_here", "_law_size"]) F20 fun _ _ _ _ _ _ us hl => match us, hl with | [_, _], _ => rfl
  obtain ⟨fd21, F21⟩ := c.def_ 25 (d := dd "_law_text" s_text) rfl
  have b21 : Binds K fd21 ["_law_box_here", "_law_signs_here", "_law_most"] [] := FunD.bindsN (ps := ["_law_box_here", "_law_signs_here", "_law_most"]) F21 fun _ _ _ _ _ _ us hl => match us, hl with | [_, _, _], _ => rfl
  obtain ⟨fd22, F22⟩ := c.def_ 26 (d := dd "_law_key" s_lkey) rfl
  have b22 : Binds K fd22 ["_law_box_here", "_law_signs_here"] [] := FunD.bindsN (ps := ["_law_box_here", "_law_signs_here"]) F22 fun _ _ _ _ _ _ us hl => match us, hl with | [_, _], _ => rfl
  obtain ⟨fd23, F23⟩ := c.def_ 27 (d := dd "_law_insert" s_linsert) rfl
  have b23 : Binds K fd23 ["_law_page", "_law_hold", "_law_signs_here"] [] := FunD.bindsN (ps := ["_law_page", "_law_hold", "_law_signs_here"]) F23 fun _ _ _ _ _ _ us hl => match us, hl with | [_, _, _], _ => rfl
  obtain ⟨fd24, F24⟩ := c.def_ 28 (d := dd "_law_pass" s_lpass) rfl
  have b24 : Binds K fd24 ["_law_page", "_law_hold"] [] := FunD.bindsN (ps := ["_law_page", "_law_hold"]) F24 fun _ _ _ _ _ _ us hl => match us, hl with | [_, _], _ => rfl
  obtain ⟨fd25, F25⟩ := c.def_ 29 (d := dd "_law_stops" s_lstops) rfl
  have b25 : Binds K fd25 ["_law_key_here", "_law_sign", "_law_ahead"] [] := FunD.bindsN (ps := ["_law_key_here", "_law_sign", "_law_ahead"]) F25 fun _ _ _ _ _ _ us hl => match us, hl with | [_, _, _], _ => rfl
  obtain ⟨fd26, F26⟩ := c.def_ 30 (d := dd "_law_marked" s_lmarked) rfl
  have b26 : Binds K fd26 ["_law_page", "_law_hold", "_law_key_here"] [] := FunD.bindsN (ps := ["_law_page", "_law_hold", "_law_key_here"]) F26 fun _ _ _ _ _ _ us hl => match us, hl with | [_, _, _], _ => rfl
  obtain ⟨fd27, F27⟩ := c.def_ 31 (d := dd "_law_press" s_lpress) rfl
  have b27 : Binds K fd27 ["_law_page", "_law_hold", "_law_key_here", "_law_sign"] [] := FunD.bindsN (ps := ["_law_page", "_law_hold", "_law_key_here", "_law_sign"]) F27 fun _ _ _ _ _ _ us hl => match us, hl with | [_, _, _, _], _ => rfl
  obtain ⟨fd28, F28⟩ := c.def_ 32 (d := dd "_law_same_page" s_lsame) rfl
  have b28 : Binds K fd28 ["_law_page", "_law_due"] [] := FunD.bindsN (ps := ["_law_page", "_law_due"]) F28 fun _ _ _ _ _ _ us hl => match us, hl with | [_, _], _ => rfl
  obtain ⟨fd29, F29⟩ := c.def_ 33 (d := dd "_law_move" s_lmove) rfl
  have b29 : Binds K fd29 ["_law_page", "_law_due", "_law_place"] [] := FunD.bindsN (ps := ["_law_page", "_law_due", "_law_place"]) F29 fun _ _ _ _ _ _ us hl => match us, hl with | [_, _, _], _ => rfl
  obtain ⟨fd30, F30⟩ := c.def_ 34 (d := dd "_law_refused" s_lrefused) rfl
  have b30 : Binds K fd30 ["_law_page", "_law_key_here"] [] := FunD.bindsN (ps := ["_law_page", "_law_key_here"]) F30 fun _ _ _ _ _ _ us hl => match us, hl with | [_, _], _ => rfl
  obtain ⟨fd31, F31⟩ := c.def_ 35 (d := dd "law" s_law) rfl
  have b31 : Binds K fd31 ["_law_script"] [] := FunD.bindsN (ps := ["_law_script"]) F31 fun _ _ _ _ _ _ us hl => match us, hl with | [_], _ => rfl
  obtain ⟨ap0, fdp0, hpp0, Fp0⟩ := c0.prop 0 (p := ("Page", "held", ⟨("Page", some "held"), "held", "Page.held", defArgs s_Page_held, defBody s_Page_held, defScope s_Page_held, [], []⟩)) rfl
  have bp0 : Binds K fdp0 ["self"] [] := FunD.bindsN (ps := ["self"]) Fp0 fun _ _ _ _ _ _ us hl => match us, hl with | [_], _ => rfl
  obtain ⟨ap1, fdp1, hpp1, Fp1⟩ := c0.prop 1 (p := ("Page", "fresh", ⟨("Page", some "fresh"), "fresh", "Page.fresh", defArgs s_Page_fresh, defBody s_Page_fresh, defScope s_Page_fresh, [], []⟩)) rfl
  have bp1 : Binds K fdp1 ["self"] [] := FunD.bindsN (ps := ["self"]) Fp1 fun _ _ _ _ _ _ us hl => match us, hl with | [_], _ => rfl
  obtain ⟨ap2, fdp2, hpp2, Fp2⟩ := c0.prop 2 (p := ("Page", "spot", ⟨("Page", some "spot"), "spot", "Page.spot", defArgs s_Page_spot, defBody s_Page_spot, defScope s_Page_spot, [], []⟩)) rfl
  have bp2 : Binds K fdp2 ["self"] [] := FunD.bindsN (ps := ["self"]) Fp2 fun _ _ _ _ _ _ us hl => match us, hl with | [_], _ => rfl
  have e := hfa.symm.trans (He.glo_ok X G (c.fact 18 (f := .glo "law") rfl))
  cases e
  have bA := FunD.bindsA (ps := ["_law_script"]) F31 fun _ _ _ _ _ _ us hl => match us, hl with | [_], _ => rfl
  refine ⟨fd31, fun s v => bA s [v] rfl, fun base _ _ => ?_⟩
  have x_InvalidText : Ex1 P w K mg base "InvalidText" "place" (ga K "InvalidText") := He.ex1_ok X G (more 0 _ rfl) (ok_InvalidText (He.oexB_ok (He.ba (He.ba (more 0 _ rfl)).2).1) (He.eqO_ok (He.ba (He.ba (He.ba (He.ba (He.ba (more 0 _ rfl)).2).2).2).2).1) Fx0) bx0
  have x_InvalidPlace : Ex1 P w K mg base "InvalidPlace" "place" (ga K "InvalidPlace") := He.ex1_ok X G (more 1 _ rfl) (ok_InvalidPlace (He.oexB_ok (He.ba (He.ba (more 1 _ rfl)).2).1) (He.eqO_ok (He.ba (He.ba (He.ba (He.ba (He.ba (more 1 _ rfl)).2).2).2).2).1) Fx1) bx1
  have x_InvalidKey : Ex1 P w K mg base "InvalidKey" "key" (ga K "InvalidKey") := He.ex1_ok X G (more 2 _ rfl) (ok_InvalidKey (He.oexB_ok (He.ba (He.ba (more 2 _ rfl)).2).1) (He.eqO_ok (He.ba (He.ba (He.ba (He.ba (He.ba (more 2 _ rfl)).2).2).2).2).1) Fx2) bx2
  have x_InvalidHold : Ex1 P w K mg base "InvalidHold" "hold" (ga K "InvalidHold") := He.ex1_ok X G (more 3 _ rfl) (ok_InvalidHold (He.oexB_ok (He.ba (He.ba (more 3 _ rfl)).2).1) (He.eqO_ok (He.ba (He.ba (He.ba (He.ba (He.ba (more 3 _ rfl)).2).2).2).2).1) Fx3) bx3
  have Z : TP K := ⟨He.cls_ok (c.fact 35 (f := .cls "Page") rfl), He.noat_ok (c.fact 38 (f := .noat "Page" "text") rfl), He.noat_ok (c.fact 39 (f := .noat "Page" "caret") rfl), He.noat_ok (c.fact 40 (f := .noat "Page" "mark") rfl), He.noat_ok (c.fact 41 (f := .noat "Page" "kept") rfl), He.noat_ok (c.fact 42 (f := .noat "Page" "returned") rfl), He.noat_ok (c.fact 43 (f := .noat "Page" "hold") rfl)⟩
  have Y : TW K := ⟨He.exm_ok (c.fact 33 (f := .exm "InvalidPlace" "InvalidPlace" true) rfl), He.exm_ok (c.fact 34 (f := .exm "InvalidKey" "InvalidKey" true) rfl)⟩
  have c_is_word_sign : KCal P w K mg base 1 "is_word_sign" spIsWord [] := kcal (ok_is_word_sign T F0) (He.glo_ok X G (c.fact 0 (f := .glo "is_word_sign") rfl)) F0.kp b0
  have c_check_text : KCal P w K mg base 3 "check_text" (spCheckText K) [] := kcal (ok_check_text T x_InvalidText F1) (He.glo_ok X G (c.fact 1 (f := .glo "check_text") rfl)) F1.kp b1
  have c_check_place : KCal P w K mg base 3 "check_place" (spCheckPlace K) [] := kcal (ok_check_place T x_InvalidPlace F2) (He.glo_ok X G (c.fact 2 (f := .glo "check_place") rfl)) F2.kp b2
  have c_is_key : KCal P w K mg base 1 "is_key" spIsKey [] := kcal (ok_is_key T F3) (He.glo_ok X G (c.fact 3 (f := .glo "is_key") rfl)) F3.kp b3
  have c_check_hold : KCal P w K mg base 3 "check_hold" (spCheckHold K) [] := kcal (ok_check_hold T x_InvalidHold F4) (He.glo_ok X G (c.fact 4 (f := .glo "check_hold") rfl)) F4.kp b4
  have ok_i := ok_Page___init__ (P := P) (w := w) (mg := mg) (base := base) T Z c_check_text c_check_place c_check_hold F5
  obtain ⟨gI, bI⟩ := pg_b2 F5
  have k_Page_2_hold : KMak P w K mg base 4 "Page" (ga K "Page") 2 ["hold"] (spInit K) (fun vs zs => vs ++ zs) := ⟨_, _, _, gI, He.mkr_ok (c.fact 36 (f := .mkr "Page") rfl), ok_i, He.glo_ok X G (c.fact 37 (f := .glo "Page") rfl), bI⟩
  obtain ⟨ds1, v1, bI1⟩ := pg_b1 F5
  have k_Page_1 : KMap P w K mg base 4 "Page" (ga K "Page") (spInit K) [.int 0, .int 2] := ⟨_, _, _, ds1, He.mkr_ok (c.fact 36 (f := .mkr "Page") rfl), ok_i, He.glo_ok X G (c.fact 37 (f := .glo "Page") rfl), bI1, v1⟩
  obtain ⟨ds0, v0, bI0⟩ := pg_b0 F5
  have k_Page_0 : KMap P w K mg base 4 "Page" (ga K "Page") (spInit K) [.str (S []), .int 0, .int 2] := ⟨_, _, _, ds0, He.mkr_ok (c.fact 36 (f := .mkr "Page") rfl), ok_i, He.glo_ok X G (c.fact 37 (f := .glo "Page") rfl), bI0, v0⟩
  have m_Page_line_start_at : KMet P w K mg base 1 (ga K "Page") "line_start_at" (spLineStart K) := ⟨_, _, _, He.cls_ok (c.fact 35 (f := .cls "Page") rfl), He.meth_ok (c.fact 44 (f := .meth "Page" "line_start_at") rfl), ok_Page_line_start_at Z F6, b6⟩
  have m_Page_move_to : KMet P w K mg base 4 (ga K "Page") "move_to" (spMove K) := ⟨_, _, _, He.cls_ok (c.fact 35 (f := .cls "Page") rfl), He.meth_ok (c.fact 45 (f := .meth "Page" "move_to") rfl), ok_Page_move_to T Z c_check_place F7, b7⟩
  have m_Page_ahead : KMet P w K mg base 1 (ga K "Page") "ahead" (spAhead K) := ⟨_, _, _, He.cls_ok (c.fact 35 (f := .cls "Page") rfl), He.meth_ok (c.fact 46 (f := .meth "Page" "ahead") rfl), ok_Page_ahead Z F8, b8⟩
  have m_Page_advance_caret : KMet P w K mg base 1 (ga K "Page") "advance_caret" (spTurn K Pg.adv) := ⟨_, _, _, He.cls_ok (c.fact 35 (f := .cls "Page") rfl), He.meth_ok (c.fact 47 (f := .meth "Page" "advance_caret") rfl), ok_Page_advance_caret Z F9, b9⟩
  have m_Page_pass_sign : KMet P w K mg base 2 (ga K "Page") "pass_sign" (spTurn K Pg.pass) := ⟨_, _, _, He.cls_ok (c.fact 35 (f := .cls "Page") rfl), He.meth_ok (c.fact 48 (f := .meth "Page" "pass_sign") rfl), ok_Page_pass_sign T Z m_Page_advance_caret F10, b10⟩
  have m_Page_insert : KMet P w K mg base 2 (ga K "Page") "insert" (spIns K) := ⟨_, _, _, He.cls_ok (c.fact 35 (f := .cls "Page") rfl), He.meth_ok (c.fact 49 (f := .meth "Page" "insert") rfl), ok_Page_insert Z m_Page_advance_caret F11, b11⟩
  have m_Page_take_one : KMet P w K mg base 3 (ga K "Page") "take_one" (spKey K [62, 120] Pg.takeOne) := ⟨_, _, _, He.cls_ok (c.fact 35 (f := .cls "Page") rfl), He.meth_ok (c.fact 50 (f := .meth "Page" "take_one") rfl), ok_Page_take_one T Z m_Page_ahead m_Page_pass_sign F12, b12⟩
  have m_Page_travel : KMet P w K mg base 3 (ga K "Page") "travel" (spKeyS K) := ⟨_, _, _, He.cls_ok (c.fact 35 (f := .cls "Page") rfl), He.meth_ok (c.fact 51 (f := .meth "Page" "travel") rfl), ok_Page_travel T Z c_is_word_sign m_Page_ahead m_Page_pass_sign F13, b13⟩
  have p_Page_held : KPrp P w K mg base 1 (ga K "Page") "held" (spHeld K) := ⟨_, _, _, _, He.cls_ok (c.fact 35 (f := .cls "Page") rfl), hpp0, ok_Page_held Z Fp0, bp0⟩
  have p_Page_fresh : KPrp P w K mg base 2 (ga K "Page") "fresh" (spFresh K) := ⟨_, _, _, _, He.cls_ok (c.fact 35 (f := .cls "Page") rfl), hpp1, ok_Page_fresh Z m_Page_line_start_at Fp1, bp1⟩
  have p_Page_spot : KPrp P w K mg base 1 (ga K "Page") "spot" (spSpot K) := ⟨_, _, _, _, He.cls_ok (c.fact 35 (f := .cls "Page") rfl), hpp2, ok_Page_spot Z Fp2, bp2⟩
  have m_Page_use_mark : KMet P w K mg base 3 (ga K "Page") "use_mark" (spKey K [98, 107, 99] Pg.useMark) := ⟨_, _, _, He.cls_ok (c.fact 35 (f := .cls "Page") rfl), He.meth_ok (c.fact 52 (f := .meth "Page" "use_mark") rfl), ok_Page_use_mark T Z p_Page_held F14, b14⟩
  have m_Page_act : KMet P w K mg base 5 (ga K "Page") "act" (spAct K) := ⟨_, _, _, He.cls_ok (c.fact 35 (f := .cls "Page") rfl), He.meth_ok (c.fact 53 (f := .meth "Page" "act") rfl), ok_Page_act T Z m_Page_ahead p_Page_fresh m_Page_insert m_Page_take_one m_Page_use_mark m_Page_travel F15, b15⟩
  have m_Page_press : KMet P w K mg base 6 (ga K "Page") "press" (spPress K) := ⟨_, _, _, He.cls_ok (c.fact 35 (f := .cls "Page") rfl), He.meth_ok (c.fact 54 (f := .meth "Page" "press") rfl), ok_Page_press T Z x_InvalidKey c_is_key m_Page_act F16, b16⟩
  have m_Page_copy : KMet P w K mg base 6 (ga K "Page") "copy" (spCopy K) := ⟨_, _, _, He.cls_ok (c.fact 35 (f := .cls "Page") rfl), He.meth_ok (c.fact 55 (f := .meth "Page" "copy") rfl), ok_Page_copy T Z k_Page_2_hold F17, b17⟩
  have c__law_signs : KCal P w K mg base 1 "_law_signs" spSigns [] := kcal (ok_signs F18) (He.glo_ok X G (c.fact 5 (f := .glo "_law_signs") rfl)) F18.kp b18
  have c__law_box : KCal P w K mg base 1 "_law_box" (spBox K) [] := kcal (ok_box T F19) (He.glo_ok X G (c.fact 6 (f := .glo "_law_box") rfl)) F19.kp b19
  have c__law_take : KCal P w K mg base 1 "_law_take" spTake [] := kcal (ok_take T F20) (He.glo_ok X G (c.fact 7 (f := .glo "_law_take") rfl)) F20.kp b20
  have c__law_text : KCal P w K mg base 2 "_law_text" spText [] := kcal (ok_text T c__law_take F21) (He.glo_ok X G (c.fact 8 (f := .glo "_law_text") rfl)) F21.kp b21
  have c__law_key : KCal P w K mg base 2 "_law_key" spLKey [] := kcal (ok_lkey T c__law_take F22) (He.glo_ok X G (c.fact 9 (f := .glo "_law_key") rfl)) F22.kp b22
  have c__law_insert : KCal P w K mg base 1 "_law_insert" spLIns [] := kcal (ok_linsert T F23) (He.glo_ok X G (c.fact 10 (f := .glo "_law_insert") rfl)) F23.kp b23
  have c__law_pass : KCal P w K mg base 1 "_law_pass" (spLTurn Pg.pass) [] := kcal (ok_lpass T F24) (He.glo_ok X G (c.fact 11 (f := .glo "_law_pass") rfl)) F24.kp b24
  have c__law_stops : KCal P w K mg base 1 "_law_stops" spLStops [] := kcal (ok_lstops T F25) (He.glo_ok X G (c.fact 12 (f := .glo "_law_stops") rfl)) F25.kp b25
  have c__law_marked : KCal P w K mg base 1 "_law_marked" spLMarked [] := kcal (ok_lmarked T F26) (He.glo_ok X G (c.fact 13 (f := .glo "_law_marked") rfl)) F26.kp b26
  have c__law_press : KCal P w K mg base 2 "_law_press" spLPress [] := kcal (ok_lpress T c__law_insert c__law_pass c__law_stops c__law_marked F27) (He.glo_ok X G (c.fact 14 (f := .glo "_law_press") rfl)) F27.kp b27
  have c__law_same_page : KCal P w K mg base 4 "_law_same_page" (spLSame K) [] := kcal (ok_lsame T Z p_Page_spot p_Page_fresh p_Page_held F28) (He.glo_ok X G (c.fact 15 (f := .glo "_law_same_page") rfl)) F28.kp b28
  have c__law_move : KCal P w K mg base 6 "_law_move" (spLMove K) [] := kcal (ok_lmove T Z Y x_InvalidPlace m_Page_move_to F29) (He.glo_ok X G (c.fact 16 (f := .glo "_law_move") rfl)) F29.kp b29
  have c__law_refused : KCal P w K mg base 8 "_law_refused" (spLRefused K) [] := kcal (ok_lrefused T Z Y x_InvalidKey m_Page_press F30) (He.glo_ok X G (c.fact 17 (f := .glo "_law_refused") rfl)) F30.kp b30
  exact ok0 (ok_law T Z c__law_box c__law_signs c__law_take c__law_text c__law_key c__law_press c__law_same_page c__law_move c__law_refused m_Page_press m_Page_copy k_Page_2_hold F31) fun _ _ _ _ h => h
end Kr
open PySem PySem.W PySem.Calls PyProof.Rows
set_option maxRecDepth 100000 in
set_option maxHeartbeats 0 in
theorem PySem.Challenge.cw_keyreel_k12_whole_pages_holds : PySem.Challenge.rw_keyreel_k12_whole_pages.Holds := by
  w_on; o_law
  refine HandSHeadRun.head_any (r := OpenLaw.row PySem.Challenge.rw_keyreel_k12_whole_pages) (q := view (OpenLaw.row PySem.Challenge.rw_keyreel_k12_whole_pages).prog [39]) (H := Kr.hk) (ob := Kr.ob) (M := 6000) (loose := Kr.loose) (d := HandSHeadRun.topDef (OpenLaw.row PySem.Challenge.rw_keyreel_k12_whole_pages).prog 39) (kwd := []) Kr.ob_eq
    (by kernel_rfl) (fun s => by kernel_rfl) Kr.run (by kernel_rfl) (by kernel_rfl) (by kernel_rfl) (by rfl) (by first | assumption | decide +kernel) (by decide +kernel) ⟨rfl, rfl, rfl, rfl, rfl, by decide +kernel⟩ ?hw ?hc
  case hw => w_witness2
  case hc =>
    refine L2.walk_ofE (l := PySem.Challenge.rw_keyreel_k12_whole_pages) (n := 63) (k := 9) (x := "_law_script") (CX := L2.CX0) rfl (by decide) (by kernel_rfl) ⟨rfl, by decide, by decide⟩ ?F (fun _ _ _ _ z => z)
    intro w mg fa h Y G hmg0
    obtain ⟨K, KX, c⟩ := Y
    have hmg : mg ("law" : PySem.Str) = some (.ref fa) := by
      have e : (HandSHeadRun.topDef (OpenLaw.row PySem.Challenge.rw_keyreel_k12_whole_pages).prog 39).name = ("law" : PySem.Str) := by kernel_rfl
      rw [← e]
      exact hmg0
    obtain ⟨fd, hb, hF⟩ := Kr.facts (P := (PySem.Challenge.rw_keyreel_k12_whole_pages).prog) (w := w) KX G hmg c
    exact ⟨K, fd, Kr.spLaw K, KX, hb, fun H a ns hl _ hS => ⟨a, ns, rfl, hS, fun _ => rfl⟩, hF⟩
#print axioms PySem.Challenge.cw_keyreel_k12_whole_pages_holds
