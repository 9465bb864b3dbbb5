import PyProof.Rows.All
import Wide.All
import OpenK.AllK
import Wide.FinOn
import HandS.ForMost
import HandS.ForExc
import HandS.Wide
import HandS.Flow
import HandS.Walk
import HandS.IsInst
import HandS.ExcInit
import HandS.ExcField
import HandS.ExcIs
import HandS.Defaults
import HandS.Codes
import HandS.CallSlots
import HandS.TryOnly
import HandS.Evl
import HandS.Property
import HandS.MakeKw
import HandS.MakeKwOnly
import HandS.Style
import HandS.Head0
import HandS.Head1
import HandS.Head2
import HandS.HeadEnd
import HandS.HeadHook1
import HandS.HeadHook2
import HandS.HeadHook3
import HandS.HeadHook4
import HandS.HeadWalk
import HandS.ClsMeth
import HandS.HeadNt
import HandS.TupAny
import HandS.RaiseMore
import KE.KCallOwn
import KE.GoesMore
import PyProof.P3Eq
import HandS.FStr
import KE.KxField
import HandS.ReplaceLit
import HandS.ReplaceDef
import HandS.ReplaceList
import PyProof.StrBlock2
import HandS.SlotsOwn
import HandS.TryMany
import PyProof.ListMulRight
import HandS.Star
import HandS.Small
import HandS.DictComp
import HandS.TupSets
import HandS.SetKeys
import KE.KeyNested
import HandS.StrMore
import PyProof.Rows.StrCut
import HandS.GenList
import PySem.Challenge.RW_keyreel_k19_first_error_of_a_play
set_option Elab.async false
set_option linter.all false
set_option maxRecDepth 100000
set_option maxHeartbeats 2000000
namespace L2
open PySem PySem.Spec PyProof.Rows
/-! ### enumerate(text) -/
def Ites (x : Str) : It := ⟨fun i _ => i < x.cps.size, fun i H v H' => ∃ T c, v = .ref T ∧ H T = none ∧ H' = upd H T (.tup [.int (i : Nat), .str ⟨#[c]⟩]) ∧ x.cps[i]? = some c, fun i _ => i = x.cps.size⟩
theorem turn_enumS {P : Program} {w : World} {K : PySem.W.Frag} {elts : List Expr} {kk : Nat} {tpos : Pos} (x : Str) (t : Tok) (ty : String) (hty : ty = "str_ascii_iterator" ∨ ty = "str_iterator") (e it : Addr) :
    Turn P w K (.Tuple elts kk tpos) (Ites x) [e, it] e (fun i h => (∃ old, IsEnum h e it ((i : Nat) : Int) old) ∧ h.IsStrIter it ty x t i ∧ e ≠ it) where
  mem := by simp
  obj := fun i h st b hb => by
    obtain ⟨⟨old, he⟩, ⟨o, ho, hc, hd⟩, _⟩ := st
    have e' : b = e ∨ b = it := by simpa using hb
    rcases e' with z | z
    · rw [z]; exact ⟨_, he, fun v q => nomatch q⟩
    · rw [z]; exact ⟨o, ho, fun v q => by rw [hd] at q; cases q⟩
  keep := fun i h h' st k => by
    obtain ⟨⟨old, he⟩, ⟨o, ho, r⟩, hne⟩ := st
    exact ⟨⟨old, k e (by simp) _ he⟩, ⟨o, k it (by simp) o ho, r⟩, hne⟩
  item := by
    intro X hP hw hK hc i pins s σ H E I hf st hg
    subst hP hw hK
    obtain ⟨⟨old, he⟩, hit, hne⟩ := st
    have D : Draws X.prog X.w X.A.in1 it [it] x.cps.size (fun i v => ∃ c u, x.cps[i]? = some c ∧ v = .str ⟨#[c]⟩ u) (fun i h => h.IsStrIter it ty x t i) := by
      rcases hty with e | e
      · rw [e]; exact Draws.strAscii (show X.A.in1.handled = none from I.ok.hd hc) it x t
      · rw [e]; exact Draws.strWide (show X.A.in1.handled = none from I.ok.hd hc) it x t
    have hel : e < s.heap.objs.size := Heap.lt_size he
    have hil : it < s.heap.objs.size := by obtain ⟨_, q, _⟩ := hit; exact Heap.lt_size q
    refine wpAny_pyNext_enum_itemD D he hit hg hne (by simpa using hne) fun v h' tk hv ho hit' hT hsz hk => ?_
    obtain ⟨c, u, hcx, rfl⟩ := hv
    refine ⟨_, rfl, wpAny_letOwnedTupleGo_enum (s := { s with heap := h', toks := tk + 1 }) ho fun h'' he' sb => ?_⟩
    have hT2 : h''.get? s.heap.objs.size = some { cls := .type "tuple", data := .seq #[.int i tk, .str ⟨#[c]⟩ u] } := (sb.2 _ (Nat.ne_of_gt hel)).trans hT
    have new : ObjOk X.prog X.w (upd H s.heap.objs.size (.tup [.int (i : Nat), .str ⟨#[c]⟩])) h'' s.heap.objs.size (.tup [.int (i : Nat), .str ⟨#[c]⟩]) :=
      ⟨by show 2 ≤ sizeLine; decide, [.int i tk, .str ⟨#[c]⟩ u], .cons ⟨_, rfl⟩ (.cons ⟨_, rfl⟩ .nil), ⟨_, hT2, rfl, _, rfl⟩⟩
    have I1 : Inv X pins σ (upd H s.heap.objs.size (.tup [.int (i : Nat), .str ⟨#[c]⟩])) { s with heap := h'', toks := tk + 1 } :=
      I.turnedNew (ch := [e, it]) (fun b ob hb q => (sb.2 b (fun z => hb (by simp [z]))).trans (hk b ob (fun z => hb (by simp [z])) (fun z => hb (by simp [z])) q)) hf (Nat.le_refl _) new
    refine ⟨.ref s.heap.objs.size, _, I1, rfl, ⟨_, c, rfl, I.hok.fresh (Nat.le_refl _), rfl, hcx⟩, ⟨⟨.str ⟨#[c]⟩ u, ?_⟩, ?_, hne⟩, fun b hb => ?_⟩
    · have e1 : ((i + 1 : Nat) : Int) = (i : Int) + 1 := by omega
      rw [e1]; exact he'
    · obtain ⟨o, q, r⟩ := hit'
      exact ⟨o, (sb.2 it (Ne.symm hne)).trans q, r⟩
    · have hb' : b < s.heap.objs.size := by
        have e' : b = e ∨ b = it := by simpa using hb
        rcases e' with z | z
        · rw [z]; exact hel
        · rw [z]; exact hil
      rw [upd_ne (Nat.ne_of_lt hb')]
      exact (hf b hb).1
  done := by
    intro X hP hw hK hc i pins s σ H E I hf st hg
    subst hP hw hK
    obtain ⟨⟨old, he⟩, hit, hne⟩ := st
    have D : Draws X.prog X.w X.A.in1 it [it] x.cps.size (fun i v => ∃ c u, x.cps[i]? = some c ∧ v = .str ⟨#[c]⟩ u) (fun i h => h.IsStrIter it ty x t i) := by
      rcases hty with e | e
      · rw [e]; exact Draws.strAscii (show X.A.in1.handled = none from I.ok.hd hc) it x t
      · rw [e]; exact Draws.strWide (show X.A.in1.handled = none from I.ok.hd hc) it x t
    obtain ⟨f0, f1, f2, f3, f4, f5⟩ := hf it (by simp)
    have hg' : i = x.cps.size := hg
    subst hg'
    exact wpAny_pyNext_enum_endD D he hit fun h' eb => ⟨rfl, I.turned (t' := s.toks) (fun b o hb q => eb b o hb q) f0 f1 f3 f4 f5⟩
  self := fun A i s Q E st h => let ⟨⟨_, he⟩, _⟩ := st; wpAny_pyIter_enum he h
def iEnumS (ta : TA) : TI := fun σ H R => ta σ H fun vs H1 => ∃ x, vs = [.str x] ∧ R (Ites x) H1
theorem strIter_cases (x : Str) : strIterType x = "str_ascii_iterator" ∨ strIterType x = "str_iterator" := by
  unfold strIterType
  split
  · exact .inl rfl
  · exact .inr rfl
theorem pi_enumS {X : Cx} {e : Expr} {ta : TA} {p pos tpos : Pos} {elts : List Expr} {kk : Nat} (hg : Gl X "enumerate") (hm : X.mg "enumerate" = none) (ha : PA X [e] ta) (hs : starEach [e] X.env = [(false, eval e X.env)] := by rfl) :
    PI X (.Tuple elts kk tpos) (.Call (.Name "enumerate" p) [e] [] pos) (iEnumS ta) := by
  refine ⟨fun pins s σ H R I h => ?_⟩
  refine Call_ (ld_blt I hg hm boot_enumerate (PyProof.Rows.callWith_type1 (thn (ha.run pos pins s σ H _ I h) fun us s1 ⟨vs, H1, I1, r1, q1⟩ => ?_) hs rfl))
  obtain ⟨x, ex, q⟩ := q1
  subst ex
  cases r1 with
  | cons r rr =>
    cases rr
    obtain ⟨t, rfl⟩ := r
    refine call_enumerate_str fun h' he hit hsz hk => wpAny_pyIter_enum he ?_
    have I2 : Inv X pins σ H1 { s1 with heap := h' } := I1.kept (t' := s1.toks) hk
    refine ⟨s1.heap.objs.size + 1, [s1.heap.objs.size + 1, s1.heap.objs.size], _, _, H1, rfl, I2, turn_enumS x t (strIterType x) (strIter_cases x) (s1.heap.objs.size + 1) s1.heap.objs.size, ⟨⟨.none, he⟩, hit, Nat.succ_ne_self _⟩, fun b hb => ?_, q⟩
    have e' : b = s1.heap.objs.size + 1 ∨ b = s1.heap.objs.size := by simpa using hb
    have hle : s1.heap.objs.size ≤ b := by
      rcases e' with z | z
      · rw [z]; exact Nat.le_add_right _ _
      · rw [z]; exact Nat.le_refl _
    exact I1.fpOk hle (I1.hok.fresh hle)
theorem walk_enumS {z : Str} : Walk (Ites z) z.cps.size (fun _ => True) (YPair (fun i => some (.int (i : Nat))) (fun i => z.cps[i]?.map fun c => V.str ⟨#[c]⟩)) := by
  refine ⟨fun _ _ hi _ => hi, fun _ _ => rfl, fun i H v H' _ _ y => ?_⟩
  obtain ⟨T, c, h1, h2, h3, h4⟩ := y
  exact ⟨T, _, _, h1, h2, h3, rfl, by show Option.map _ _ = _; rw [h4]; rfl⟩
end L2

/-! ### isinstance of a caught error that has a dict -/
namespace PySem.W
open PySem PySem.Spec PySem.Calls PyProof.Rows
section
variable {prog : Program} {w : World} {A : Around} {E : Value → Shared → Prop} {s : Shared} {K : Frag} {x D : Addr} {ox : Obj} {od : Option Obj}
theorem kr_findObj_data {C : Addr} {name : Str} {a g : Value} (hc : (clsIn K C).isSome = true) (ha : findIn K (.ref C) name = some (some a)) (hg : specialIn K a "__get__" = some (some g)) (ht : takesIn K a = some true) : findObj K C od name = some (.bind g a) := by
  obtain ⟨cd, hc⟩ := Option.isSome_iff_exists.mp hc
  unfold findObj
  rw [hc, Option.bind_some, ha, Option.bind_some]
  simp [hg, ht]
theorem kr_classE {Q : Option Value → Shared → Prop} (hga : findIn K (.ref D) "__getattribute__" = some (some (.builtin "BaseException.__getattribute__"))) (hgt : findIn K (.ref D) "__getattr__" = some none) (hsub : subIn K (.ref D) (.type "BaseException") = some true)
    (hdct : hasDictIn K D = true) (ha : findIn K (.ref D) "__class__" = some (some (.builtin "object.__class__")))
    (hn : specialIn K (.builtin "object.__class__") "__get__" = some (some (.builtin "getset_descriptor.__get__"))) (htk : takesIn K (.builtin "object.__class__") = some true) (hm : mroIn K D (.type "object") = some true)
    (X : K.In s.heap) (I : InstAt s.heap x ox D od) (h : Q (some (.ref D)) { s with toks := s.toks + 1 }) : wpAny (model prog w) A (getAttr? (.ref x) "__class__") Q E s := by
  have hf : findObj K D od "__class__" = some (.bind (.builtin "getset_descriptor.__get__") (.builtin "object.__class__")) := kr_findObj_data (by obtain ⟨cd, hc, _⟩ := any_some hdct; rw [hc]; rfl) ha hn htk
  obtain ⟨hp, g, d, t, os⟩ := s
  have L0 := I.type (M := model prog w)
  have L1 := looks_findIn (M := model prog w) X hga
  have L2 := looks_findIn (M := model prog w) X hgt
  have L3 := looks_find (M := model prog w) X I hf
  have sub : Looks (model prog w) hp (isInstance (.ref x) (.type "BaseException")) true := L0.andThen (looks_subIn X hsub)
  have hx0 : (false && onTheHeap (Value.builtin "BaseException.__getattribute__")) = false := rfl
  have hx2 : (Value.builtin "BaseException.__getattribute__" == Value.builtin "object.__getattribute__") = false := by decide +kernel
  have hx1 : (onTheHeap (Value.ref D) && Value.builtin "BaseException.__getattribute__" == Value.builtin "object.__getattribute__") = false := by rw [hx2]; rfl
  unfold getAttr? getAttrBy? getAttrBy
  refine wpAny_bind (wpAny_mkText (wpAny_bind (wpAny_attempt (wpAny_holding (wpAny_bind (L0.at (wpAny_bind (L1.at ?_))))))))
  show wpAny _ _ (if (onTheHeap (Value.ref D) && Value.builtin "BaseException.__getattribute__" == Value.builtin "object.__getattribute__") = true then _ else _) _ _ _
  rw [hx1, if_neg Bool.false_ne_true]
  unfold getAttrByItsOwn hookBefore
  refine wpAny_bind ?_
  rw [if_pos (show onTheHeap (Value.ref D) = true from rfl)]
  refine L2.at ?_
  refine wpAny_bind (wpAny_attempt (wpAny_holding ?_))
  unfold callGetattribute
  rw [hx0, if_neg Bool.false_ne_true]
  unfold boundAndCalled
  rw [PySem.F.excAttr_ValueError.ga.bind (.ref x)]
  refine wpAny_bind (wpAny_pure ?_)
  show wpAny _ _ (call (.builtin "BaseException.__getattribute__") [.ref x, .str "__class__" t]) _ _ _
  refine wpAny_call (codeAny_call_builtin PySem.F.excAttr_ValueError.ga.plain PySem.F.entry_bexc_ga ?_)
  refine @check_slot (model prog w) _ _ ⟨hp, g, d, t + 1, os⟩ "BaseException.__getattribute__" "BaseException" "__getattribute__" (.ref x) [.str "__class__" t] [] _ (by decide +kernel) (by decide +kernel) sub (PySem.F.args_bexc_ga (.ref x) (.str "__class__" t)) ?_
  unfold Builtin.«object.__getattribute__»
  refine wpAny_bind (wpAny_of_eq (a := ((Value.ref x : Value), [Value.str "__class__" t])) (by first | rfl | (simp only [slotArgs]; rfl)) ?_)
  refine wpAny_bind (wpAny_pure (wpAny_bind (L0.at (wpAny_bind (L3.at ?_)))))
  show wpAny _ _ (holding [Value.builtin "object.__class__"] (call (.builtin "getset_descriptor.__get__") [.builtin "object.__class__", .ref x, .ref D]) >>= ret) _ _ _
  refine wpAny_bind (wpAny_holding (wpAny_call (class_get (s := ⟨hp, g, d, t + 1, os⟩) (ox := ox) (od := od) X I hm ?_)))
  refine wpAny_pure ?_
  show wpAny _ _ (handedOut (.ref D)) _ _ _
  rw [handedOut_of (v := .ref D) rfl]
  first
    | exact wpAny_pure (wpAny_pure h)
    | exact wpAny_pure h
    | exact wpAny_pure (wpAny_bind (wpAny_pure (wpAny_pure h)))
theorem kr_kitx_exc (hga : findIn K (.ref D) "__getattribute__" = some (some (.builtin "BaseException.__getattribute__"))) (hgt : findIn K (.ref D) "__getattr__" = some none) (hsub : subIn K (.ref D) (.type "BaseException") = some true) (hdct : hasDictIn K D = true) (ha : findIn K (.ref D) "__class__" = some (some (.builtin "object.__class__")))
    (hn : specialIn K (.builtin "object.__class__") "__get__" = some (some (.builtin "getset_descriptor.__get__"))) (htk : takesIn K (.builtin "object.__class__") = some true) (hm : mroIn K D (.type "object") = some true) :
    KitX K (.ref x) (.ref D) (fun h => InstAt h x ox D od) where
  ty := fun _ _ _ I => I.type
  it := fun _ _ X _ => by
    obtain ⟨cdD, hcD, _⟩ := any_some hdct
    unfold clsIn at hcD
    split at hcD
    · rename_i c' d' cd' sl' ho
      intro A' Q' E' s' k q
      unfold isType loadHead
      exact wpAny_bind (wpAny_loadPart (k _ _ (X _ _ ho)) (wpAny_pure q))
    · cases hcD
  ne := fun h tp dd its n sl X htp => by
    obtain ⟨cdD, hcD, _⟩ := any_some hdct
    refine Bool.eq_false_iff.mpr fun q => ?_
    have e : D = tp := Value.ref.inj (beq_iff_eq.mp q)
    subst e
    unfold clsIn at hcD
    split at hcD
    · rename_i c' d' cd' sl' ho
      have z := (X _ _ ho).symm.trans htp
      cases z
    · cases hcD
  ca := fun X I k => kr_classE hga hgt hsub hdct ha hn htk hm X I k
end
end PySem.W
namespace L2
open PySem PySem.Spec PyProof.Rows
/-- isinstance(e, c), e the error that the suite holds (class at D, dict at dd) -/
def rIsX (K : PySem.W.Frag) (a : Addr) (cls : Value) (d : Option Addr) : List V → Hp → VK → Prop := fun xs H Q => ∃ (c : V) (cv : Value) (b : Bool) (D dd : Addr) (fs : List (Str × V)), xs = [.ref a, c] ∧ cls = .ref D ∧ d = some dd ∧ ExcC K D ∧ H dd = some (.xd fs) ∧ (∀ u, RelV c u → u = cv) ∧ PySem.W.kitOne K (.ref D) cv = some b ∧ Q (.bl b) H
theorem call_isX {X : Cx} {a : Addr} {cls : Value} {d : Option Addr} {oe : Obj} {pn : List (Addr × Obj)} (hz : Zc cls d oe) (hf : ∃ vs, oe.data = .fields vs) : CallR (X.suite a ((a, oe) :: pn)) (.builtin "isinstance") (rIsX X.K a cls d) := by
  intro pins s σ H xs us Q I r h
  obtain ⟨c, cv, b, D, dd, fs, rfl, rfl, rfl, C, hdd, hcv, e, q⟩ := h
  cases r with
  | cons rx rr =>
    cases rr with
    | cons rt rr =>
      cases rr
      cases rx
      have ec := hcv _ rt
      subst ec
      obtain ⟨hget, _⟩ := I.pin (a, oe) (List.mem_append.mpr (.inl List.mem_cons_self))
      obtain ⟨vs, hv⟩ := hf
      have hx : ObjOk X.prog X.w H s.heap dd (.xd fs) := I.hok dd _ hdd
      obtain ⟨mA, hns, hr⟩ := hx
      obtain ⟨od, ho, hl⟩ := lookIn_ns hns
      have J : PySem.W.InstAt s.heap a oe D (some od) := ⟨hget, hz.1, by unfold PySem.W.notCls; rw [hv] <;> rfl, by rw [hz.2]; exact ho⟩
      exact PySem.W.kia_one (PySem.W.kr_kitx_exc C.hg C.hk C.hs C.hd C.ha C.hn C.ht C.hm) I.kIn J e (fun z => nomatch z) fun tk => ⟨.bl b, H, I.kept (t' := tk) fun _ _ z => z, rfl, q⟩
/-! ### an own error with one field: raise X(e) -/
/-- what __init__(self, f): self.f = f promises -/
def spEx1 (C : Addr) (f : Str) : Sp := fun vs H Q _ => ∃ (a : Addr) (v : V), vs = [.ref a, v] ∧ H a = some (exo a C none) ∧ ∀ d, H d = none → d ≠ a → Q .non (upd (upd H d (exd d [(f, v)])) a (exo a C (some d)))
/-- what the class x says -/
structure Ex1 (P : Program) (w : World) (K : PySem.W.Frag) (mg : Str → Option Value) (base : Heap) (x f : Str) (C : Addr) : Prop where
  gC : mg x = some (.ref C)
  T : OexC K C
  no : PySem.W.findIn K (.ref C) f = some none
  xf : XfC K C
  ec : ExcC K C
  ini : ∃ (fI : Addr) (fd : FuncData), PySem.W.findIn K (.ref C) "__init__" = some (some (.ref fI)) ∧ PySem.W.typeIn K (.ref fI) = some (.type "function") ∧ FnOk P w K mg base (CX P w) 1 fI fd ["self", f] (spEx1 C f) ∧ Binds K fd ["self", f] []
theorem pmk1 {X : Cx} {x f : Str} {C : Addr} {e : Expr} {te : TE} {p pos : Pos} {k : Nat} (T : Ex1 X.prog X.w X.K X.mg X.base x f C) (hr : Room k X.A) (h2 : 2 ≤ k) (hg : Gl X x) (he : PE X e te)
    (hdb : (x == ("__debug__" : Str)) = false := by decide) (hs : starEach (e :: []) X.env = (false, eval e X.env) :: starEach [] X.env := by rfl) :
    PMk X (.Call (.Name x p) [e] [] pos) (tMkO C (spEx1 C f) [] (tCons te tNil)) := by
  obtain ⟨fI, fd, iC, tI, F1, b⟩ := T.ini
  have hx : Passes (CX X.prog X.w) X (fun _ _ _ => False) := passL
  exact pmk_oex (p := p) (pos := pos) T.T iC tI F1 (hr.mono (show 1 + 1 ≤ k from h2)) b .nil hx hg T.gC (pa_cons he pa_nil hs) hdb hs rfl
theorem ps_raise1 {X : Cx} {W : WX} {x f : Str} {C : Addr} {e : Expr} {te : TE} {p pos pos2 : Pos} {k : Nat} (hc : X.calm = true) (tk : Takes X W) (T : Ex1 X.prog X.w X.K X.mg X.base x f C) (hr : Room k X.A) (h2 : 2 ≤ k) (hg : Gl X x) (he : PE X e te)
    (hdb : (x == ("__debug__" : Str)) = false := by decide) (hs : starEach (e :: []) X.env = (false, eval e X.env) :: starEach [] X.env := by rfl) :
    PS X (.Raise (some (.Call (.Name x p) [e] [] pos)) none pos2) (fun _ σ H => tMkO C (spEx1 C f) [] (tCons te tNil) σ H fun cls d H' => W cls d σ H') := ps_raise hc tk (pmk1 T hr h2 hg he hdb hs)
/-- the end of raise X(v) -/
theorem mk1_end {C : Addr} {f : Str} {v : V} {H : Hp} {Q : XK} (h : ∀ d, H d = none → Q (.ref C) (some d) (upd H d (.xd [(f, v)]))) :
    [v].length ≤ 1000 ∧ ∀ a, H a = none → spEx1 C f (.ref a :: ([v] ++ [])) (upd H a (exo a C none))
      (fun u H2 => u = .non ∧ ∃ (d : Addr) (fs : List (Str × V)), H2 a = some (exo a C (some d)) ∧ H2 d = some (exd d fs) ∧ H d = none ∧ Q (.ref C) (some d) (upd (del H2 a) d (.xd fs))) (fun _ _ _ => False) := by
  refine ⟨by simp, fun a ha => ⟨a, v, rfl, upd_same, fun d hd hne => ⟨rfl, d, [(f, v)], upd_same, ?_, ?_, ?_⟩⟩⟩
  · rw [upd_ne hne, upd_same]
  · rw [upd_ne hne] at hd; exact hd
  · have hd' : H d = none := by rw [upd_ne hne] at hd; exact hd
    have e : upd (del (upd (upd (upd H a (exo a C none)) d (exd d [(f, v)])) a (exo a C (some d))) a) d (.xd [(f, v)]) = upd H d (.xd [(f, v)]) := by
      funext b
      by_cases hb : b = d
      · rw [hb, upd_same, upd_same]
      · rw [upd_ne hb, upd_ne hb]
        by_cases ha2 : b = a
        · rw [ha2, del_same, ha]
        · rw [del_ne ha2, upd_ne ha2, upd_ne hb, upd_ne ha2]
    rw [e]
    exact h d hd'
end L2

/-! ### calls of the text's own defs -/
namespace Kr
open PySem PySem.Spec PyProof.Rows L2
/-- the def x keeps the promise sp by at most level k; dvs: what its last parameters are by default -/
structure KCal (P : Program) (w : World) (K : PySem.W.Frag) (mg : Str → Option Value) (base : Heap) (k : Nat) (x : Str) (sp : Sp) (dvs : List V) : Prop where
  ex : ∃ (f : Addr) (fd : FuncData) (ps : List Str) (ds : List Value), FnOk P w K mg base (CX P w) k f fd ps sp ∧ mg x = some (.ref f) ∧ PySem.W.keepIn K (.ref f) = true ∧ Binds K fd ps ds ∧ Vals dvs ds
section
variable {X : Cx} {k j : Nat} {x : Str} {sp : Sp} {dvs : List V} {e : Expr} {es : List Expr} {t : TA} {p pos : Pos} {W : WX}
theorem kc (c : KCal X.prog X.w X.K X.mg X.base k x sp dvs) (hr : Room j X.A) (hk : k ≤ j) (hg : Gl X x) (ha : PA X (e :: es) t)
    (hdb : (x == ("__debug__" : Str)) = false := by decide) (he : starEach (e :: es) X.env = (false, eval e X.env) :: starEach es X.env := by rfl) (hpl : (backTo pos (starEach es X.env)).any (·.1) = false := by rfl) :
    PE X (.Call (.Name x p) (e :: es) [] pos) (tCall sp dvs E0 t) := by
  obtain ⟨f, fd, ps, ds, F, hm, kp, b, d⟩ := c.ex
  exact pe_call F (hr.mono hk) hg hm kp b d passL ha hdb he hpl
theorem kc0 (c : KCal X.prog X.w X.K X.mg X.base k x sp dvs) (hr : Room j X.A) (hk : k ≤ j) (hg : Gl X x)
    (hdb : (x == ("__debug__" : Str)) = false := by decide) :
    PE X (.Call (.Name x p) [] [] pos) (tCall sp dvs E0 tNil) := by
  obtain ⟨f, fd, ps, ds, F, hm, kp, b, d⟩ := c.ex
  exact pe_call0 F (hr.mono hk) hg hm kp b d passL hdb
theorem kx (c : KCal X.prog X.w X.K X.mg X.base k x sp dvs) (tk : Takes X W) (hr : Room j X.A) (hk : k ≤ j) (hg : Gl X x) (ha : PA X (e :: es) t)
    (hdb : (x == ("__debug__" : Str)) = false := by decide) (he : starEach (e :: es) X.env = (false, eval e X.env) :: starEach es X.env := by rfl) (hpl : (backTo pos (starEach es X.env)).any (·.1) = false := by rfl) :
    PE X (.Call (.Name x p) (e :: es) [] pos) (tCallSD sp dvs (WE W) t) := by
  obtain ⟨f, fd, ps, ds, F, hm, kp, b, d⟩ := c.ex
  exact pe_callSD F (hr.mono hk) hg hm kp b d (fun σ => passAt tk σ) ha hdb he hpl
end
/-! ### tests -/
theorem ift {c : Bool} {A B : Prop} (hc : c = true) (h : A) : if c = true then A else B := by rw [if_pos hc]; exact h
theorem iff' {c : Bool} {A B : Prop} (hc : c = false) (h : B) : if c = true then A else B := by rw [hc, if_neg Bool.false_ne_true]; exact h
theorem if2 {c : Bool} {A B : Prop} (h1 : c = true → A) (h2 : c = false → B) : if c = true then A else B := by
  cases c with
  | true => exact h1 rfl
  | false => exact h2 rfl
theorem dI (i j : Int) : decide (V.int i = V.int j) = decide (i = j) := by
  by_cases h : i = j
  · rw [h]; simp
  · rw [decide_eq_false h, decide_eq_false (fun q => h (V.int.inj q))]
theorem dS (i j : Str) : decide (V.str i = V.str j) = decide (i = j) := by
  by_cases h : i = j
  · rw [h]; simp
  · rw [decide_eq_false h, decide_eq_false (fun q => h (V.str.inj q))]
theorem dB (i j : Bool) : decide (V.bl i = V.bl j) = decide (i = j) := by
  cases i <;> cases j <;> rfl
/-! ### lists of ints -/
theorem tyL {K : PySem.W.Frag} {H : Hp} {p : Addr} {xs : List V} (h : H p = some (.lst xs)) : tyV K "list" (.ref p) H := Or.inl ⟨rfl, _, SqL.of h⟩
theorem six0 {n : Nat} (h : 0 < n) : seqIndex? 0 n = some 0 := by
  unfold seqIndex?
  simp [h]
theorem dpInts {K : PySem.W.Frag} {H : Hp} : ∀ cs : List Int, DpAll K H (cs.map V.int) (cs.map PyData.int)
  | [] => .nil
  | c :: cs => .cons (.int c) (dpInts cs)
theorem layInts : ∀ cs : List Int, PyData.canLayAll0 (cs.map PyData.int) = true
  | [] => rfl
  | c :: cs => by
    show (PyData.canLay0 (.int c) && PyData.canLayAll0 (cs.map PyData.int)) = true
    rw [layInts cs]; rfl
theorem depInts : ∀ cs : List Int, PyData.depthAll (cs.map PyData.int) = 0
  | [] => rfl
  | c :: cs => by
    show max (PyData.depth (.int c)) (PyData.depthAll (cs.map PyData.int)) = 0
    rw [depInts cs]; rfl
theorem shInts (cs : List Int) : SeqAt.shaped (.list (cs.map PyData.int)) = true := by
  unfold SeqAt.shaped
  rw [Bool.and_eq_true]
  refine ⟨layInts cs, decide_eq_true ?_⟩
  show PyData.depthAll (cs.map PyData.int) + 1 ≤ 64
  rw [depInts]; decide
/-! ### what stays of a heap -/
def Kp (S : List Addr) (H H' : Hp) : Prop := ∀ a o, a ∉ S → H a = some o → H' a = some o
theorem Kp.refl {S : List Addr} {H : Hp} : Kp S H H := fun _ _ _ h => h
theorem Kp.trans {S : List Addr} {H H1 H2 : Hp} (a : Kp S H H1) (b : Kp S H1 H2) : Kp S H H2 := fun x o hx h => b x o hx (a x o hx h)
theorem Kp.mono {S S' : List Addr} {H H' : Hp} (a : Kp S H H') (h : ∀ x ∈ S, x ∈ S') : Kp S' H H' := fun x o hx q => a x o (fun z => hx (h x z)) q
theorem Kp.upd {S : List Addr} {H H' : Hp} {p : Addr} {o : HO} (a : Kp S H H') (h : p ∈ S) : Kp S H (upd H' p o) := fun x u hx q => by
  have : x ≠ p := fun z => hx (z ▸ h)
  rw [upd_ne this]; exact a x u hx q
theorem Kp.new {S : List Addr} {H H' : Hp} {p : Addr} {o : HO} (a : Kp S H H') (h : H' p = none) : Kp S H (L2.upd H' p o) := fun x u hx q => by
  have q' := a x u hx q
  rw [upd_ne (ne_of_none q' h)]; exact q'
theorem Kp.mut {S : List Addr} {H H' : Hp} {p : Addr} {o : HO} (a : Kp S H H') (h : H p = none) : Kp S H (L2.upd H' p o) := fun x u hx q => by
  rw [upd_ne (ne_of_none q h)]; exact a x u hx q
theorem Kp.free {S : List Addr} {H H' : Hp} {p : Addr} (a : Kp S H H') (hp : p ∉ S) (h : H' p = none) : H p = none := by
  cases q : H p with
  | none => rfl
  | some o => rw [a p o hp q] at h; cases h
theorem Kp.same {H H' : Hp} (a : Kp [] H H') : Same H H' := fun x o h => a x o (by simp) h
theorem Kp.of_same {S : List Addr} {H H' : Hp} (a : Same H H') : Kp S H H' := fun x o _ h => a x o h
theorem Kp.seq {S : List Addr} {K : PySem.W.Frag} {H H' : Hp} {a : Addr} {xs : List V} (k : Kp S H H') (ha : a ∉ S) (h : SqL K H a xs) : SqL K H' a xs := by
  rcases h with h | h
  · rcases h with h | ⟨o, h⟩
    · exact .inl (.inl (k a _ ha h))
    · exact .inl (.inr ⟨o, k a _ ha h⟩)
  · exact .inr h
/-- a def that raises nothing of its own promise -/
theorem ok0 {P : Program} {w : World} {K : PySem.W.Frag} {mg : Str → Option Value} {base : Heap} {k : Nat} {f : Addr} {fd : FuncData} {ps : List Str} {sp : Sp} (F : FnOk P w K mg base (CX P w) k f fd ps sp) (hE : ∀ vs H Q E, sp vs H Q E → sp vs H Q E0) : FnOk P w K mg base CX0 k f fd ps sp := by
  refine ⟨F.len, fun A outer s H args us vs Q E hr h0 hb hv hs => ?_⟩
  refine codeAny_mono (F.run A outer s H args us vs Q E0 hr h0 hb hv (hE _ _ _ _ hs)) fun r s' hq => ?_
  cases r with
  | error er =>
    exfalso
    have q : CX P w outer H s E0 er s' := hq
    obtain ⟨_, _, _, _, _, _, _, _, _, _, _, _, z⟩ := q
    exact z
  | ok fl =>
    cases fl with
    | ret u => exact hq
    | next => exact hq
    | brk => exact hq
    | cont => exact hq
end Kr

set_option Elab.async false
set_option linter.all false
set_option maxRecDepth 100000
set_option maxHeartbeats 2000000
namespace He
open PySem PySem.Spec PyProof.Rows L2
/-! ### facts of own error classes -/
def excCB (K : PySem.W.Frag) (C : Addr) : Bool := match K.lookup C with
  | some ⟨.type "type", _, .cls cd, sl⟩ => (match cd.mro, sl.toList with
    | .ref C' :: bm, [_, _, _, _, some (.builtin n), _] => C' == C && n == "ValueError.__new__" && !cd.hasDel && cd.hasDict && PySem.HandSPX.refsVE bm
    | _, _ => false)
  | _ => false
theorem excCB_ok {K : PySem.W.Frag} {C : Addr} (q : excCB K C = true) : ∃ nm q N bs bm sn sub ab col dd k0 k1 k2 k3 k5, K.lookup C = some (excClassObj nm q C N bs bm true sn sub ab col dd k0 k1 k2 k3 k5 "ValueError.__new__") ∧ PySem.HandSPX.refsVE bm = true := by
  unfold excCB at q
  split at q
  · rename_i dd cd sl ho
    split at q
    · rename_i C' bm k0 k1 k2 k3 n k5 hm hs
      simp only [Bool.and_eq_true, beq_iff_eq, Bool.not_eq_true'] at q
      obtain ⟨⟨⟨⟨rfl, rfl⟩, hdel⟩, hdi⟩, ht⟩ := q
      obtain ⟨nm, bs, mro, ns, qn, hd, sn, sub, ab, col, del⟩ := cd
      dsimp only at hm hdel hdi
      subst hm hdel hdi
      have hsl : sl = #[k0, k1, k2, k3, some (.builtin "ValueError.__new__"), k5] := by
        obtain ⟨l⟩ := sl
        simp only at hs
        rw [hs]
      subst hsl
      exact ⟨nm, qn, ns, bs, bm, sn, sub, ab, col, dd, k0, k1, k2, k3, k5, ho, ht⟩
    · cases q
  · cases q
def oexB (K : PySem.W.Frag) (C : Addr) : Bool := excCB K C && (eqO (PySem.W.findIn K (.ref C) "__setattr__") (some (some (.builtin "object.__setattr__"))) && (decide (PySem.W.subIn K (.ref C) (.type "BaseException") = some true) && (decide (PySem.W.typeIn K (.ref C) = some (.type "type")) && PySem.W.keepIn K (.ref C))))
theorem oexB_ok {K : PySem.W.Frag} {C : Addr} (q : oexB K C = true) : OexC K C := by
  obtain ⟨c1, c⟩ := ba q
  obtain ⟨c2, c⟩ := ba c
  obtain ⟨c3, c⟩ := ba c
  obtain ⟨c4, c5⟩ := ba c
  exact ⟨excCB_ok c1, eqO_ok c2, of_decide_eq_true c3, of_decide_eq_true c4, c5⟩
def exqB (K : PySem.W.Frag) (D : Addr) : Bool := eqO (PySem.W.findIn K (.ref D) "__class__") (some (some (.builtin "object.__class__"))) && (eqO (PySem.W.specialIn K (.builtin "object.__class__") "__get__") (some (some (.builtin "getset_descriptor.__get__"))) && (decide (PySem.W.takesIn K (.builtin "object.__class__") = some true) && decide (PySem.W.mroIn K D (.type "object") = some true)))
theorem exqB_ok {K : PySem.W.Frag} {D : Addr} (x : XfC K D) (h : xfB K D = true) (q : exqB K D = true) : ExcC K D := by
  obtain ⟨c1, c⟩ := ba q
  obtain ⟨c2, c⟩ := ba c
  obtain ⟨c3, c4⟩ := ba c
  unfold xfB at h
  obtain ⟨d1, d⟩ := ba h
  obtain ⟨d2, d⟩ := ba d
  obtain ⟨d3, d4⟩ := ba d
  exact ⟨of_decide_eq_true d1, of_decide_eq_true d2, of_decide_eq_true d3, d4, eqO_ok c1, eqO_ok c2, of_decide_eq_true c3, of_decide_eq_true c4⟩
/-- an own error class x with the one field f -/
def ex1B (K : PySem.W.Frag) (x f : Str) : Bool := eqO (PySem.W.nsIn K mainGlobals x) (some (some (.ref (ga K x)))) && (oexB K (ga K x) && (xfB K (ga K x) && (exqB K (ga K x) && (eqO (PySem.W.findIn K (.ref (ga K x)) f) (some none) &&
  (eqO (PySem.W.findIn K (.ref (ga K x)) "__init__") (some (some (.ref (ma K (ga K x) "__init__")))) && decide (PySem.W.typeIn K (.ref (ma K (ga K x) "__init__")) = some (.type "function")))))))
theorem ex1_ok {P : Program} {w : World} {K : PySem.W.Frag} {mg : Str → Option Value} {base h : Heap} {x f : Str} (X : K.In h) (G : h.Ns mainGlobals mg) (q : ex1B K x f = true) {fd : FuncData}
    (F : FnOk P w K mg base (CX P w) 1 (ma K (ga K x) "__init__") fd ["self", f] (spEx1 (ga K x) f)) (b : Binds K fd ["self", f] []) : Ex1 P w K mg base x f (ga K x) := by
  obtain ⟨c1, c⟩ := ba q
  obtain ⟨c2, c⟩ := ba c
  obtain ⟨c3, c⟩ := ba c
  obtain ⟨c4, c⟩ := ba c
  obtain ⟨c5, c⟩ := ba c
  obtain ⟨c6, c7⟩ := ba c
  exact ⟨PySem.W.mg_of X G (eqO_ok c1), oexB_ok c2, eqO_ok c5, xfB_ok c3, exqB_ok (xfB_ok c3) c3 c4, _, fd, eqO_ok c6, of_decide_eq_true c7, F, b⟩
/-- isinstance of an error of class x: of class y; of the built-in class t -/
def kitB (K : PySem.W.Frag) (x y : Str) (b : Bool) : Bool := decide (PySem.W.kitOne K (.ref (ga K x)) (.ref (ga K y)) = some b)
def kitTB (K : PySem.W.Frag) (x : Str) (t : String) (b : Bool) : Bool := decide (PySem.W.kitOne K (.ref (ga K x)) (.type t) = some b)
end He

set_option Elab.async false
set_option linter.all false
set_option maxRecDepth 100000
set_option maxHeartbeats 2000000
namespace Kr
open PySem PySem.Spec PyProof.Rows L2
open SX (S)
/-! ### texts as lists of code points -/
def cutN (n : Nat) (d : Nat) : Option Int → Nat
  | none => d
  | some i => min i.toNat n
/-- a[lo:hi] of a list, both ends not below nought -/
def cutL {α : Type} (a : List α) (lo hi : Option Int) : List α := (a.drop (cutN a.length 0 lo)).take (cutN a.length a.length hi - cutN a.length 0 lo)
def nn : Option Int → Prop
  | none => True
  | some i => 0 ≤ i
theorem sIx_nn {n d : Nat} {o : Option Int} (h : nn o) : HT.sIx n d o = cutN n d o := by
  cases o with
  | none => rfl
  | some i =>
    have h0 : (0 : Int) ≤ i := h
    obtain ⟨k, rfl⟩ := Int.eq_ofNat_of_zero_le h0
    simp [HT.sIx, cutN]
    omega
theorem cutS_S {a : List Nat} {lo hi : Option Int} (h1 : nn lo) (h2 : nn hi) : cutS (S a) lo hi = S (cutL a lo hi) := by
  unfold cutS cutL
  have e : (S a).length = a.length := SX.S_len a
  rw [e, sIx_nn h1, sIx_nn h2]
theorem cutV_L {a : List V} {lo hi : Option Int} (h1 : nn lo) (h2 : nn hi) : cutV a lo hi = cutL a lo hi := by
  unfold cutV cutL
  rw [sIx_nn h1, sIx_nn h2]
theorem cutL_to {α : Type} (a : List α) (i : Nat) : cutL a none (some (i : Int)) = a.take i := by
  simp [cutL, cutN]
theorem cutL_from {α : Type} (a : List α) (i : Nat) : cutL a (some (i : Int)) none = a.drop i := by
  simp [cutL, cutN]
  by_cases h : i ≤ a.length
  · rw [Nat.min_eq_left h, List.take_of_length_le (by simp)]
  · rw [Nat.min_eq_right (by omega), List.drop_of_length_le (by omega), List.drop_of_length_le (by omega)]; simp
theorem cutL_mid {α : Type} (a : List α) (i j : Nat) : cutL a (some (i : Int)) (some (j : Int)) = (a.take j).drop i := by
  simp [cutL, cutN]
  apply List.ext_getElem?
  intro k
  simp [List.getElem?_take, List.getElem?_drop]
  grind
/-! ### rules over them -/
section
variable {X : Cx}
theorem opImp {f : Value → Value → Sem Value} {r r' : R2} (h : OpR X f r) (i : ∀ x y H Q, r' x y H Q → r x y H Q) : OpR X f r' := fun pins s σ H x y v u Q I rx ry q => h pins s σ H x y v u Q I rx ry (i x y H Q q)
theorem callImp {f : Value} {r r' : List V → Hp → VK → Prop} (h : CallR X f r) (i : ∀ xs H Q, r' xs H Q → r xs H Q) : CallR X f r' := fun pins s σ H xs us Q I rx q => h pins s σ H xs us Q I rx (i xs H Q q)
theorem ixImp {r r' : R2} (h : IxR X r) (i : ∀ x y H Q, r' x y H Q → r x y H Q) : IxR X r' := fun a b pins s σ H x y v u Q I rx ry q e => h a b pins s σ H x y v u Q I rx ry (i x y H Q q) e
theorem slImp {r r' : V → Option Int → Option Int → Hp → VK → Prop} (h : L2.SlR X r) (i : ∀ x lo hi H Q, r' x lo hi H Q → r x lo hi H Q) : L2.SlR X r' := fun pins s σ H x v vl vu lo hi sl Q I rx hs pl pu q => h pins s σ H x v vl vu lo hi sl Q I rx hs pl pu (i x lo hi H Q q)
theorem mtImp {id : String} {r r' : V → List V → Hp → VK → Prop} (h : MtR X id r) (i : ∀ x xs H Q, r' x xs H Q → r x xs H Q) : MtR X id r' := fun pins s σ H x xs v us Q I rx rs q => h pins s σ H x xs v us Q I rx rs (i x xs H Q q)
theorem leSz {n : Nat} (h : n ≤ 100000) : n ≤ sizeLine := Nat.le_trans h (by decide)
theorem ltSz {n : Nat} (h : n < 100000) : n < sizeLine := Nat.lt_of_lt_of_le h (by decide)
def rAddS : R2 := fun x y H Q => ∃ a b : List Nat, x = .str (S a) ∧ y = .str (S b) ∧ a.length + b.length ≤ 100000 ∧ Q (.str (S (a ++ b))) H
theorem op_addS : OpR X (binaryOp .Add) rAddS := opImp op_add_str fun x y H Q ⟨a, b, h1, h2, h3, q⟩ => ⟨S a, S b, h1, h2, by rw [SX.S_len, SX.S_len]; exact leSz h3, by rw [SX.S_cat]; exact q⟩
def rIxT' : R2 := fun x y H Q => ∃ (a : List Nat) (i : Int) (c : Nat), x = .str (S a) ∧ y = .int i ∧ a.length ≤ 100000 ∧ 0 ≤ i ∧ a[i.toNat]? = some c ∧ Q (.str (S [c])) H
theorem atI_pos {α : Type} {a : List α} {i : Int} {c : α} (h0 : 0 ≤ i) (h : a[i.toNat]? = some c) : atI a i = some c := by
  obtain ⟨k, rfl⟩ := Int.eq_ofNat_of_zero_le h0
  exact atI_nat h
theorem ix_S : IxR X rIxT' := ixImp ix_str fun x y H Q ⟨a, i, c, h1, h2, h3, h4, h5, q⟩ => ⟨S a, i, c, h1, h2, by rw [SX.S_len]; exact leSz h3, atI_pos h4 h5, q⟩
def rSlS' : V → Option Int → Option Int → Hp → VK → Prop := fun x lo hi H Q => ∃ a : List Nat, x = .str (S a) ∧ a.length ≤ 100000 ∧ nn lo ∧ nn hi ∧ Q (.str (S (cutL a lo hi))) H
theorem sl_S : L2.SlR X rSlS' := slImp sl_str fun x lo hi H Q ⟨a, h1, h2, h3, h4, q⟩ => ⟨S a, h1, by rw [SX.S_len]; exact leSz h2, by rw [cutS_S h3 h4]; exact q⟩
def rLenS : List V → Hp → VK → Prop := fun xs H Q => ∃ a : List Nat, xs = [.str (S a)] ∧ a.length ≤ 100000 ∧ Q (.int (a.length : Int)) H
theorem call_lenS : CallR X (.builtin "len") rLenS := callImp call_len_str fun xs H Q ⟨a, h1, h2, q⟩ => ⟨S a, h1, by rw [SX.S_len]; exact leSz h2, by rw [SX.S_len]; exact q⟩
theorem pe_strS {x : Str} {j : Nat} {pos : Pos} (l : List Nat) (h : x = S l) : PE X (.Constant (.str x) j pos) (tC (.str (S l))) := by
  rw [h]; exact pe_str
def rInS (neg : Bool) : R2 := fun x y H Q => ∃ (c : Nat) (a : List Nat), x = .str (S [c]) ∧ y = .str (S a) ∧ Q (.bl (if neg then !decide (c ∈ a) else decide (c ∈ a))) H
theorem op_inS : OpR X (compareOp .In) (rInS false) := opImp op_in_sign fun x y H Q ⟨c, a, h1, h2, q⟩ => ⟨c, S a, h1, h2, q⟩
theorem op_notInS : OpR X (compareOp .NotIn) (rInS true) := opImp op_notIn_sign fun x y H Q ⟨c, a, h1, h2, q⟩ => ⟨c, S a, h1, h2, q⟩
def rEqS (neg : Bool) : R2 := fun x y H Q => ∃ a b : List Nat, x = .str (S a) ∧ y = .str (S b) ∧ Q (.bl (if neg then !decide (a = b) else decide (a = b))) H
theorem dSS (a b : List Nat) : decide (V.str (S a) = V.str (S b)) = decide (a = b) := by
  by_cases h : a = b
  · rw [h]; simp
  · rw [decide_eq_false h, decide_eq_false (fun q => h (SX.S_inj (V.str.inj q)))]
theorem op_eqS : OpR X (compareOp .Eq) (rEqS false) := opImp op_eq fun x y H Q ⟨a, b, h1, h2, q⟩ => by
  subst h1 h2
  refine ⟨rfl, ?_⟩
  rw [dSS]; exact q
theorem op_neS : OpR X (compareOp .NotEq) (rEqS true) := opImp op_ne fun x y H Q ⟨a, b, h1, h2, q⟩ => by
  subst h1 h2
  refine ⟨rfl, ?_⟩
  rw [dSS]; exact q
theorem ix_listK {K : PySem.W.Frag} (h : X.K = K) : IxR X (rIxL K) := by
  subst h
  exact ix_list
theorem pe_gS {x : Str} {a : List Nat} {pos : Pos} (h : ∃ t, X.mg x = some (.str (S a) t)) (hg : Gl X x) (hd : (x == ("__debug__" : Str)) = false := by decide) : PE X (.Name x pos) (tC (.str (S a))) := by
  obtain ⟨t, h⟩ := h
  exact pe_glob hg h ⟨t, rfl⟩ hd
theorem pe_gI {x : Str} {i : Int} {pos : Pos} (h : ∃ t, X.mg x = some (.int i t)) (hg : Gl X x) (hd : (x == ("__debug__" : Str)) = false := by decide) : PE X (.Name x pos) (tC (.int i)) := by
  obtain ⟨t, h⟩ := h
  exact pe_glob hg h ⟨t, rfl⟩ hd
theorem pe_gR {x : Str} {C : Addr} {pos : Pos} (h : X.mg x = some (.ref C)) (hg : Gl X x) (hd : (x == ("__debug__" : Str)) = false := by decide) : PE X (.Name x pos) (tC (.ref C)) := pe_glob hg h rfl hd
theorem pe_bT {x : Str} (n : String) {pos : Pos} (hm : X.mg x = none) (hg : Gl X x) (hv : bootBuiltins x = some (.type n)) (h1 : x ≠ "__name__" := by decide) (hd : (x == ("__debug__" : Str)) = false := by decide) : PE X (.Name x pos) (tC (.ty n)) := pe_bltn hg hm hv rfl h1 hd
/-! join, find -/
theorem joinL_nil : ∀ ys : List (List Nat), TL.joinL [] ys = ys.flatten
  | [] => rfl
  | [p] => by simp [TL.joinL]
  | p :: q :: r => by
    show p ++ ([] ++ TL.joinL [] (q :: r)) = _
    rw [joinL_nil (q :: r)]; rfl
theorem join0 (ys : List (List Nat)) : Txt.join (S []) (ys.map S) = S ys.flatten := by rw [SX.join_S, joinL_nil]
theorem sum_len : ∀ ys : List (List Nat), ((ys.map S).map (fun x => x.length)).sum = ys.flatten.length
  | [] => rfl
  | y :: ys => by
    have := sum_len ys
    simp [SX.S_len] at this ⊢
    exact this
/-- "".join(list of texts) -/
def rJoin0 (K : PySem.W.Frag) : V → List V → Hp → VK → Prop := fun x xs H Q => ∃ (p : Addr) (ys : List (List Nat)), x = .str (S []) ∧ xs = [.ref p] ∧ SqL K H p (ys.map fun y => V.str (S y)) ∧ ys.flatten.length ≤ 100000 ∧ Q (.str (S ys.flatten)) H
theorem pe_join0 {o e : Expr} {to te : TE} {apos pos : Pos} (ho : PE X o to) (he : PE X e te) (h1 : starEach [e] X.env = [(false, eval e X.env)] := by rfl) (h2 : attributeBase o "join" X.env (eval o X.env) = eval o X.env := by rfl) (h3 : (apos.endLine == pos.line) = true := by rfl) :
    PE X (.Call (.Attribute o "join" apos) [e] [] pos) (tM1 (rJoin0 X.K) to te) :=
  pe_m1 PySem.F.slot_str_join PySem.F.type_str_join (mtImp mt_join fun x xs H Q ⟨p, ys, e1, e2, hs, hl, q⟩ => ⟨S [], p, ys.map S, e1, e2, .inl (by rw [List.map_map]; exact hs), by
    rw [sum_len]; show _ + _ * 0 ≤ _; omega, by rw [join0]; exact q⟩) ho he h1 h2 h3
theorem at1 (a : List Nat) (c i : Nat) : StrLaws.At (S a) (S [c]) (S a).length i ↔ a[i]? = some c := by
  rw [TL.at_iff (by simp [TL.tl])]
  show TL.pre [c] (a.drop i) = true ↔ _
  unfold TL.pre
  cases h : a[i]? with
  | none =>
    have := List.getElem?_eq_none_iff.mp h
    rw [List.drop_of_length_le this]
    simp
  | some d =>
    obtain ⟨hi, e⟩ := List.getElem?_eq_some_iff.mp h
    rw [List.drop_eq_getElem_cons hi, e]
    simp
/-- the first place of c -/
def fst? (c : Nat) (a : List Nat) : Option Nat := a.findIdx? fun d => d == c
def foi : Option Nat → Int
  | some i => (i : Int)
  | none => -1
theorem find1 (a : List Nat) (c : Nat) : Txt.find (S a) (S [c]) = foi (fst? c a) := by
  unfold Txt.find fst?
  rcases StrLaws.occ_head (S a) (S [c]) 1 (Nat.le_refl _) with ⟨h0, hn⟩ | ⟨i, r, h0, hi, hn⟩
  · rw [h0]
    have e : (a.findIdx? fun d => d == c) = none := by
      rw [List.findIdx?_eq_none_iff]
      intro x hx
      obtain ⟨k, hk, e⟩ := List.mem_iff_getElem.mp hx
      have q := hn k
      rw [at1, List.getElem?_eq_getElem hk, e] at q
      simpa using fun z => q (by rw [z])
    rw [e]; rfl
  · rw [h0]
    rw [at1] at hi
    have e : (a.findIdx? fun d => d == c) = some i := by
      rw [List.findIdx?_eq_some_iff_getElem]
      obtain ⟨hl, e⟩ := List.getElem?_eq_some_iff.mp hi
      refine ⟨hl, by simp [e], fun j hj => ?_⟩
      have q := hn j hj
      rw [at1, List.getElem?_eq_getElem (by omega)] at q
      simpa using fun z => q (by rw [z])
    rw [e]; rfl
/-- s.find(c), c one sign -/
def rFind1 : V → List V → Hp → VK → Prop := fun x xs H Q => ∃ (a : List Nat) (c : Nat), x = .str (S a) ∧ xs = [.str (S [c])] ∧ Q (.int (foi (fst? c a))) H
theorem mt_find1 : MtR X "str.find" rFind1 := mtImp mt_find fun x xs H Q ⟨a, c, e1, e2, q⟩ => ⟨S a, S [c], e1, e2, by rw [find1]; exact q⟩
def rAlnum1 : V → List V → Hp → VK → Prop := fun x xs H Q => ∃ (c : Nat), x = .str (S [c]) ∧ xs = [] ∧ Q (.bl (Unicode.isAlnum c)) H
theorem mt_alnum1 : MtR X "str.isalnum" rAlnum1 := mtImp mt_isalnum fun x xs H Q ⟨c, e1, e2, q⟩ => ⟨S [c], e1, e2, trivial, by
  have e : Txt.isalnum (S [c]) = Unicode.isAlnum c := by simp [Txt.isalnum, S, Str.length]
  rw [e]; exact q⟩
end
end Kr

set_option Elab.async false
set_option linter.all false
set_option maxRecDepth 100000
set_option maxHeartbeats 2000000
namespace Kr
def sgn : List Nat := [10, 32, 33, 34, 35, 36, 38, 39, 40, 41, 42, 43, 44, 45, 46, 47, 48, 49, 50, 51, 52, 53, 54, 55, 56, 57, 58, 59, 60, 61, 62, 63, 64, 65, 66, 67, 68, 69, 70, 71, 72, 73, 74, 75, 76, 77, 78, 79, 80, 81, 82, 83, 84, 85, 86, 87, 88, 89, 90, 91, 92, 93, 94, 95, 96, 97, 98, 99, 100, 101, 102, 103, 104, 105, 106, 107, 108, 109, 110, 111, 112, 113, 114, 115, 116, 117, 118, 119, 120, 121, 122, 123, 124, 125, 126]
def wsg : List Nat := [48, 49, 50, 51, 52, 53, 54, 55, 56, 57, 65, 66, 67, 68, 69, 70, 71, 72, 73, 74, 75, 76, 77, 78, 79, 80, 81, 82, 83, 84, 85, 86, 87, 88, 89, 90, 97, 98, 99, 100, 101, 102, 103, 104, 105, 106, 107, 108, 109, 110, 111, 112, 113, 114, 115, 116, 117, 118, 119, 120, 121, 122]
/-! ### a page -/
structure Pg where
  t : List Nat
  c : Nat
  m : Option Nat
  k : List Nat
  r : Nat
namespace Pg
def adv (h : Nat) (g : Pg) : Pg := ⟨g.t, g.c + 1, g.m.bind fun x => if x + h < g.c + 1 then none else some x, g.k, g.r⟩
def pass (h : Nat) (g : Pg) : Pg := adv h ⟨g.t, g.c, g.m, g.k, g.r - 1⟩
def ins (h : Nat) (g : Pg) (x : Nat) : Pg := adv h ⟨g.t.take g.c ++ x :: g.t.drop g.c, g.c, g.m, g.k, g.r⟩
def inss (h : Nat) (g : Pg) (xs : List Nat) : Pg := xs.foldl (ins h) g
def ahead (g : Pg) : List Nat := (g.t.drop g.c).take 1
def fresh (g : Pg) : Bool := decide (g.c = 0) || g.t[g.c - 1]? == some 10
def held (g : Pg) : Option (List Nat) := g.m.map fun x => (g.t.take g.c).drop x
def stops (key : Nat) (s : List Nat) (a : Nat) : Bool := if key = 47 then decide ([a] = s) else if key = 36 then decide (a = 10) else decide (a ∈ wsg) == decide (key = 110)
def travel (h key : Nat) (s : List Nat) : Nat → Pg → Bool × Pg
  | 0, g => (decide (key ∈ [119, 36]), g)
  | n + 1, g => match g.t[g.c]? with
    | none => (decide (key ∈ [119, 36]), g)
    | some a => if stops key s a = true then (true, g) else travel h key s n (pass h g)
def useMark (h key : Nat) (g : Pg) : Bool × Pg := match g.m with
  | none => (false, g)
  | some x => if key = 98 then (if g.c - x + g.r > h then (false, g) else (true, ⟨g.t, x, some x, g.k, g.r + (g.c - x)⟩))
    else if key = 99 then (true, ⟨g.t.take x ++ g.t.drop g.c, x, some x, (g.t.take g.c).drop x, g.r⟩)
    else (true, ⟨g.t, g.c, some x, (g.t.take g.c).drop x, g.r⟩)
def takeOne (h key : Nat) (g : Pg) : Bool × Pg := if ahead g = [] then (false, g) else if key = 62 then (true, pass h g) else (true, ⟨g.t.take g.c ++ g.t.drop (g.c + 1), g.c, g.m, g.k, g.r - 1⟩)
def act (h : Nat) (g : Pg) (key : Nat) (s : List Nat) : Bool × Pg :=
  if key ∈ [47, 119, 110, 36] then travel h key s (g.t.length + 1) g
  else if key ∈ [98, 107, 99] then useMark h key g
  else if key ∈ [62, 120] then takeOne h key g
  else if key = 61 then (decide (ahead g = s), g)
  else if key = 94 then (fresh g, g)
  else if key = 109 then (true, ⟨g.t, g.c, some g.c, g.k, g.r⟩)
  else if key = 39 then (true, inss h g s)
  else (decide (g.k ≠ []), inss h g g.k)
end Pg
/-- a key by its two parts -/
def vk (key : Nat) (s : List Nat) : Prop := (key ∈ [62, 120, 119, 110, 36, 94, 109, 98, 107, 99, 112] ∧ s = []) ∨ (key ∈ [39, 61, 47] ∧ ∃ a ∈ sgn, s = [a])
structure PgOk (h : Nat) (g : Pg) : Prop where
  c : g.c ≤ g.t.length
  m : ∀ x, g.m = some x → x ≤ g.c ∧ g.c ≤ x + h
  k : g.k.length ≤ h
  ts : ∀ a ∈ g.t, a ∈ sgn
  ks : ∀ a ∈ g.k, a ∈ sgn
  hb : h ≤ 4
theorem adv_ok {h : Nat} {g : Pg} (hb : h ≤ 4) (c : g.c + 1 ≤ g.t.length) (m : ∀ x, g.m = some x → x ≤ g.c) (k : g.k.length ≤ h) (ts : ∀ a ∈ g.t, a ∈ sgn) (ks : ∀ a ∈ g.k, a ∈ sgn) : PgOk h (g.adv h) := by
  refine ⟨c, fun x hx => ?_, k, ts, ks, hb⟩
  unfold Pg.adv at hx ⊢
  simp only at hx ⊢
  cases q : g.m with
  | none => rw [q] at hx; cases hx
  | some y =>
    rw [q] at hx
    have := m y q
    simp only [Option.bind_some] at hx
    split at hx
    · cases hx
    · cases hx; omega
theorem pass_ok {h : Nat} {g : Pg} (o : PgOk h g) (c : g.c < g.t.length) : PgOk h (g.pass h) := adv_ok (g := ⟨g.t, g.c, g.m, g.k, g.r - 1⟩) o.hb c (fun x hx => (o.m x hx).1) o.k o.ts o.ks
theorem ins_ok {h : Nat} {g : Pg} {x : Nat} (o : PgOk h g) (hx : x ∈ sgn) : PgOk h (g.ins h x) := by
  have := o.c
  refine adv_ok (g := ⟨g.t.take g.c ++ x :: g.t.drop g.c, g.c, g.m, g.k, g.r⟩) o.hb ?_ (fun x hx => (o.m x hx).1) o.k (fun a ha => ?_) o.ks
  · simp; omega
  · simp at ha
    rcases ha with ha | rfl | ha
    · exact o.ts a (List.mem_of_mem_take ha)
    · exact hx
    · exact o.ts a (List.mem_of_mem_drop ha)
theorem ins_len {h : Nat} {g : Pg} {x : Nat} (o : PgOk h g) : (g.ins h x).t.length = g.t.length + 1 := by
  have := o.c
  simp [Pg.ins, Pg.adv]; omega
theorem inss_ok {h : Nat} : ∀ {xs : List Nat} {g : Pg}, PgOk h g → (∀ x ∈ xs, x ∈ sgn) → PgOk h (g.inss h xs) ∧ (g.inss h xs).t.length = g.t.length + xs.length
  | [], g, o, _ => ⟨o, rfl⟩
  | x :: xs, g, o, hx => by
    have o1 := ins_ok (x := x) o (hx x List.mem_cons_self)
    obtain ⟨o2, e⟩ := inss_ok (xs := xs) o1 fun y hy => hx y (List.mem_cons_of_mem _ hy)
    refine ⟨o2, ?_⟩
    have e2 : (g.ins h x).t.length = g.t.length + 1 := ins_len o
    show ((g.ins h x).inss h xs).t.length = _
    rw [e, e2]; simp; omega
theorem travel_ok {h key : Nat} {s : List Nat} : ∀ {n : Nat} {g : Pg}, PgOk h g → PgOk h (g.travel h key s n).2 ∧ (g.travel h key s n).2.t = g.t
  | 0, g, o => ⟨o, rfl⟩
  | n + 1, g, o => by
    unfold Pg.travel
    split
    · exact ⟨o, rfl⟩
    · rename_i a ha
      split
      · exact ⟨o, rfl⟩
      · have hl := (List.getElem?_eq_some_iff.mp ha).1
        exact travel_ok (n := n) (pass_ok o hl)
theorem act_ok {h : Nat} {g : Pg} {key : Nat} {s : List Nat} (o : PgOk h g) (v : vk key s) : PgOk h (g.act h key s).2 ∧ (g.act h key s).2.t.length ≤ g.t.length + h + 1 := by
  have hs : ∀ x ∈ s, x ∈ sgn := by
    rcases v with ⟨_, rfl⟩ | ⟨_, a, ha, rfl⟩
    · simp
    · simpa using ha
  have hl : s.length ≤ 1 := by
    rcases v with ⟨_, rfl⟩ | ⟨_, a, ha, rfl⟩ <;> simp
  unfold Pg.act
  split
  · obtain ⟨o2, e⟩ := travel_ok (key := key) (s := s) (n := g.t.length + 1) o
    exact ⟨o2, by rw [e]; omega⟩
  split
  · unfold Pg.useMark
    split
    · exact ⟨o, by simp only; omega⟩
    · rename_i x hx
      have hm := o.m x hx
      have hc := o.c
      split
      · split
        · exact ⟨o, by simp only; omega⟩
        · exact ⟨⟨by simp only; omega, fun y hy => by cases hy; exact ⟨Nat.le_refl _, by simp only; omega⟩, o.k, o.ts, o.ks, o.hb⟩, by simp only; omega⟩
      split
      · refine ⟨⟨by simp; omega, fun y hy => by cases hy; exact ⟨Nat.le_refl _, by simp only; omega⟩, by simp; omega, fun a ha => ?_, fun a ha => ?_, o.hb⟩, by simp; omega⟩
        · simp at ha
          rcases ha with ha | ha
          · exact o.ts a (List.mem_of_mem_take ha)
          · exact o.ts a (List.mem_of_mem_drop ha)
        · exact o.ts a (List.mem_of_mem_take (List.mem_of_mem_drop ha))
      · refine ⟨⟨hc, fun y hy => by cases hy; exact hm, by simp; omega, o.ts, fun a ha => ?_, o.hb⟩, by simp only; omega⟩
        exact o.ts a (List.mem_of_mem_take (List.mem_of_mem_drop ha))
  split
  · unfold Pg.takeOne
    split
    · exact ⟨o, by simp only; omega⟩
    · rename_i ha
      have hc : g.c < g.t.length := by
        rcases Nat.lt_or_ge g.c g.t.length with q | q
        · exact q
        · exact absurd (by unfold Pg.ahead; rw [List.drop_of_length_le q]; rfl) ha
      split
      · exact ⟨pass_ok o hc, by simp only [Pg.pass, Pg.adv]; omega⟩
      · refine ⟨⟨by simp; omega, o.m, o.k, fun a ha => ?_, o.ks, o.hb⟩, by simp; omega⟩
        simp at ha
        rcases ha with ha | ha
        · exact o.ts a (List.mem_of_mem_take ha)
        · exact o.ts a (List.mem_of_mem_drop ha)
  split
  · exact ⟨o, by simp only; omega⟩
  split
  · exact ⟨o, by simp only; omega⟩
  split
  · exact ⟨⟨o.c, fun y hy => by cases hy; exact ⟨Nat.le_refl _, Nat.le_add_right _ _⟩, o.k, o.ts, o.ks, o.hb⟩, by simp only; omega⟩
  split
  · obtain ⟨o2, e⟩ := inss_ok o hs
    exact ⟨o2, by simp only; omega⟩
  · obtain ⟨o2, e⟩ := inss_ok o o.ks
    have := o.k
    exact ⟨o2, by simp only; omega⟩
end Kr

set_option Elab.async false
set_option linter.all false
set_option maxRecDepth 100000
set_option maxHeartbeats 2000000
/-! ### methods, properties, instances of the text's own classes -/
namespace Kr
open PySem PySem.Spec PyProof.Rows L2
structure KMet (P : Program) (w : World) (K : PySem.W.Frag) (mg : Str → Option Value) (base : Heap) (k : Nat) (C : Addr) (m : Str) (sp : Sp) : Prop where
  ex : ∃ (f : Addr) (fd : FuncData) (ps : List Str), Cls K C ∧ Meth K C m f ∧ FnOk P w K mg base (CX P w) k f fd ps sp ∧ Binds K fd ps []
structure KPrp (P : Program) (w : World) (K : PySem.W.Frag) (mg : Str → Option Value) (base : Heap) (k : Nat) (C : Addr) (m : Str) (sp : Sp) : Prop where
  ex : ∃ (p g : Addr) (fd : FuncData) (ps : List Str), Cls K C ∧ PropOf K C m p g ∧ FnOk P w K mg base (CX P w) k g fd ps sp ∧ Binds K fd ps []
section
variable {X : Cx} {k j : Nat} {C : Addr} {m : Str} {sp : Sp} {o e : Expr} {es : List Expr} {ta : TE} {t : TA} {p pos apos : Pos} {W : WX}
def tMethW (C : Addr) (m : Str) (sp : Sp) (E : L2.St → XK) (ta : TE) (t : TA) : TE := fun σ H Q => ta σ H fun x H1 => ∃ a dx fs, x = .ref a ∧ H1 a = some (.ins C dx fs) ∧ fs.lookup m = none ∧ t σ H1 fun vs H2 => sp (x :: vs) H2 Q (E σ)
theorem km {pl : Sem Bool} (c : KMet X.prog X.w X.K X.mg X.base k C m sp) (hr : Room j X.A) (hk : k ≤ j) (he : PE X o ta) (ha : PA X (e :: es) t)
    (h1 : starEach (e :: es) X.env = (false, eval e X.env) :: starEach es X.env := by rfl) (h2 : (backTo pos (starEach es X.env)).any (·.1) = false := by rfl)
    (h3 : eval (.Call (.Attribute o m apos) (e :: es) [] pos) X.env = (do
      let ov ← eval o X.env
      standAt apos.atName
      let (f, first) ← holding [ov] (getMethod ov m pl)
      callWith pos f first (backTo pos (starEach (e :: es) X.env)) (backToKw pos (keywordEach [] X.env))) := by rfl) :
    PE X (.Call (.Attribute o m apos) (e :: es) [] pos) (tMeth C m sp [] E0 ta t) := by
  obtain ⟨f, fd, ps, hc, hm, F, b⟩ := c.ex
  exact pe_meth he hc hm F (hr.mono hk) b .nil passL ha h1 h2 h3
theorem km0 {pl : Sem Bool} (c : KMet X.prog X.w X.K X.mg X.base k C m sp) (hr : Room j X.A) (hk : k ≤ j) (he : PE X o ta)
    (h3 : eval (.Call (.Attribute o m apos) [] [] pos) X.env = (do
      let ov ← eval o X.env
      standAt apos.atName
      let (f, first) ← holding [ov] (getMethod ov m pl)
      callWith pos f first (backTo pos (starEach [] X.env)) (backToKw pos (keywordEach [] X.env))) := by rfl) :
    PE X (.Call (.Attribute o m apos) [] [] pos) (tMeth C m sp [] E0 ta tNil) := by
  obtain ⟨f, fd, ps, hc, hm, F, b⟩ := c.ex
  exact pe_meth0 he hc hm F (hr.mono hk) b .nil passL h3
theorem kmx {pl : Sem Bool} (c : KMet X.prog X.w X.K X.mg X.base k C m sp) (tk : Takes X W) (hr : Room j X.A) (hk : k ≤ j) (he : PE X o ta) (ha : PA X (e :: es) t)
    (h1 : starEach (e :: es) X.env = (false, eval e X.env) :: starEach es X.env := by rfl) (h2 : (backTo pos (starEach es X.env)).any (·.1) = false := by rfl)
    (h3 : eval (.Call (.Attribute o m apos) (e :: es) [] pos) X.env = (do
      let ov ← eval o X.env
      standAt apos.atName
      let (f, first) ← holding [ov] (getMethod ov m pl)
      callWith pos f first (backTo pos (starEach (e :: es) X.env)) (backToKw pos (keywordEach [] X.env))) := by rfl) :
    PE X (.Call (.Attribute o m apos) (e :: es) [] pos) (tMethW C m sp (WE W) ta t) := by
  obtain ⟨f, fd, ps, hc, hm, F, b⟩ := c.ex
  constructor
  intro pins s σ H Q I h
  refine PySem.W.methodCall_KW (pl := pl) (thn (he.run pins s σ H _ I h) fun u s1 hh => ?_) h3
  obtain ⟨x, H1, I1, rx, a, dx, fs, ex, ea, lk, q⟩ := hh
  subst ex
  obtain rfl : u = Value.ref a := rx
  refine getmeth_ok I1 ea hc hm lk ?_
  refine PySem.W.callWith_K (first := [.ref a]) I1.kIn hm.kp (thn (ha.run pos pins s1 σ H1 _ I1 q) fun us s2 hq => ?_) h1 h2
  obtain ⟨vs, H2, I2, r2, q2⟩ := hq
  exact ⟨I2.kIn, run_fnSD (dvs := []) (ds := []) (E := WE W) (vs := .ref a :: vs) F (hr.mono hk) b .nil (passAt tk σ) I2 (.cons rfl r2) (by simpa using q2)⟩
theorem kprop (c : KPrp X.prog X.w X.K X.mg X.base k C m sp) (hr : Room j X.A) (hk : k + 1 ≤ j) (he : PE X e ta) (hab : attributeBase e m X.env (eval e X.env) = eval e X.env := by rfl) : PE X (.Attribute e m pos) (tProp C sp [] E0 ta) := by
  obtain ⟨p, g, fd, ps, hc, hp, F, b⟩ := c.ex
  exact pe_prop he hc hp F (hr.mono hk) b .nil (passL (X := X.nox)) hab
end
/-- C(e, .., k = v, ..) -/
structure KMak (P : Program) (w : World) (K : PySem.W.Frag) (mg : Str → Option Value) (base : Heap) (k : Nat) (x : Str) (C : Addr) (n : Nat) (ks : List Str) (sp : Sp) (gV : List V → List V → List V) : Prop where
  ex : ∃ (f : Addr) (fd : FuncData) (ps : List Str) (g : List Value → List Value → List Value), Mk K C f ∧ FnOk P w K mg base (CX P w) k f fd ps sp ∧ mg x = some (.ref C) ∧ KBn K fd ps (n + 1) ks g gV
/-- C(e, ..), the last parameters by default -/
structure KMap (P : Program) (w : World) (K : PySem.W.Frag) (mg : Str → Option Value) (base : Heap) (k : Nat) (x : Str) (C : Addr) (sp : Sp) (dvs : List V) : Prop where
  ex : ∃ (f : Addr) (fd : FuncData) (ps : List Str) (ds : List Value), Mk K C f ∧ FnOk P w K mg base (CX P w) k f fd ps sp ∧ mg x = some (.ref C) ∧ Binds K fd ps ds ∧ Vals dvs ds
section
variable {X : Cx} {k j n : Nat} {x : Str} {C : Addr} {ks : List Str} {sp : Sp} {gV : List V → List V → List V} {e : Expr} {es : List Expr} {kws : List Keyword} {t tk : TA} {p pos : Pos} {dvs : List V}
theorem kmak (c : KMak X.prog X.w X.K X.mg X.base k x C n ks sp gV) (hr : Room j X.A) (hk : k + 1 ≤ j) (hg : Gl X x) (ha : PA X (e :: es) t) (hkw : PK X kws tk)
    (h1 : (backToKw pos (keywordEach kws X.env)).all (·.1.isSome) = true := by rfl) (h2 : (backToKw pos (keywordEach kws X.env)).filterMap (·.1) = ks := by rfl) (h3 : (x == ("__debug__" : Str)) = false := by decide)
    (h4 : starEach (e :: es) X.env = (false, eval e X.env) :: starEach es X.env := by rfl) (h5 : ((backTo pos (starEach (e :: es) X.env)).any (·.1) || (backToKw pos (keywordEach kws X.env)).any (·.1.isNone)) = false := by rfl) :
    PE X (.Call (.Name x p) (e :: es) kws pos) (tMakeK C n ks.length sp gV E0 t tk) := by
  obtain ⟨f, fd, ps, g, M, F, hm, b⟩ := c.ex
  exact pe_makeK M F (hr.mono hk) hg hm b passL ha hkw h1 h2 h3 h4 h5
theorem kmap (c : KMap X.prog X.w X.K X.mg X.base k x C sp dvs) (hr : Room j X.A) (hk : k + 1 ≤ j) (hg : Gl X x) (ha : PA X (e :: es) t)
    (h3 : (x == ("__debug__" : Str)) = false := by decide) (h4 : starEach (e :: es) X.env = (false, eval e X.env) :: starEach es X.env := by rfl) (h5 : (backTo pos (starEach es X.env)).any (·.1) = false := by rfl) :
    PE X (.Call (.Name x p) (e :: es) [] pos) (tMake C sp dvs E0 t) := by
  obtain ⟨f, fd, ps, ds, M, F, hm, b, d⟩ := c.ex
  exact pe_make M F (hr.mono hk) hg hm b d passL ha h3 h4 h5
theorem kmap0 (c : KMap X.prog X.w X.K X.mg X.base k x C sp dvs) (hr : Room j X.A) (hk : k + 1 ≤ j) (hg : Gl X x) (h3 : (x == ("__debug__" : Str)) = false := by decide) :
    PE X (.Call (.Name x p) [] [] pos) (tMake C sp dvs E0 tNil) := by
  obtain ⟨f, fd, ps, ds, M, F, hm, b, d⟩ := c.ex
  exact pe_make0 M F (hr.mono hk) hg hm b d passL h3
end
/-! ### the head's facts of properties -/
def propB (K : PySem.W.Frag) (C f : Str) : Bool := match PySem.W.findIn K (.ref (He.ga K C)) f with
  | some (some (.ref p)) => decide (PySem.W.specialIn K (.ref p) "__get__" = some (some (.builtin "property.__get__"))) && (decide (PySem.W.takesIn K (.ref p) = some true) && (match PySem.W.recIn K p "property" with
    | some (.ref _ :: _) => true
    | _ => false))
  | _ => false
def propG (K : PySem.W.Frag) (C f : Str) : Addr := match PySem.W.findIn K (.ref (He.ga K C)) f with
  | some (some (.ref p)) => (match PySem.W.recIn K p "property" with
    | some (.ref g :: _) => g
    | _ => 0)
  | _ => 0
theorem propB_ok {K : PySem.W.Frag} {C f : Str} (h : propB K C f = true) : ∃ p, PropOf K (He.ga K C) f p (propG K C f) := by
  unfold propB at h
  split at h
  · rename_i p hp
    obtain ⟨h1, h⟩ := He.ba h
    obtain ⟨h2, h3⟩ := He.ba h
    split at h3
    · rename_i g r hr
      refine ⟨p, hp, of_decide_eq_true h1, of_decide_eq_true h2, r, ?_⟩
      unfold propG
      rw [hp]
      simp only [hr]
    · cases h3
  · cases h
/-! ### a hook that also tells the getters of properties -/
def fnWA (K : PySem.W.Frag) (a : Addr) : He.FnW := match K.lookup a with
  | some ⟨_, _, .func fd, _⟩ => some (fd.name, fd.qualname, fd.params, fd.body, fd.scope, fd.globals, fd.closure, fd.builtins)
  | _ => none
def okA (K : PySem.W.Frag) (a : Addr) (d : He.DefD) : Bool := PySem.W.keepIn K (.ref a) && (match K.lookup a with
  | some ⟨_, _, .func fd, _⟩ => PySem.W.codeIn K fd.code d.qual && (He.dflB K fd.defaults (d.dvs K) && He.kwdB K fd.kwdefaults (d.kws K))
  | _ => false)
theorem funDA {K : PySem.W.Frag} {a : Addr} {d : He.DefD} (e : fnWA K a = d.val) (c : okA K a d = true) : ∃ fd, FunD K d.name d.qual d.params d.body d.scope (d.dvs K) (d.kws K) a fd := by
  unfold okA at c
  have c' := He.ba c
  unfold fnWA at e
  generalize q : K.lookup a = lo at e c'
  match lo, q, e, c' with
  | some ⟨oc, od, .func ⟨n1, n2, n3, n4, n5, n6, n7, n8, n9, n10, n11, n12, n13, n14, n15⟩, osl⟩, q, e, c' =>
    have e2 : (some (n1, n2, n3, n4, n5, n6, n7, n15) : He.FnW) = some (d.name, d.qual, d.params, .stmts d.body, d.scope, mainGlobals, [], builtinsNs) := e
    simp only [Option.some.injEq, Prod.mk.injEq] at e2
    obtain ⟨rfl, rfl, rfl, rfl, rfl, rfl, rfl, rfl⟩ := e2
    have z1 := He.ba c'.2
    have z2 := He.ba z1.2
    exact ⟨_, ⟨oc, od, n8, n9, n10, n11, n12, n13, n14, osl, rfl, q, z1.1, He.dflB_ok z2.1, He.kwdB_ok z2.2⟩, c'.1⟩
abbrev PD : Type := Str × Str × He.DefD
def pobs (ps : List PD) (K : PySem.W.Frag) : List He.FnW := ps.map fun p => fnWA K (propG K p.1 p.2.1)
def pval (ps : List PD) : List He.FnW := ps.map fun p => p.2.2.val
def pok (ps : List PD) (K : PySem.W.Frag) : Bool := ps.all fun p => propB K p.1 p.2.1 && okA K (propG K p.1 p.2.1) p.2.2
abbrev AlY : Type := He.AlX × List He.FnW
def obsY (n : Nat) (fa : List He.Fa) (fn : List He.DefD) (ps : List PD) (ex : PySem.W.Frag → Bool) (g : Addr → Option Obj) : AlY := (He.obsX n fa fn [] [] (fun K => ex K && pok ps K) g, pobs ps (He.frT g (He.asD g n)))
structure SaysY (fa : List He.Fa) (fn : List He.DefD) (ps : List PD) (ex : PySem.W.Frag → Bool) (w : World) (h : Heap) (K : PySem.W.Frag) : Prop where
  x : He.SaysX fa fn [] [] (fun K => ex K && pok ps K) w h K
  p : pobs ps K = pval ps
def hookY (n : Nat) (fa : List He.Fa) (fn : List He.DefD) (ps : List PD) (ex : PySem.W.Frag → Bool) : PySem.W.Hook where
  α := AlY
  obs := fun s => obsY n fa fn ps ex s.heap.get?
  val := fun w => (He.valX fn [] w, pval ps)
  says := fun w h => ∃ K : PySem.W.Frag, K.In h ∧ SaysY fa fn ps ex w h K
  of := fun w s e => ⟨_, He.frT_in, He.saysX_of (congrArg (fun z : AlY => z.1) e), congrArg (fun z : AlY => z.2) e⟩
  keeps := fun _ _ _ ⟨K, hK, c⟩ k => ⟨K, PySem.W.Frag.In.keeps hK k, ⟨c.x.t, c.x.more, c.x.hd, c.x.out, fun p hp => k _ _ (c.x.empty p hp)⟩, c.p⟩
theorem obsY_eq {n : Nat} {fa : List He.Fa} {fn : List He.DefD} {ps : List PD} {ex : PySem.W.Frag → Bool} {g : Addr → Option Obj} {s : Shared} (h : ∀ a, g a = s.heap.get? a) : obsY n fa fn ps ex g = (hookY n fa fn ps ex).obs s := by
  have e : g = s.heap.get? := funext h
  subst e
  rfl
theorem SaysY.prop {fa : List He.Fa} {fn : List He.DefD} {ps : List PD} {ex : PySem.W.Frag → Bool} {w : World} {h : Heap} {K : PySem.W.Frag} (c : SaysY fa fn ps ex w h K) (i : Nat) {p : PD} (hp : ps[i]? = some p := by rfl) :
    ∃ (a : Addr) (fd : FuncData), PropOf K (He.ga K p.1) p.2.1 a (propG K p.1 p.2.1) ∧ FunD K p.2.2.name p.2.2.qual p.2.2.params p.2.2.body p.2.2.scope (p.2.2.dvs K) (p.2.2.kws K) (propG K p.1 p.2.1) fd := by
  have c2 := (He.ba c.x.more).2
  obtain ⟨h1, h2⟩ := He.ba (List.all_eq_true.mp c2 p (List.mem_of_getElem? hp))
  obtain ⟨a, ha⟩ := propB_ok h1
  have e2 : (pobs ps K)[i]? = (pval ps)[i]? := by rw [c.p]
  unfold pobs pval at e2
  rw [List.getElem?_map, List.getElem?_map, hp] at e2
  obtain ⟨fd, F⟩ := funDA (Option.some.inj e2) h2
  exact ⟨a, fd, ha, F⟩
theorem SaysY.ex {fa : List He.Fa} {fn : List He.DefD} {ps : List PD} {ex : PySem.W.Frag → Bool} {w : World} {h : Heap} {K : PySem.W.Frag} (c : SaysY fa fn ps ex w h K) : ex K = true := (He.ba c.x.more).1
end Kr

set_option Elab.async false
set_option linter.all false
set_option maxRecDepth 100000
set_option maxHeartbeats 2000000
/-! ### classmethods of the text's own classes -/
namespace Kr
open PySem PySem.Spec PyProof.Rows L2
structure KCm (P : Program) (w : World) (K : PySem.W.Frag) (mg : Str → Option Value) (base : Heap) (k : Nat) (C : Addr) (m : Str) (sp : Sp) : Prop where
  ex : ∃ (p g : Addr) (fd : FuncData) (ps : List Str), ClX.CRead K C (.type "type") ∧ ClX.CMet K C (.type "type") m p g ∧ FnOk P w K mg base (CX P w) k g fd ps sp ∧ Binds K fd ps []
section
variable {X : Cx} {k j : Nat} {C : Addr} {m : Str} {sp : Sp} {o e : Expr} {es : List Expr} {ta : TE} {t : TA} {pos apos : Pos} {W : WX}
theorem fnr {P : Program} {w : World} {K : PySem.W.Frag} {mg : Str → Option Value} {base : Heap} {CX : CXT} {f : Addr} {fd : FuncData} {ps : List Str} (F : FnOk P w K mg base CX k f fd ps sp) (b : Binds K fd ps []) : FnR P w K mg base CX k f sp :=
  (F.raw b .nil).imp fun vs H Q E h => by rw [List.append_nil]; exact h
theorem kcm {pl : Sem Bool} (c : KCm X.prog X.w X.K X.mg X.base k C m sp) (hr : Room j X.A) (hk : k ≤ j) (he : PE X o ta) (ha : PA X (e :: es) t)
    (h1 : starEach (e :: es) X.env = (false, eval e X.env) :: starEach es X.env := by rfl) (h2 : (backTo pos (starEach es X.env)).any (·.1) = false := by rfl)
    (h3 : eval (.Call (.Attribute o m apos) (e :: es) [] pos) X.env = (do
      let ov ← eval o X.env
      standAt apos.atName
      let (f, first) ← holding [ov] (getMethod ov m pl)
      callWith pos f first (backTo pos (starEach (e :: es) X.env)) (backToKw pos (keywordEach [] X.env))) := by rfl) :
    PE X (.Call (.Attribute o m apos) (e :: es) [] pos) (ClX.tCMeth C sp E0 ta t) := by
  obtain ⟨p, g, fd, ps, r, cm, F, b⟩ := c.ex
  exact ClX.pe_cmeth he r cm (fnr F b) (hr.mono hk) passL ha h1 h2 h3
theorem kcm0 {pl : Sem Bool} (c : KCm X.prog X.w X.K X.mg X.base k C m sp) (hr : Room j X.A) (hk : k ≤ j) (he : PE X o ta)
    (h3 : eval (.Call (.Attribute o m apos) [] [] pos) X.env = (do
      let ov ← eval o X.env
      standAt apos.atName
      let (f, first) ← holding [ov] (getMethod ov m pl)
      callWith pos f first (backTo pos (starEach [] X.env)) (backToKw pos (keywordEach [] X.env))) := by rfl) :
    PE X (.Call (.Attribute o m apos) [] [] pos) (ClX.tCMeth C sp E0 ta tNil) := by
  obtain ⟨p, g, fd, ps, r, cm, F, b⟩ := c.ex
  refine ⟨fun pins s σ H Q I h => ?_⟩
  refine PySem.W.methodCall_KW (pl := pl) (thn (he.run pins s σ H _ I h) fun u s1 hh => ?_) h3
  obtain ⟨x, H1, I1, rx, ex, q⟩ := hh
  subst ex
  obtain rfl : u = Value.ref C := rx
  refine ClX.getmethcm_ok I1 r cm fun s2 I2 => ?_
  exact PySem.W.callWith_M0 (first := []) ⟨ClX.pin_at I2, I2.kIn⟩ cm.fi (ClX.run_cm (fnr F b) (hr.mono hk) passL I2 .nil q)
theorem runCmAt {pins : List (Addr × Obj)} {σ : L2.St} {H : Hp} {s : Shared} {g q C : Addr} {E : XK} {Q : VK} {us : List Value} {vs : List V} (F : FnR X.prog X.w X.K X.mg X.base (CX X.prog X.w) k g sp) (hr : Room k X.A) (hx : PassesAt (CX X.prog X.w) X σ E) (I : Inv X ((q, PySem.W.methodObj (.ref g) (.ref C)) :: pins) σ H s)
    (r : Vals vs us) (h : sp (.ref C :: vs) H Q E) : wpAny (model X.prog X.w) X.A (call (.ref q) us) (EP X pins σ Q) X.xe s := by
  refine wpAny_call (PySem.W.method_call (ClX.pin_at I) (codeAny_mono (F X.A X.stack s H (.ref C :: us) (.ref C :: vs) Q E hr I.env0 (.cons rfl r) h) fun z s' hq => ?_))
  cases z with
  | error er => exact hx _ H s er s' I hq
  | ok fl =>
    cases fl with
    | ret u => exact ClX.unpinE (I.after hq)
    | next => exact hq.elim
    | brk => exact hq.elim
    | cont => exact hq.elim
/-- a class method that may raise -/
def tCMethW (C : Addr) (sp : Sp) (E : L2.St → XK) (ta : TE) (t : TA) : TE := fun σ H Q => ta σ H fun x H1 => x = .ref C ∧ t σ H1 fun vs H2 => sp (.ref C :: vs) H2 Q (E σ)
theorem kcmx {pl : Sem Bool} (c : KCm X.prog X.w X.K X.mg X.base k C m sp) (tk : Takes X W) (hr : Room j X.A) (hk : k ≤ j) (he : PE X o ta) (ha : PA X (e :: es) t)
    (h1 : starEach (e :: es) X.env = (false, eval e X.env) :: starEach es X.env := by rfl) (h2 : (backTo pos (starEach es X.env)).any (·.1) = false := by rfl)
    (h3 : eval (.Call (.Attribute o m apos) (e :: es) [] pos) X.env = (do
      let ov ← eval o X.env
      standAt apos.atName
      let (f, first) ← holding [ov] (getMethod ov m pl)
      callWith pos f first (backTo pos (starEach (e :: es) X.env)) (backToKw pos (keywordEach [] X.env))) := by rfl) :
    PE X (.Call (.Attribute o m apos) (e :: es) [] pos) (tCMethW C sp (WE W) ta t) := by
  obtain ⟨p, g, fd, ps, r, cm, F, b⟩ := c.ex
  refine ⟨fun pins s σ H Q I h => ?_⟩
  refine PySem.W.methodCall_KW (pl := pl) (thn (he.run pins s σ H _ I h) fun u s1 hh => ?_) h3
  obtain ⟨x, H1, I1, rx, ex, q⟩ := hh
  subst ex
  obtain rfl : u = Value.ref C := rx
  refine ClX.getmethcm_ok I1 r cm fun s2 I2 => ?_
  refine ClX.callwith_cm I2 (ClX.base_none I1 (Nat.le_refl _)) cm.fi (thn (ha.run pos _ s2 σ H1 _ I2 q) fun us s3 hq => ?_) h1 h2
  obtain ⟨vs, H2, I3, rv, q2⟩ := hq
  exact ⟨⟨ClX.pin_at I3, I3.kIn⟩, runCmAt (fnr F b) (hr.mono hk) (passAt tk σ) I3 rv q2⟩
end
/-- cls(e, ..), the class held by a name -/
def tMakeV (C : Addr) (sp : Sp) (dvs : List V) (E : XK) (tf : TE) (t : TA) : TE := fun σ H Q => tf σ H fun v H1 => v = .ref C ∧ tMake C sp dvs E t σ H1 Q
theorem kmapV {X : Cx} {k j : Nat} {x y : Str} {C : Addr} {sp : Sp} {e : Expr} {es : List Expr} {tf : TE} {t : TA} {p pos : Pos} {dvs : List V} (c : KMap X.prog X.w X.K X.mg X.base k y C sp dvs) (hr : Room j X.A) (hk : k + 1 ≤ j) (hf : PE X (.Name x p) tf) (ha : PA X (e :: es) t)
    (h4 : starEach (e :: es) X.env = (false, eval e X.env) :: starEach es X.env := by rfl) (h5 : (backTo pos (starEach es X.env)).any (·.1) = false := by rfl) :
    PE X (.Call (.Name x p) (e :: es) [] pos) (tMakeV C sp dvs E0 tf t) := by
  obtain ⟨f, fd, ps, ds, M, F, hm, b, d⟩ := c.ex
  refine ⟨fun pins s σ H Q I h => ?_⟩
  refine wpAny_Call_Name_kw (thn (hf.run pins s σ H _ I h) fun u s1 hh => ?_)
  obtain ⟨v, H1, I1, rv, rfl, q⟩ := hh
  obtain rfl : u = Value.ref C := rv
  refine PySem.W.callWith_K (h₀ := X.base) I.ok.mod.kin M.kp (thn (ha.run pos pins s1 σ H1 _ I1 q) fun us s2 hq => ?_) h4 h5
  obtain ⟨vs, H2, I2, r, q2⟩ := hq
  exact ⟨I2.kIn, run_make M F (hr.mono hk) b d passL I2 r q2⟩
theorem kgC {X : Cx} {k : Nat} {x : Str} {C : Addr} {sp : Sp} {dvs : List V} {pos : Pos} (c : KMap X.prog X.w X.K X.mg X.base k x C sp dvs) (hg : Gl X x) (hd : (x == ("__debug__" : Str)) = false := by decide) : PE X (.Name x pos) (tC (.ref C)) := by
  obtain ⟨f, fd, ps, ds, M, F, hm, b, d⟩ := c.ex
  exact pe_glob hg hm rfl hd
/-! ### the head's facts of classmethods -/
def cmG (K : PySem.W.Frag) (C m : Str) : Addr := He5.wf K (He.ga K C) "classmethod" m
def cmB (K : PySem.W.Frag) (C m : Str) : Bool := PySem.W.readsIn K (He.ga K C) (.type "type") && (He.eqO (PySem.W.specialIn K (.ref (He.ga K C)) "__getattribute__") (some (some (.builtin "type.__getattribute__"))) && (He5.wrapB K (He.ga K C) "classmethod" "classmethod.__get__" m && PySem.W.fnIn K (cmG K C m)))
theorem cmB_ok {K : PySem.W.Frag} {C m : Str} (h : cmB K C m = true) : ClX.CRead K (He.ga K C) (.type "type") ∧ ∃ p, ClX.CMet K (He.ga K C) (.type "type") m p (cmG K C m) := by
  obtain ⟨h1, h⟩ := He.ba h
  obtain ⟨h2, h⟩ := He.ba h
  obtain ⟨h3, h4⟩ := He.ba h
  exact ⟨⟨h1, He.eqO_ok h2⟩, _, He5.cmet_of h3 h4⟩
end Kr

set_option Elab.async false
set_option linter.all false
set_option maxRecDepth 100000
set_option maxHeartbeats 2000000
/-! ### a hook over written addresses -/
namespace Kr
open PySem PySem.Spec PyProof.Rows L2
/-- defs at told addresses: those of classmethods -/
def cobs (cs : List PD) (K : PySem.W.Frag) : List He.FnW := cs.map fun p => fnWA K (cmG K p.1 p.2.1)
def cok (cs : List PD) (K : PySem.W.Frag) : Bool := cs.all fun p => cmB K p.1 p.2.1 && okA K (cmG K p.1 p.2.1) p.2.2
abbrev AlL : Type := (He.AlD × Bool) × (List He.FnW × List He.FnW)
def obsL (as : List Addr) (fa : List He.Fa) (fn : List He.DefD) (ps cs : List PD) (ex : PySem.W.Frag → Bool) (g : Addr → Option Obj) : AlL := ((He.obsD fa fn (He.frT g as), ex (He.frT g as) && (pok ps (He.frT g as) && cok cs (He.frT g as))), (pobs ps (He.frT g as), cobs cs (He.frT g as)))
structure SaysL (fa : List He.Fa) (fn : List He.DefD) (ps cs : List PD) (ex : PySem.W.Frag → Bool) (K : PySem.W.Frag) : Prop where
  d : He.SaysD fa fn K
  more : (ex K && (pok ps K && cok cs K)) = true
  p : pobs ps K = pval ps
  q : cobs cs K = pval cs
def hookL (as : List Addr) (fa : List He.Fa) (fn : List He.DefD) (ps cs : List PD) (ex : PySem.W.Frag → Bool) : PySem.W.Hook where
  α := AlL
  obs := fun s => obsL as fa fn ps cs ex s.heap.get?
  val := fun _ => ((He.valD fn, true), (pval ps, pval cs))
  says := fun _ h => ∃ K : PySem.W.Frag, K.In h ∧ SaysL fa fn ps cs ex K
  of := fun _ s e => ⟨_, He.frT_in, congrArg (fun z : AlL => z.1.1) e, congrArg (fun z : AlL => z.1.2) e, congrArg (fun z : AlL => z.2.1) e, congrArg (fun z : AlL => z.2.2) e⟩
  keeps := fun _ _ _ ⟨K, hK, c⟩ k => ⟨K, PySem.W.Frag.In.keeps hK k, c⟩
theorem obsL_eq {as : List Addr} {fa : List He.Fa} {fn : List He.DefD} {ps cs : List PD} {ex : PySem.W.Frag → Bool} {g : Addr → Option Obj} {s : Shared} (h : ∀ a, g a = s.heap.get? a) : obsL as fa fn ps cs ex g = (hookL as fa fn ps cs ex).obs s := by
  have e : g = s.heap.get? := funext h
  subst e
  rfl
section
variable {fa : List He.Fa} {fn : List He.DefD} {ps cs : List PD} {xq : PySem.W.Frag → Bool} {K : PySem.W.Frag}
theorem SaysL.prop (c : SaysL fa fn ps cs xq K) (i : Nat) {p : PD} (hp : ps[i]? = some p := by rfl) :
    ∃ (a : Addr) (fd : FuncData), PropOf K (He.ga K p.1) p.2.1 a (propG K p.1 p.2.1) ∧ FunD K p.2.2.name p.2.2.qual p.2.2.params p.2.2.body p.2.2.scope (p.2.2.dvs K) (p.2.2.kws K) (propG K p.1 p.2.1) fd := by
  obtain ⟨h1, h2⟩ := He.ba (List.all_eq_true.mp (He.ba (He.ba c.more).2).1 p (List.mem_of_getElem? hp))
  obtain ⟨a, ha⟩ := propB_ok h1
  have e2 : (pobs ps K)[i]? = (pval ps)[i]? := by rw [c.p]
  unfold pobs pval at e2
  rw [List.getElem?_map, List.getElem?_map, hp] at e2
  obtain ⟨fd, F⟩ := funDA (Option.some.inj e2) h2
  exact ⟨a, fd, ha, F⟩
theorem SaysL.cm (c : SaysL fa fn ps cs xq K) (i : Nat) {p : PD} (hp : cs[i]? = some p := by rfl) :
    ∃ (a : Addr) (fd : FuncData), ClX.CRead K (He.ga K p.1) (.type "type") ∧ ClX.CMet K (He.ga K p.1) (.type "type") p.2.1 a (cmG K p.1 p.2.1) ∧ FunD K p.2.2.name p.2.2.qual p.2.2.params p.2.2.body p.2.2.scope (p.2.2.dvs K) (p.2.2.kws K) (cmG K p.1 p.2.1) fd := by
  obtain ⟨h1, h2⟩ := He.ba (List.all_eq_true.mp (He.ba (He.ba c.more).2).2 p (List.mem_of_getElem? hp))
  obtain ⟨r, a, ha⟩ := cmB_ok h1
  have e2 : (cobs cs K)[i]? = (pval cs)[i]? := by rw [c.q]
  unfold cobs pval at e2
  rw [List.getElem?_map, List.getElem?_map, hp] at e2
  obtain ⟨fd, F⟩ := funDA (Option.some.inj e2) h2
  exact ⟨a, fd, r, ha, F⟩
theorem SaysL.ex (c : SaysL fa fn ps cs xq K) : xq K = true := (He.ba c.more).1
end
end Kr

set_option Elab.async false
set_option linter.all false
set_option maxRecDepth 100000
set_option maxHeartbeats 2000000
namespace Kr
open PySem PySem.Spec PyProof.Rows L2
open SX (S)
open He (ga ma)
/-! ### a page in the heap -/
def pgR (t c m k r h : V) : List (Str × V) := [("text", t), ("caret", c), ("mark", m), ("kept", k), ("returned", r), ("hold", h)]
def mV : Option Nat → V
  | none => .non
  | some x => .int (x : Nat)
section
variable {t c m k r h v : V}
theorem lk_text : (pgR t c m k r h).lookup ("text" : Str) = some t := by kernel_rfl
theorem lk_caret : (pgR t c m k r h).lookup ("caret" : Str) = some c := by kernel_rfl
theorem lk_mark : (pgR t c m k r h).lookup ("mark" : Str) = some m := by kernel_rfl
theorem lk_kept : (pgR t c m k r h).lookup ("kept" : Str) = some k := by kernel_rfl
theorem lk_returned : (pgR t c m k r h).lookup ("returned" : Str) = some r := by kernel_rfl
theorem lk_hold : (pgR t c m k r h).lookup ("hold" : Str) = some h := by kernel_rfl
theorem pt_text : putF "text" v (pgR t c m k r h) = pgR v c m k r h := by kernel_rfl
theorem pt_caret : putF "caret" v (pgR t c m k r h) = pgR t v m k r h := by kernel_rfl
theorem pt_mark : putF "mark" v (pgR t c m k r h) = pgR t c v k r h := by kernel_rfl
theorem pt_kept : putF "kept" v (pgR t c m k r h) = pgR t c m v r h := by kernel_rfl
theorem pt_returned : putF "returned" v (pgR t c m k r h) = pgR t c m k v h := by kernel_rfl
theorem pt_new : putF "hold" h (putF "returned" r (putF "kept" k (putF "mark" m (putF "caret" c (putF "text" t []))))) = pgR t c m k r h := by kernel_rfl
theorem nm_act : (pgR t c m k r h).lookup ("act" : Str) = none := by kernel_rfl
theorem nm_travel : (pgR t c m k r h).lookup ("travel" : Str) = none := by kernel_rfl
theorem nm_use_mark : (pgR t c m k r h).lookup ("use_mark" : Str) = none := by kernel_rfl
theorem nm_take_one : (pgR t c m k r h).lookup ("take_one" : Str) = none := by kernel_rfl
theorem nm_ahead : (pgR t c m k r h).lookup ("ahead" : Str) = none := by kernel_rfl
theorem nm_pass_sign : (pgR t c m k r h).lookup ("pass_sign" : Str) = none := by kernel_rfl
theorem nm_advance_caret : (pgR t c m k r h).lookup ("advance_caret" : Str) = none := by kernel_rfl
theorem nm_insert : (pgR t c m k r h).lookup ("insert" : Str) = none := by kernel_rfl
theorem nm_press : (pgR t c m k r h).lookup ("press" : Str) = none := by kernel_rfl
theorem nm_move_to : (pgR t c m k r h).lookup ("move_to" : Str) = none := by kernel_rfl
theorem nm_copy : (pgR t c m k r h).lookup ("copy" : Str) = none := by kernel_rfl
theorem nm_line_start_at : (pgR t c m k r h).lookup ("line_start_at" : Str) = none := by kernel_rfl
theorem ln_pg : (pgR t c m k r h).length < 1000 := by
  show 6 < 1000
  decide
end
abbrev pgf (g : Pg) (h : Nat) : List (Str × V) := pgR (.str (S g.t)) (.int (g.c : Nat)) (mV g.m) (.str (S g.k)) (.int (g.r : Nat)) (.int (h : Nat))
/-- a page g with the bound h stands at p -/
def PageAt (K : PySem.W.Frag) (H : Hp) (p : Addr) (g : Pg) (h : Nat) : Prop := ∃ dx, H p = some (.ins (ga K "Page") dx (pgf g h))
theorem PageAt.keep {K : PySem.W.Frag} {H H' : Hp} {S : List Addr} {p : Addr} {g : Pg} {h : Nat} (a : PageAt K H p g h) (k : Kp S H H') (hp : p ∉ S) : PageAt K H' p g h := by
  obtain ⟨dx, e⟩ := a
  exact ⟨dx, k p _ hp e⟩
theorem PageAt.same {K : PySem.W.Frag} {H H' : Hp} {p : Addr} {g : Pg} {h : Nat} (a : PageAt K H p g h) (k : Same H H') : PageAt K H' p g h := by
  obtain ⟨dx, e⟩ := a
  exact ⟨dx, k p _ e⟩
/-- the class Page's facts -/
structure TP (K : PySem.W.Frag) : Prop where
  cl : Cls K (ga K "Page")
  n_text : NoAttr K (ga K "Page") "text"
  n_caret : NoAttr K (ga K "Page") "caret"
  n_mark : NoAttr K (ga K "Page") "mark"
  n_kept : NoAttr K (ga K "Page") "kept"
  n_returned : NoAttr K (ga K "Page") "returned"
  n_hold : NoAttr K (ga K "Page") "hold"
end Kr

set_option Elab.async false
set_option linter.all false
set_option maxRecDepth 100000
set_option maxHeartbeats 2000000
namespace Kr
open PySem PySem.Spec PyProof.Rows L2
open SX (S)
/-! ### recordings, plainly -/
inductive It where
  | key (s : List Nat)
  | rep (a : List It)
  | cho (a b : List It)
mutual
def It.keys : It → List (List Nat)
  | .key s => [s]
  | .rep a => keysL a
  | .cho a b => keysL a ++ keysL b
def keysL : List It → List (List Nat)
  | [] => []
  | i :: r => i.keys ++ keysL r
end
mutual
def It.reps : It → Nat
  | .key _ => 0
  | .rep a => 1 + repsL a
  | .cho a b => repsL a + repsL b
def repsL : List It → Nat
  | [] => 0
  | i :: r => i.reps + repsL r
end
mutual
def It.dep : It → Nat
  | .key _ => 0
  | .rep a => 1 + depL a
  | .cho a b => 1 + max (depL a) (depL b)
def depL : List It → Nat
  | [] => 0
  | i :: r => max i.dep (depL r)
end
mutual
def It.sz : It → Nat
  | .key _ => 1
  | .rep a => 1 + szL a
  | .cho a b => 1 + szL a + szL b
def szL : List It → Nat
  | [] => 0
  | i :: r => i.sz + szL r
end
mutual
def It.data : It → PyData
  | .key s => .str (S s)
  | .rep a => .tuple [.str (S [40]), .tuple (dataL a)]
  | .cho a b => .tuple [.str (S [91]), .tuple (dataL a), .tuple (dataL b)]
def dataL : List It → List PyData
  | [] => []
  | i :: r => i.data :: dataL r
end
/-- a written key -/
def kOk (s : List Nat) : Prop := s ≠ [] ∧ s.length ≤ 2 ∧ ∀ c ∈ s, c ∈ sgn
mutual
def It.ok : It → Prop
  | .key s => kOk s
  | .rep a => okL a
  | .cho a b => okL a ∧ okL b
def okL : List It → Prop
  | [] => True
  | i :: r => i.ok ∧ okL r
end
theorem keysL_app : ∀ a b : List It, keysL (a ++ b) = keysL a ++ keysL b
  | [], b => by simp [keysL]
  | i :: r, b => by simp [keysL, keysL_app r b]
theorem repsL_app : ∀ a b : List It, repsL (a ++ b) = repsL a + repsL b
  | [], b => by simp [repsL]
  | i :: r, b => by simp [repsL, repsL_app r b, Nat.add_assoc]
theorem depL_app : ∀ a b : List It, depL (a ++ b) = max (depL a) (depL b)
  | [], b => by simp [depL]
  | i :: r, b => by simp [depL, depL_app r b, Nat.max_assoc]
theorem szL_app : ∀ a b : List It, szL (a ++ b) = szL a + szL b
  | [], b => by simp [szL]
  | i :: r, b => by simp [szL, szL_app r b, Nat.add_assoc]
theorem okL_app : ∀ {a b : List It}, okL a → okL b → okL (a ++ b)
  | [], b, _, h => h
  | i :: r, b, ⟨h1, h2⟩, h => ⟨h1, okL_app h2 h⟩
theorem okL_mem : ∀ {a : List It} {i : It}, okL a → i ∈ a → i.ok
  | j :: r, i, ⟨h1, h2⟩, h => by
    cases h with
    | head => exact h1
    | tail _ h => exact okL_mem h2 h
theorem depL_mem : ∀ {a : List It} {i : It}, i ∈ a → i.dep ≤ depL a
  | j :: r, i, h => by
    cases h with
    | head => simp [depL]; omega
    | tail _ h => have := depL_mem h; simp [depL]; omega
theorem szL_mem : ∀ {a : List It} {i : It}, i ∈ a → i.sz ≤ szL a
  | j :: r, i, h => by
    cases h with
    | head => simp [szL]
    | tail _ h => have := szL_mem h; simp [szL]; omega
theorem len_szL : ∀ a : List It, a.length ≤ szL a
  | [] => by simp
  | i :: r => by
    have := len_szL r
    have h : 1 ≤ i.sz := by cases i <;> simp [It.sz] <;> omega
    simp [szL]; omega
mutual
theorem keys_sz : ∀ i : It, i.keys.length ≤ i.sz
  | .key s => by simp [It.keys, It.sz]
  | .rep a => by have := keysL_sz a; simp [It.keys, It.sz]; omega
  | .cho a b => by have := keysL_sz a; have := keysL_sz b; simp [It.keys, It.sz]; omega
theorem keysL_sz : ∀ a : List It, (keysL a).length ≤ szL a
  | [] => by simp [keysL]
  | i :: r => by have := keys_sz i; have := keysL_sz r; simp [keysL, szL]; omega
end
mutual
theorem reps_sz : ∀ i : It, i.reps ≤ i.sz
  | .key s => by simp [It.reps]
  | .rep a => by have := repsL_sz a; simp [It.reps, It.sz]; omega
  | .cho a b => by have := repsL_sz a; have := repsL_sz b; simp [It.reps, It.sz]; omega
theorem repsL_sz : ∀ a : List It, repsL a ≤ szL a
  | [] => by simp [repsL]
  | i :: r => by have := reps_sz i; have := repsL_sz r; simp [repsL, szL]; omega
end
mutual
theorem ok_keys : ∀ i : It, i.ok → ∀ k ∈ i.keys, kOk k
  | .key s, h, k, hk => by simp [It.keys] at hk; subst hk; exact h
  | .rep a, h, k, hk => okL_keys a h k hk
  | .cho a b, h, k, hk => by
    simp [It.keys] at hk
    rcases hk with hk | hk
    · exact okL_keys a h.1 k hk
    · exact okL_keys b h.2 k hk
theorem okL_keys : ∀ a : List It, okL a → ∀ k ∈ keysL a, kOk k
  | [], _, k, hk => by simp [keysL] at hk
  | i :: r, h, k, hk => by
    simp [keysL] at hk
    rcases hk with hk | hk
    · exact ok_keys i h.1 k hk
    · exact okL_keys r h.2 k hk
end
/-! ### as data -/
theorem strOk_sgn {s : List Nat} (h : ∀ c ∈ s, c ∈ sgn) : PyData.strOk (S s) = true := by
  have all : ∀ c ∈ sgn, c < 0x110000 := by decide
  unfold PyData.strOk
  simp [S]
  intro c hc
  exact all c (h c hc)
mutual
theorem lay_it : ∀ i : It, i.ok → PyData.canLay0 i.data = true
  | .key s, h => strOk_sgn h.2.2
  | .rep a, h => by
    show (PyData.canLay0 (.str (S [40])) && (PyData.canLay0 (.tuple (dataL a)) && true)) = true
    have e : PyData.canLay0 (.tuple (dataL a)) = true := lay_its a h
    rw [e]; decide +kernel
  | .cho a b, h => by
    show (PyData.canLay0 (.str (S [91])) && (PyData.canLay0 (.tuple (dataL a)) && (PyData.canLay0 (.tuple (dataL b)) && true))) = true
    have e : PyData.canLay0 (.tuple (dataL a)) = true := lay_its a h.1
    have e2 : PyData.canLay0 (.tuple (dataL b)) = true := lay_its b h.2
    rw [e, e2]; decide +kernel
theorem lay_its : ∀ a : List It, okL a → PyData.canLayAll0 (dataL a) = true
  | [], _ => rfl
  | i :: r, h => by
    show (PyData.canLay0 i.data && PyData.canLayAll0 (dataL r)) = true
    rw [lay_it i h.1, lay_its r h.2]; rfl
end
mutual
theorem dep_it : ∀ i : It, PyData.depth i.data ≤ 2 * i.dep
  | .key s => by simp [It.data, PyData.depth]
  | .rep a => by
    have := dep_its a
    show PyData.depthAll [.str (S [40]), .tuple (dataL a)] + 1 ≤ _
    show max (PyData.depth (.str (S [40]))) (max (PyData.depthAll (dataL a) + 1) 0) + 1 ≤ _
    have e : PyData.depth (.str (S [40])) = 0 := rfl
    simp [It.dep, e]; omega
  | .cho a b => by
    have := dep_its a
    have := dep_its b
    show max (PyData.depth (.str (S [91]))) (max (PyData.depthAll (dataL a) + 1) (max (PyData.depthAll (dataL b) + 1) 0)) + 1 ≤ _
    have e : PyData.depth (.str (S [91])) = 0 := rfl
    simp [It.dep, e]; omega
theorem dep_its : ∀ a : List It, PyData.depthAll (dataL a) ≤ 2 * depL a
  | [] => by simp [dataL, PyData.depthAll]
  | i :: r => by
    have := dep_it i
    have := dep_its r
    show max (PyData.depth i.data) (PyData.depthAll (dataL r)) ≤ _
    simp [depL]; omega
end
theorem sh_its {a : List It} (h : okL a) (hd : depL a ≤ 30) : SeqAt.shaped (.tuple (dataL a)) = true := by
  unfold SeqAt.shaped
  rw [Bool.and_eq_true]
  refine ⟨lay_its a h, decide_eq_true ?_⟩
  have := dep_its a
  show PyData.depthAll (dataL a) + 1 ≤ 64
  omega
theorem eqv_nil (a : List It) : PyData.eqv (.tuple (dataL a)) (.tuple []) = a.isEmpty := by
  cases a with
  | nil => rfl
  | cons i r => rfl
/-! ### trees in the heap: tuples -/
mutual
def Tr (H : Hp) : V → It → Prop
  | v, .key s => v = .str (S s)
  | v, .rep a => ∃ p q xs, v = .ref p ∧ H p = some (.tup [.str (S [40]), .ref q]) ∧ H q = some (.tup xs) ∧ Trs H xs a
  | v, .cho a b => ∃ p q r xs ys, v = .ref p ∧ H p = some (.tup [.str (S [91]), .ref q, .ref r]) ∧ H q = some (.tup xs) ∧ H r = some (.tup ys) ∧ Trs H xs a ∧ Trs H ys b
def Trs (H : Hp) : List V → List It → Prop
  | xs, [] => xs = []
  | xs, i :: r => ∃ v ys, xs = v :: ys ∧ Tr H v i ∧ Trs H ys r
end
/-- the tuples stay -/
def Tk (H H' : Hp) : Prop := ∀ a xs, H a = some (.tup xs) → H' a = some (.tup xs)
theorem Tk.refl {H : Hp} : Tk H H := fun _ _ h => h
theorem Tk.trans {H H1 H2 : Hp} (a : Tk H H1) (b : Tk H1 H2) : Tk H H2 := fun x u h => b x u (a x u h)
theorem Tk.same {H H' : Hp} (a : Same H H') : Tk H H' := fun x u h => a x _ h
theorem Tk.new {H H' : Hp} {p : Addr} {o : HO} (a : Tk H H') (h : H' p = none) : Tk H (upd H' p o) := fun x u q => by
  have q' := a x u q
  rw [upd_ne (ne_of_none q' h)]; exact q'
theorem Tk.lst {H H' : Hp} {p : Addr} {o : HO} {ys : List V} (a : Tk H H') (h : H' p = some (.lst ys)) : Tk H (upd H' p o) := fun x u q => by
  have q' := a x u q
  rw [upd_ne (ne_of q' h (by intro z; cases z))]; exact q'
theorem Tk.kp {H H' : Hp} {T : List Addr} (k : Kp T H H') (h : ∀ p ∈ T, ∃ ys, H p = some (.lst ys)) : Tk H H' := fun x u q => k x _ (fun m => by
  obtain ⟨ys, e⟩ := h x m
  rw [q] at e; cases e) q
mutual
theorem Tr.keep {H H' : Hp} (k : Tk H H') : ∀ {v : V} (i : It), Tr H v i → Tr H' v i
  | v, .key s, h => h
  | v, .rep a, h => by
    obtain ⟨p, q, xs, e, h1, h2, t⟩ := h
    exact ⟨p, q, xs, e, k _ _ h1, k _ _ h2, Trs.keep k a t⟩
  | v, .cho a b, h => by
    obtain ⟨p, q, r, xs, ys, e, h1, h2, h3, t, u⟩ := h
    exact ⟨p, q, r, xs, ys, e, k _ _ h1, k _ _ h2, k _ _ h3, Trs.keep k a t, Trs.keep k b u⟩
theorem Trs.keep {H H' : Hp} (k : Tk H H') : ∀ {xs : List V} (a : List It), Trs H xs a → Trs H' xs a
  | xs, [], h => h
  | xs, i :: r, h => by
    obtain ⟨v, ys, e, h1, h2⟩ := h
    exact ⟨v, ys, e, Tr.keep k i h1, Trs.keep k r h2⟩
end
theorem Trs.len {H : Hp} : ∀ {xs : List V} {a : List It}, Trs H xs a → xs.length = a.length
  | xs, [], h => by have e : xs = [] := h; simp [e]
  | xs, i :: r, h => by
    obtain ⟨v, ys, rfl, _, h2⟩ := h
    simp [Trs.len h2]
theorem Trs.app {H : Hp} : ∀ {xs ys : List V} {a b : List It}, Trs H xs a → Trs H ys b → Trs H (xs ++ ys) (a ++ b)
  | xs, ys, [], b, h, h' => by have e : xs = [] := h; subst e; exact h'
  | xs, ys, i :: r, b, h, h' => by
    obtain ⟨v, zs, rfl, h1, h2⟩ := h
    exact ⟨v, zs ++ ys, rfl, h1, Trs.app h2 h'⟩
theorem Trs.one {H : Hp} {v : V} {i : It} (h : Tr H v i) : Trs H [v] [i] := ⟨v, [], rfl, h, rfl⟩
theorem Trs.at {H : Hp} : ∀ {xs : List V} {a : List It} {j : Nat} {v : V}, Trs H xs a → xs[j]? = some v → ∃ i, a[j]? = some i ∧ Tr H v i
  | xs, [], j, v, h, e => by have e' : xs = [] := h; subst e'; simp at e
  | xs, i :: r, 0, v, h, e => by
    obtain ⟨v', ys, rfl, h1, h2⟩ := h
    simp at e
    subst e
    exact ⟨i, rfl, h1⟩
  | xs, i :: r, j + 1, v, h, e => by
    obtain ⟨v', ys, rfl, h1, h2⟩ := h
    simp at e
    obtain ⟨i', e1, t⟩ := Trs.at h2 e
    exact ⟨i', by simpa using e1, t⟩
mutual
theorem Tr.dp {K : PySem.W.Frag} {H : Hp} : ∀ {v : V} (i : It), Tr H v i → Dp K H v i.data
  | v, .key s, h => by have e : v = .str (S s) := h; subst e; exact .str _
  | v, .rep a, h => by
    obtain ⟨p, q, xs, rfl, h1, h2, t⟩ := h
    exact .tup (SqT.of h1) (.cons (.str _) (.cons (.tup (SqT.of h2) (Trs.dp a t)) .nil))
  | v, .cho a b, h => by
    obtain ⟨p, q, r, xs, ys, rfl, h1, h2, h3, t, u⟩ := h
    exact .tup (SqT.of h1) (.cons (.str _) (.cons (.tup (SqT.of h2) (Trs.dp a t)) (.cons (.tup (SqT.of h3) (Trs.dp b u)) .nil)))
theorem Trs.dp {K : PySem.W.Frag} {H : Hp} : ∀ {xs : List V} (a : List It), Trs H xs a → DpAll K H xs (dataL a)
  | xs, [], h => by have e : xs = [] := h; subst e; exact .nil
  | xs, i :: r, h => by
    obtain ⟨v, ys, rfl, h1, h2⟩ := h
    exact .cons (Tr.dp i h1) (Trs.dp r h2)
end
/-- the items a at the address p -/
def ItsAt (H : Hp) (p : Addr) (a : List It) : Prop := ∃ xs, H p = some (.tup xs) ∧ Trs H xs a
theorem ItsAt.keep {H H' : Hp} {p : Addr} {a : List It} (k : Tk H H') (h : ItsAt H p a) : ItsAt H' p a := by
  obtain ⟨xs, e, t⟩ := h
  exact ⟨xs, k _ _ e, t.keep k⟩
theorem ItsAt.nil {H : Hp} {p : Addr} (h : H p = some (.tup [])) : ItsAt H p [] := ⟨[], h, rfl⟩
end Kr

set_option Elab.async false
set_option linter.all false
set_option maxRecDepth 100000
set_option maxHeartbeats 2000000
namespace Kr
open PySem PySem.Spec PyProof.Rows L2
open SX (S)
/-! ### reading, plainly -/
/-- an open bracket: which, the items ahead of it, the first half -/
structure Grp where
  c : Nat
  o : List It
  f : Option (List It)
abbrev plk : List Nat := [62, 120, 119, 110, 36, 94, 109, 98, 107, 99, 112]
abbrev sgk : List Nat := [39, 61, 47]
abbrev brs : List Nat := [40, 91, 124, 93, 41]
abbrev ltr : List Nat := [97, 98, 99, 100, 101, 102, 103, 104, 105, 106, 107, 108, 109, 110, 111, 112, 113, 114, 115, 116, 117, 118, 119, 120, 121, 122]
/-- one bracket; the innermost open one stands first -/
def brk (c : Nat) (gs : List Grp) (its : List It) : Option (List Grp × List It) :=
  if c = 40 ∨ c = 91 then (if gs.length = 8 then none else some (⟨c, its, none⟩ :: gs, []))
  else match gs with
    | [] => none
    | g :: r =>
      if c = 41 ∧ g.c = 40 ∧ its.isEmpty = false then some (r, g.o ++ [.rep its])
      else if c = 124 ∧ g.c = 91 ∧ g.f.isNone = true ∧ its.isEmpty = false then some (⟨g.c, g.o, some its⟩ :: r, [])
      else if c = 93 ∧ g.c = 91 then match g.f with
        | some f => some (r, g.o ++ [.cho f its])
        | none => none
      else none
/-- what key_length tells: the length, or how far the fault lies -/
def kl (ca : Bool) : List Nat → Nat ⊕ Nat
  | [] => .inl 0
  | c :: t =>
    if c ∈ plk then .inr 1
    else if c ∈ sgk ∨ (ca = true ∧ c = 64) then match t with
      | [] => .inl 1
      | d :: _ => if d ∈ (if c = 64 then ltr else sgn) then .inr 2 else .inl 1
    else if c ∈ brs then .inr 0
    else .inl 0
/-- read from the place i on: the items, or the fault's place -/
def rd (ca : Bool) : Nat → Nat → List Nat → List Grp → List It → Nat ⊕ List It
  | _, i, [], gs, its => if gs.isEmpty then .inr its else .inl i
  | 0, i, _, _, _ => .inl i
  | n + 1, i, c :: t, gs, its => match kl ca (c :: t) with
    | .inl k => .inl (i + k)
    | .inr 0 => match brk c gs its with
      | none => .inl i
      | some (g2, i2) => rd ca n (i + 1) t g2 i2
    | .inr (k + 1) => rd ca n (i + (k + 1)) (t.drop k) gs (its ++ [.key (c :: t.take k)])
/-- enough turns are enough -/
theorem rd_more (ca : Bool) : ∀ (n m i : Nat) (t : List Nat) (gs : List Grp) (its : List It), t.length ≤ n → t.length ≤ m → rd ca n i t gs its = rd ca m i t gs its
  | n, m, i, [], gs, its, _, _ => by cases n <;> cases m <;> simp [rd]
  | n + 1, m + 1, i, c :: t, gs, its, h1, h2 => by
    simp at h1 h2
    simp only [rd]
    split
    · rfl
    · split
      · rfl
      · exact rd_more ca n m _ _ _ _ (by omega) (by omega)
    · exact rd_more ca n m _ _ _ _ (by simp; omega) (by simp; omega)
/-- the text t, read -/
def read (ca : Bool) (t : List Nat) : Nat ⊕ List It := rd ca t.length 0 t [] []
/-- what stands while one reads -/
def Gd : List Grp → Prop
  | [] => True
  | g :: r => r.length < 8 ∧ depL g.o + r.length ≤ 8 ∧ okL g.o ∧ (∀ f, g.f = some f → depL f + r.length + 1 ≤ 8 ∧ okL f) ∧ Gd r
def Gz : List Grp → Nat
  | [] => 0
  | g :: r => szL g.o + (match g.f with | some f => szL f | none => 0) + Gz r
structure RdOk (i : Nat) (gs : List Grp) (its : List It) : Prop where
  g : Gd gs
  d : depL its + gs.length ≤ 8
  o : okL its
  z : Gz gs + szL its ≤ i
theorem rdOk0 : RdOk 0 [] [] := ⟨trivial, by simp [depL], trivial, by simp [Gz, szL]⟩
theorem brk_ok {c i : Nat} {gs g2 : List Grp} {its i2 : List It} (h : brk c gs its = some (g2, i2)) (o : RdOk i gs its) : RdOk (i + 1) g2 i2 := by
  obtain ⟨og, od, oo, oz⟩ := o
  unfold brk at h
  split at h
  · split at h
    · cases h
    · rename_i h8
      cases h
      refine ⟨⟨by omega, by omega, oo, fun f z => (by cases z), og⟩, by simp [depL]; omega, trivial, ?_⟩
      simp [Gz, szL]; omega
  · split at h
    · cases h
    · rename_i g r
      obtain ⟨a1, a2, a3, a4, a5⟩ := og
      simp at od
      simp only [Gz] at oz
      split at h
      · cases h
        refine ⟨a5, ?_, okL_app a3 ⟨oo, trivial⟩, ?_⟩
        · rw [depL_app]; simp [depL, It.dep]; omega
        · rw [szL_app]; simp [szL, It.sz]; omega
      · split at h
        · rename_i hc
          have hf : g.f = none := by simpa using hc.2.2.1
          rw [hf] at oz
          simp only at oz
          cases h
          refine ⟨⟨a1, a2, a3, ?_, a5⟩, by simp [depL]; omega, trivial, ?_⟩
          · intro f e
            cases e
            exact ⟨by omega, oo⟩
          · simp [Gz, szL]; omega
        · split at h
          · split at h
            · rename_i f hf
              obtain ⟨b1, b2⟩ := a4 f hf
              rw [hf] at oz
              simp only at oz
              cases h
              refine ⟨a5, ?_, okL_app a3 ⟨⟨b2, oo⟩, trivial⟩, ?_⟩
              · rw [depL_app]; simp [depL, It.dep]; omega
              · rw [szL_app]; simp [szL, It.sz]; omega
            · cases h
          · cases h
theorem key_ok {i k : Nat} {gs : List Grp} {its : List It} {s : List Nat} (o : RdOk i gs its) (hs : kOk s) (hk : 1 ≤ k) : RdOk (i + k) gs (its ++ [.key s]) := by
  obtain ⟨og, od, oo, oz⟩ := o
  refine ⟨og, ?_, okL_app oo ⟨hs, trivial⟩, ?_⟩
  · rw [depL_app]; simp [depL, It.dep]; omega
  · rw [szL_app]; simp [szL, It.sz]; omega
theorem kl_ok {ca : Bool} {c k : Nat} {t : List Nat} (h : kl ca (c :: t) = .inr (k + 1)) : kOk (c :: t.take k) ∧ k ≤ t.length := by
  have p1 : ∀ x ∈ plk, x ∈ sgn := by decide
  have p2 : ∀ x ∈ sgk, x ∈ sgn := by decide
  have p3 : ∀ x ∈ ltr, x ∈ sgn := by decide
  simp only [kl] at h
  split at h
  · rename_i hc
    cases h
    exact ⟨⟨by simp, by simp, by simp; exact p1 c hc⟩, by simp⟩
  · split at h
    · rename_i hc
      have hc' : c ∈ sgn := by
        rcases hc with hc | ⟨_, rfl⟩
        · exact p2 c hc
        · decide
      split at h
      · cases h
      · rename_i d t'
        by_cases hd : d ∈ (if c = 64 then ltr else sgn)
        · rw [if_pos hd] at h
          cases h
          have hd' : d ∈ sgn := by
            split at hd
            · exact p3 d hd
            · exact hd
          exact ⟨⟨by simp, by simp, by simp; exact ⟨hc', hd'⟩⟩, by simp⟩
        · rw [if_neg hd] at h
          cases h
    · split at h <;> cases h
theorem rd_ok (ca : Bool) : ∀ (n i : Nat) (t : List Nat) (gs : List Grp) (its r : List It), rd ca n i t gs its = .inr r → RdOk i gs its → okL r ∧ depL r ≤ 8 ∧ szL r ≤ i + t.length
  | n, i, [], gs, its, r, h, o => by
    have h' : (if gs.isEmpty then (.inr its : Nat ⊕ List It) else .inl i) = .inr r := by cases n <;> simpa [rd] using h
    split at h'
    · cases h'
      rename_i hg
      have e : gs = [] := by simpa using hg
      subst e
      have := o.d
      have := o.z
      simp [Gz] at this
      exact ⟨o.o, by simp at *; omega, by simp; omega⟩
    · cases h'
  | 0, i, c :: t, gs, its, r, h, o => by simp [rd] at h
  | n + 1, i, c :: t, gs, its, r, h, o => by
    simp only [rd] at h
    split at h
    · cases h
    · split at h
      · cases h
      · rename_i hb
        obtain ⟨a, b, c⟩ := rd_ok ca n _ _ _ _ _ h (brk_ok hb o)
        exact ⟨a, b, by simp; omega⟩
    · rename_i k hk
      obtain ⟨k1, k2⟩ := kl_ok hk
      obtain ⟨a, b, c⟩ := rd_ok ca n _ _ _ _ _ h (key_ok o k1 (by omega))
      refine ⟨a, b, ?_⟩
      simp at c ⊢
      omega
theorem read_ok {ca : Bool} {t : List Nat} {r : List It} (h : read ca t = .inr r) : okL r ∧ depL r ≤ 8 ∧ szL r ≤ t.length := by
  obtain ⟨a, b, c⟩ := rd_ok ca _ _ _ _ _ _ h rdOk0
  exact ⟨a, b, by omega⟩
/-! ### open brackets in the heap -/
def GrV (H : Hp) (v : V) (g : Grp) : Prop := ∃ (p q : Addr) (fv : V), v = .ref p ∧ H p = some (.tup [.str (S [g.c]), .ref q, fv]) ∧ ItsAt H q g.o ∧ (match g.f with | none => fv = .non | some f => ∃ r : Addr, fv = .ref r ∧ ItsAt H r f)
def Grs (H : Hp) : List V → List Grp → Prop
  | xs, [] => xs = []
  | xs, g :: r => ∃ ys v, xs = ys ++ [v] ∧ GrV H v g ∧ Grs H ys r
theorem GrV.keep {H H' : Hp} {v : V} {g : Grp} (k : Tk H H') (h : GrV H v g) : GrV H' v g := by
  obtain ⟨p, q, fv, e, h1, h2, h3⟩ := h
  refine ⟨p, q, fv, e, k _ _ h1, h2.keep k, ?_⟩
  split at h3
  · exact h3
  · obtain ⟨r, e, h⟩ := h3
    exact ⟨r, e, h.keep k⟩
theorem Grs.keep {H H' : Hp} (k : Tk H H') : ∀ {xs : List V} (gs : List Grp), Grs H xs gs → Grs H' xs gs
  | xs, [], h => h
  | xs, g :: r, h => by
    obtain ⟨ys, v, e, h1, h2⟩ := h
    exact ⟨ys, v, e, h1.keep k, Grs.keep k r h2⟩
theorem Grs.len {H : Hp} : ∀ {xs : List V} {gs : List Grp}, Grs H xs gs → xs.length = gs.length
  | xs, [], h => by have e : xs = [] := h; simp [e]
  | xs, g :: r, h => by
    obtain ⟨ys, v, rfl, _, h2⟩ := h
    simp [Grs.len h2]
/-- the open brackets gs at the address p -/
def GrsAt (H : Hp) (p : Addr) (gs : List Grp) : Prop := ∃ xs, H p = some (.tup xs) ∧ Grs H xs gs
theorem GrsAt.keep {H H' : Hp} {p : Addr} {gs : List Grp} (k : Tk H H') (h : GrsAt H p gs) : GrsAt H' p gs := by
  obtain ⟨xs, e, t⟩ := h
  exact ⟨xs, k _ _ e, t.keep k⟩
theorem GrsAt.nil {H : Hp} {p : Addr} (h : H p = some (.tup [])) : GrsAt H p [] := ⟨[], h, rfl⟩
/-- one turn of the reading -/
theorem rd_step {ca : Bool} {n : List Nat} {i c : Nat} {gs : List Grp} {its : List It} (hi : i < n.length) (hc : n[i]? = some c) :
    rd ca (n.length - i) i (n.drop i) gs its = match kl ca (n.drop i) with
      | .inl k => .inl (i + k)
      | .inr 0 => (match brk c gs its with
        | none => .inl i
        | some (g2, i2) => rd ca (n.length - (i + 1)) (i + 1) (n.drop (i + 1)) g2 i2)
      | .inr (k + 1) => rd ca (n.length - (i + (k + 1))) (i + (k + 1)) (n.drop (i + (k + 1))) gs (its ++ [.key ((n.drop i).take (k + 1))]) := by
  have e0 : n[i] = c := by rw [List.getElem?_eq_getElem hi] at hc; exact Option.some.inj hc
  have e : n.drop i = c :: n.drop (i + 1) := by rw [List.drop_eq_getElem_cons hi, e0]
  obtain ⟨m, em⟩ : ∃ m, n.length - i = m + 1 := ⟨n.length - i - 1, by omega⟩
  have em2 : n.length - (i + 1) = m := by omega
  rw [e, em, em2]
  simp only [rd]
  split
  · rfl
  · rfl
  · rename_i k hk
    have e3 : n.drop (i + (k + 1)) = (n.drop (i + 1)).drop k := by rw [List.drop_drop]; congr 1; omega
    rw [e3]
    have e4 : (c :: n.drop (i + 1)).take (k + 1) = c :: (n.drop (i + 1)).take k := rfl
    rw [e4]
    exact rd_more ca _ _ _ _ _ _ (by simp; omega) (by simp; omega)
theorem rd_nil (ca : Bool) (n i : Nat) (gs : List Grp) (its : List It) : rd ca n i [] gs its = if gs.isEmpty then .inr its else .inl i := by cases n <;> rfl
theorem kl_two {ca : Bool} {t : List Nat} {k : Nat} (h : kl ca t = .inr k) : k ≤ t.length := by
  cases t with
  | nil => simp [kl] at h
  | cons c t =>
    cases k with
    | zero => simp
    | succ k => have := (kl_ok h).2; simp; omega
theorem kl_brs {ca : Bool} {c : Nat} {t : List Nat} (h : kl ca (c :: t) = .inr 0) : c ∈ brs := by
  simp only [kl] at h
  split at h
  · cases h
  · split at h
    · split at h
      · cases h
      · rename_i d t'
        by_cases hd : d ∈ (if c = 64 then ltr else sgn)
        · rw [if_pos hd] at h; cases h
        · rw [if_neg hd] at h; cases h
    · split at h
      · assumption
      · cases h
end Kr

set_option Elab.async false
set_option linter.all false
set_option maxRecDepth 100000
set_option maxHeartbeats 2000000
namespace Kr
open PySem PySem.Spec PyProof.Rows L2
open SX (S)
section
variable {X : Cx}
/-- a test whose answer is told once -/
def tCutT (t : TT) : TT := fun σ H Q => ∃ P : Bool → Hp → Prop, t σ H P ∧ ∀ b H1, P b H1 → Q b H1
theorem pt_cut {e : Expr} {t : TT} (h : PT X e t) : PT X e (tCutT t) := ⟨fun pins s σ H Q I ⟨P, hp, m⟩ => thn (h.run pins s σ H P I hp) fun b s1 ⟨H1, I1, q⟩ => ⟨H1, I1, m _ _ q⟩⟩
/-- the answer of a test that changes nothing -/
abbrev Ans (H : Hp) (c : Prop) : Bool → Hp → Prop := fun b H1 => H1 = H ∧ (b = true ↔ c)
theorem ansT {H : Hp} {c : Prop} (h : c) : Ans H c true H := ⟨rfl, by simp [h]⟩
theorem ansF {H : Hp} {c : Prop} (h : ¬ c) : Ans H c false H := ⟨rfl, by simp [h]⟩
theorem if3 {H : Hp} {C : Prop} {A B : Hp → Prop} (h1 : C → A H) (h2 : ¬ C → B H) : ∀ b H1, Ans H C b H1 → if b = true then A H1 else B H1 := by
  rintro b H1 ⟨rfl, e⟩
  cases b with
  | true => exact h1 (e.mp rfl)
  | false => exact h2 (fun z => by cases e.mpr z)
/-- the answer of a test that may lay new things -/
abbrev AnsS (H : Hp) (c : Prop) : Bool → Hp → Prop := fun b H1 => Same H H1 ∧ (b = true ↔ c)
theorem ansST {H H1 : Hp} {c : Prop} (s : Same H H1) (h : c) : AnsS H c true H1 := ⟨s, by simp [h]⟩
theorem ansSF {H H1 : Hp} {c : Prop} (s : Same H H1) (h : ¬ c) : AnsS H c false H1 := ⟨s, by simp [h]⟩
theorem if3S {H : Hp} {C : Prop} {A B : Hp → Prop} (h1 : ∀ H1, Same H H1 → C → A H1) (h2 : ∀ H1, Same H H1 → ¬ C → B H1) : ∀ b H1, AnsS H C b H1 → if b = true then A H1 else B H1 := by
  rintro b H1 ⟨s, e⟩
  cases b with
  | true => exact h1 H1 s (e.mp rfl)
  | false => exact h2 H1 s (fun z => by cases e.mpr z)
theorem sNew {H H' : Hp} {p : Addr} {o : HO} (a : Same H H') (h : H' p = none) : Same H (upd H' p o) := fun x u q => by
  have q' := a x u q
  rw [upd_ne (ne_of_none q' h)]; exact q'
theorem sMut {H H' : Hp} {p : Addr} {o : HO} (a : Same H H') (h : H p = none) : Same H (upd H' p o) := fun x u q => by
  rw [upd_ne (ne_of_none q h)]; exact a x u q
/-- t + u, tuples -/
def rCatW : R2 := fun x y H Q => ∃ a b xs ys, x = .ref a ∧ y = .ref b ∧ H a = some (.tup xs) ∧ H b = some (.tup ys) ∧ xs.length + ys.length ≤ 100000 ∧ ∀ H' p, Same H H' → H' p = some (.tup (xs ++ ys)) → Q (.ref p) H'
theorem op_catW : OpR X (binaryOp .Add) rCatW := opImp op_catA fun x y H Q ⟨a, b, xs, ys, e1, e2, h1, h2, hl, q⟩ => by
  refine ⟨a, b, xs, ys, e1, e2, SqT.of h1, SqT.of h2, leSz hl, fun e => ?_, fun _ e => ?_, fun _ _ p hp => ?_⟩
  · subst e
    exact q _ _ (Same.refl H) h2
  · subst e
    exact q _ _ (Same.refl H) (by rw [List.append_nil]; exact h1)
  · exact q _ _ (sNew (Same.refl H) hp) upd_same
/-- t[lo:hi], a tuple -/
def rSlW : V → Option Int → Option Int → Hp → VK → Prop := fun x lo hi H Q => ∃ a xs, x = .ref a ∧ H a = some (.tup xs) ∧ ∀ H' p, Same H H' → H' p = some (.tup (cutV xs lo hi)) → Q (.ref p) H'
theorem cutV_whole {xs : List V} {lo hi : Option Int} (h : HT.sIx xs.length 0 lo = 0 ∧ HT.sIx xs.length xs.length hi = xs.length) : cutV xs lo hi = xs := by
  unfold cutV
  rw [h.1, h.2]; simp
theorem sl_tupW : SlR X rSlW := slImp sl_tupA fun x lo hi H Q ⟨a, xs, e1, h1, q⟩ => by
  refine ⟨a, xs, e1, SqT.of h1, fun h => ?_, fun h p hp => ?_⟩
  · exact q _ _ (Same.refl H) (by rw [cutV_whole h]; exact h1)
  · exact q _ _ (sNew (Same.refl H) hp) upd_same
theorem cutV_init (ys : List V) (v : V) : cutV (ys ++ [v]) none (some (-1)) = ys := by
  have e : HT.sIx (ys ++ [v]).length (ys ++ [v]).length (some (-1)) = ys.length := by
    simp [HT.sIx]; omega
  unfold cutV
  rw [e]
  simp [HT.sIx]
theorem ix_tupK {K : PySem.W.Frag} (h : X.K = K) : IxR X (rIxT K) := by
  subst h
  exact ix_tup
theorem pg_tupK {K : PySem.W.Frag} {es : List Expr} {k : Nat} {t : TGs} {pos : Pos} (n : Nat) (hK : X.K = K) (hc : X.calm = true) (h : PGs X es t)
    (hn : (assignEach es X.env).length = n := by rfl) (hst : (assignEach es X.env).findIdx? (·.1) = none := by rfl) : PG X (.Tuple es k pos) (gTup K n t) := by
  subst hK
  exact pg_tup hc h hn hst
end
end Kr

set_option Elab.async false
set_option linter.all false
set_option maxRecDepth 100000
set_option maxHeartbeats 2000000
/-! ### methods that Python itself calls: str(o), len(o), x in o -/
namespace Kr
open PySem PySem.Spec PyProof.Rows L2
section
variable {X : Cx} {k j : Nat} {C : Addr} {m : Str} {sp : Sp}
theorem runSp {A : Around} {E' : Value → Shared → Prop} {pins : List (Addr × Obj)} {σ : L2.St} {H : Hp} {s : Shared} {Q : VK} {us : List Value} {vs : List V} {f : Addr} {fd : FuncData} {ps : List Str} (F : FnOk X.prog X.w X.K X.mg X.base (CX X.prog X.w) k f fd ps sp) (hr : Room k A) (he : Env0 X.prog X.w X.K X.mg X.base A X.stack s H) (hb : Binds X.K fd ps [])
    (I : Inv X pins σ H s) (r : Vals vs us) (h : sp vs H Q E0) : wpAny (model X.prog X.w) A (call (.ref f) us) (EP X pins σ Q) E' s := by
  have hl : (us ++ []).length = ps.length := by rw [List.append_nil, ← r.length]; exact F.len _ _ _ _ h
  refine wpAny_call (codeAny_mono (F.run A X.stack s H ⟨us, []⟩ (us ++ []) vs Q E0 hr he (hb s us I.kIn hl) (by rw [List.append_nil]; exact r) h) fun r s' hq => ?_)
  cases r with
  | error e => exact False.elim (passL (X := X.nox) pins σ H s e s' (I.wish _) hq)
  | ok fl =>
    cases fl with
    | ret u => exact I.after hq
    | next => exact False.elim hq
    | brk => exact False.elim hq
    | cont => exact False.elim hq
/-- str(o) by an own __str__ -/
def rStrO (C : Addr) (sp : Sp) : List V → Hp → VK → Prop := fun xs H Q => ∃ a dx fs, xs = [.ref a] ∧ H a = some (.ins C dx fs) ∧ sp [.ref a] H (fun v H' => ∃ x, v = .str x ∧ Q (.str x) H') E0
theorem call_strO (c : KMet X.prog X.w X.K X.mg X.base k C "__str__" sp) (hr : Room j X.A) (hk : k + 2 ≤ j) : CallR X (.type "str") (rStrO C sp) := by
  intro pins s σ H xs us Q I r h
  obtain ⟨a, dx, fs, rfl, ea, q⟩ := h
  obtain ⟨u, rfl, ru⟩ := vals1 r
  obtain rfl : u = Value.ref a := ru
  obtain ⟨f, fd, ps, hc, hm, F, b⟩ := c.ex
  obtain ⟨mA, O, _, _, _, _⟩ := ins_get I.hok ea
  obtain ⟨od, J, _⟩ := O.look
  have hr2 : Room k X.A.in1.in1 := (hr.mono hk).in1.in1
  refine PySem.W.kso_call (by have := hr2.un; omega) I.kIn J hm.at_ hm.fn ?_
  refine wpAny_mono (runSp F hr2 I.env0.in1.in1 b I (vs := [.ref a]) (.cons rfl .nil) q) (fun r s' hq => ?_) fun _ _ z => z
  obtain ⟨v, H', I', rv, x, rfl, q'⟩ := hq
  obtain ⟨t, rfl⟩ := rv
  exact ⟨.str x, H', I', ⟨t, rfl⟩, q'⟩
/-- len(o) by an own __len__ -/
def rLenO (C : Addr) (sp : Sp) : List V → Hp → VK → Prop := fun xs H Q => ∃ a dx fs, xs = [.ref a] ∧ H a = some (.ins C dx fs) ∧ sp [.ref a] H (fun v H' => ∃ n : Int, v = .int n ∧ 0 ≤ n ∧ n < 2 ^ 63 ∧ Q (.int n) H') E0
theorem call_lenO (c : KMet X.prog X.w X.K X.mg X.base k C "__len__" sp) (hr : Room j X.A) (hk : k + 1 ≤ j) : CallR X (.builtin "len") (rLenO C sp) := by
  intro pins s σ H xs us Q I r h
  obtain ⟨a, dx, fs, rfl, ea, q⟩ := h
  obtain ⟨u, rfl, ru⟩ := vals1 r
  obtain rfl : u = Value.ref a := ru
  obtain ⟨f, fd, ps, hc, hm, F, b⟩ := c.ex
  obtain ⟨mA, O, _, _, _, _⟩ := ins_get I.hok ea
  obtain ⟨od, J, _⟩ := O.look
  have hr2 : Room k X.A.in1 := (hr.mono hk).in1
  refine Calls.call_function_entry kind_len plain_len entry_len (args_len1 _) ?_
  unfold Builtin.«len»
  refine wpAny_bind (m := oneArg "len" _) (wpAny_pure ?_)
  refine wpAny_bind (m := callSpecial? (.ref a) (Str.ofString "__len__")) (PySem.W.special_fn I.kIn J hm.at_ (beq_iff_eq.mp hm.fn) (wpAny_mono (runSp F hr2 I.env0.in1 b I (vs := [.ref a]) (.cons rfl .nil) q) (fun r s' hq => ?_) fun _ _ y => y))
  obtain ⟨v, H', I', rv, n, rfl, h0, h1, q'⟩ := hq
  obtain ⟨t, rfl⟩ := rv
  refine wpAny_bind (wpAny_holding (wpAny_pure ?_))
  refine wpAny_bind (wpAny_letGo ?_)
  show wpAny _ _ (if n < 0 then _ else _) _ _ _
  rw [if_neg (by omega)]
  show wpAny _ _ (if n ≥ 2 ^ 63 then _ else _) _ _ _
  rw [if_neg (by omega)]
  exact wpAny_bind (wpAny_mkInt (wpAny_pure ⟨_, rfl, ⟨.int n, H', I'.tok _, ⟨_, rfl⟩, q'⟩⟩))
/-- repr(o) by an own __repr__ -/
theorem call_reprO (c : KMet X.prog X.w X.K X.mg X.base k C "__repr__" sp) (hr : Room j X.A) (hk : k + 1 ≤ j) : CallR X (.builtin "repr") (rStrO C sp) := by
  intro pins s σ H xs us Q I r h
  obtain ⟨a, dx, fs, rfl, ea, q⟩ := h
  obtain ⟨u, rfl, ru⟩ := vals1 r
  obtain rfl : u = Value.ref a := ru
  obtain ⟨f, fd, ps, hc, hm, F, b⟩ := c.ex
  obtain ⟨mA, O, _, _, _, _⟩ := ins_get I.hok ea
  obtain ⟨od, J, _⟩ := O.look
  have hr2 : Room k X.A.in1 := (hr.mono hk).in1
  refine Calls.call_function_entry PySem.F.kind_repr PySem.F.plain_repr PySem.F.entry_repr (PySem.F.args_repr1 _) ?_
  unfold Builtin.«repr»
  refine wpAny_bind (m := oneArg "repr" _) (wpAny_pure ?_)
  refine wpAny_bind (wpAny_cRoomFor (by have := hr2.un; omega) ?_)
  refine wpAny_bind (wpAny_bind (J.type.here ((PySem.W.looks_findIn I.kIn hm.at_).here ?_)))
  show wpAny _ _ (if (some (Value.ref f)).isNone = true then _ else _) _ _ _
  rw [if_neg (by simp)]
  refine wpAny_bind (m := callSpecialIfBound? (.ref a) (Str.ofString "__repr__") _) (PySem.W.ifBound_K I.kIn J hm.at_ hm.fn (wpAny_mono (runSp F hr2 I.env0.in1 b I (vs := [.ref a]) (.cons rfl .nil) q) (fun r s' hq => ?_) fun _ _ y => y))
  obtain ⟨v, H', I', rv, x, rfl, q'⟩ := hq
  obtain ⟨t, rfl⟩ := rv
  refine wpAny_bind (wpAny_isInstance (typeIs_str _ _ _) isSubtype_str_str ?_)
  first
    | exact wpAny_pure ⟨_, rfl, ⟨.str x, H', I', ⟨t, rfl⟩, q'⟩⟩
    | (rw [if_pos rfl]; exact wpAny_pure ⟨_, rfl, ⟨.str x, H', I', ⟨t, rfl⟩, q'⟩⟩)
    | (simp only [if_true]; exact wpAny_pure ⟨_, rfl, ⟨.str x, H', I', ⟨t, rfl⟩, q'⟩⟩)
/-- x in o by an own __contains__ -/
def rInO (C : Addr) (sp : Sp) : R2 := fun x y H Q => ∃ a dx fs, y = .ref a ∧ H a = some (.ins C dx fs) ∧ sp [.ref a, x] H (fun v H' => ∃ b : Bool, v = .bl b ∧ Q (.bl b) H') E0
theorem op_inO (c : KMet X.prog X.w X.K X.mg X.base k C "__contains__" sp) (hr : Room j X.A) (hk : k ≤ j) : OpR X (compareOp .In) (rInO C sp) := by
  intro pins s σ H x y v u Q I rx ry h
  obtain ⟨a, dx, fs, rfl, ea, q⟩ := h
  obtain rfl : u = Value.ref a := ry
  obtain ⟨f, fd, ps, hc, hm, F, b⟩ := c.ex
  obtain ⟨mA, O, _, _, _, _⟩ := ins_get I.hok ea
  obtain ⟨od, J, _⟩ := O.look
  show wpAny _ _ (contains (.ref a) v >>= fun b => pure (Value.bool b)) _ _ _
  refine wpAny_bind ?_
  unfold contains
  refine wpAny_holding (wpAny_bind (wpAny_bind (J.type.here ((PySem.W.looks_findIn I.kIn hm.at_).here ?_))))
  rw [if_neg (by simp)]
  refine wpAny_bind (PySem.W.unlessNone_K I.kIn J hm.at_ hm.fn ?_)
  refine wpAny_mono (runSp F (hr.mono hk) I.env0 b I (vs := [.ref a, x]) (.cons rfl (.cons rx .nil)) q) (fun r s' hq => ?_) fun _ _ z => z
  obtain ⟨v2, H', I', rv, bb, rfl, q'⟩ := hq
  cases (show r = Value.bool bb from rv)
  refine wpAny_mono (wpAny_truthy_bool ?_) (fun r s' z => wpAny_pure z) fun _ _ z => z
  exact ⟨.bl bb, H', I', rfl, q'⟩
/-- str(x), x a text or an object of the class C -/
@[irreducible] def rStrR (C : Addr) (sp : Sp) : List V → Hp → VK → Prop := fun xs H Q => (∃ a : List Nat, xs = [.str (SX.S a)] ∧ Q (.str (SX.S a)) H) ∨ rStrO C sp xs H Q
theorem call_strR (c : KMet X.prog X.w X.K X.mg X.base k C "__str__" sp) (hr : Room j X.A) (hk : k + 2 ≤ j) : CallR X (.type "str") (rStrR C sp) := by
  intro pins s σ H xs us Q I r h
  unfold rStrR at h
  rcases h with ⟨a, e, q⟩ | h
  · exact SkE.call_str_str pins s σ H xs us Q I r ⟨_, e, q⟩
  · exact call_strO c hr hk pins s σ H xs us Q I r h
theorem walk_S {a : List Nat} : Walk (Its (SX.S a)) a.length (fun _ => True) (fun i H x H' => H' = H ∧ ∃ c, a[i]? = some c ∧ x = .str (SX.S [c])) :=
  ⟨fun i _ hi _ => by show i < _; simpa [SX.S] using hi, fun _ _ => by show _ ≤ a.length; simp [SX.S], fun i H x H' hi _ y => by
    obtain ⟨e, c, h1, h2⟩ := y
    refine ⟨e, c, ?_, h2⟩
    simpa [SX.S] using h1⟩
end
end Kr

set_option Elab.async false
set_option linter.all false
set_option maxRecDepth 100000
set_option maxHeartbeats 2000000
namespace Kr
open PySem PySem.Spec PyProof.Rows L2
open SX (S)
/-! ### what a text leads the reader to -/
/-- after n the reader stands at (gs, its) -/
def Lead (n : List Nat) (gs : List Grp) (its : List It) : Prop := ∀ t, rd false (n ++ t).length 0 (n ++ t) [] [] = rd false t.length n.length t gs its
theorem lead0 : Lead [] [] [] := fun t => by simp
theorem lead_read {n : List Nat} {its : List It} (h : Lead n [] its) : read false n = .inr its := by
  have := h []
  rw [List.append_nil] at this
  unfold read
  rw [this]
  simp [rd]
theorem Lead.step {n k : List Nat} {gs g2 : List Grp} {its i2 : List It} (h : Lead n gs its) (e : ∀ t, rd false (k ++ t).length n.length (k ++ t) gs its = rd false t.length (n.length + k.length) t g2 i2) : Lead (n ++ k) g2 i2 := fun t => by
  rw [List.append_assoc, h (k ++ t), e t, List.length_append]
theorem kl_brs0 {c : Nat} (t : List Nat) (h : c ∈ brs) : kl false (c :: t) = .inr 0 := by
  have all : ∀ c ∈ brs, c ∉ plk ∧ c ∉ sgk := by decide
  obtain ⟨h1, h2⟩ := all c h
  simp only [kl, if_neg h1]
  rw [if_neg (by simp; simpa using h2), if_pos h]
theorem Lead.bracket {n : List Nat} {c : Nat} {gs g2 : List Grp} {its i2 : List It} (h : Lead n gs its) (hc : c ∈ brs) (hb : brk c gs its = some (g2, i2)) : Lead (n ++ [c]) g2 i2 := h.step fun t => by
  show rd false (t.length + 1) n.length (c :: t) gs its = _
  simp only [rd, kl_brs0 t hc, hb]
  rfl
/-- a key as it is written -/
def wKey (k : List Nat) : Prop := (∃ c, c ∈ plk ∧ k = [c]) ∨ ∃ c d, c ∈ sgk ∧ d ∈ sgn ∧ k = [c, d]
theorem wKey.ok {k : List Nat} (h : wKey k) : kOk k := by
  have p1 : ∀ x ∈ plk, x ∈ sgn := by decide
  have p2 : ∀ x ∈ sgk, x ∈ sgn := by decide
  rcases h with ⟨c, hc, rfl⟩ | ⟨c, d, hc, hd, rfl⟩
  · exact ⟨by simp, by simp, by simp; exact p1 c hc⟩
  · exact ⟨by simp, by simp, by simp; exact ⟨p2 c hc, hd⟩⟩
theorem Lead.key {n k : List Nat} {gs : List Grp} {its : List It} (h : Lead n gs its) (hk : wKey k) : Lead (n ++ k) gs (its ++ [.key k]) := h.step fun t => by
  rcases hk with ⟨c, hc, rfl⟩ | ⟨c, d, hc, hd, rfl⟩
  · show rd false (t.length + 1) n.length (c :: t) gs its = _
    have e : kl false (c :: t) = .inr (0 + 1) := by simp only [kl, if_pos hc]
    simp only [rd, e]
    simp
  · show rd false (t.length + 1 + 1) n.length (c :: d :: t) gs its = _
    have a1 : ∀ c ∈ sgk, c ∉ plk ∧ c ≠ 64 := by decide
    obtain ⟨h1, h2⟩ := a1 c hc
    have e : kl false (c :: d :: t) = .inr (1 + 1) := by
      simp only [kl, if_neg h1]
      rw [if_pos (.inl hc), if_neg h2, if_pos hd]
    simp only [rd, e]
    simp
    exact rd_more false _ _ _ _ _ _ (by omega) (by omega)
/-! ### the marks of open brackets -/
def Grp.mk' (g : Grp) : Nat := if g.c = 40 then 40 else if g.f.isNone then 91 else 124
/-- the open brackets are well formed -/
def Gw : List Grp → Prop
  | [] => True
  | g :: r => ((g.c = 40 ∧ g.f = none) ∨ g.c = 91) ∧ Gw r
/-- how many keys stand in them -/
def Gk : List Grp → Nat
  | [] => 0
  | g :: r => (keysL g.o).length + (match g.f with | some f => (keysL f).length | none => 0) + Gk r
/-- what the law's text maker keeps: n so far, its open brackets gs, k keys -/
structure Mk (n : List Nat) (gs : List Grp) (its : List It) (k : Nat) : Prop where
  ld : Lead n gs its
  w : Gw gs
  k : Gk gs + (keysL its).length = k
  s : ∀ c ∈ n, c ∈ sgn
theorem mk0 : Mk [] [] [] 0 := ⟨lead0, trivial, by simp [Gk, keysL], by simp⟩
theorem Mk.key {n kk : List Nat} {gs : List Grp} {its : List It} {k : Nat} (h : Mk n gs its k) (hk : wKey kk) : Mk (n ++ kk) gs (its ++ [.key kk]) (k + 1) := by
  refine ⟨h.ld.key hk, h.w, ?_, fun c hc => ?_⟩
  · rw [keysL_app, keysL_one']
    have := h.k
    simp [It.keys]; omega
  · rcases List.mem_append.mp hc with hc | hc
    · exact h.s c hc
    · exact hk.ok.2.2 c hc
where
  keysL_one' {i : It} : keysL [i] = i.keys := by simp [keysL]
theorem Mk.opn {n : List Nat} {gs : List Grp} {its : List It} {k c : Nat} (h : Mk n gs its k) (hc : c = 40 ∨ c = 91) (h8 : gs.length < 8) : Mk (n ++ [c]) (⟨c, its, none⟩ :: gs) [] k := by
  refine ⟨h.ld.bracket (by rcases hc with rfl | rfl <;> decide) (by unfold brk; rw [if_pos hc, if_neg (by omega)]), ⟨?_, h.w⟩, ?_, fun x hx => ?_⟩
  · rcases hc with rfl | rfl
    · exact .inl ⟨rfl, rfl⟩
    · exact .inr rfl
  · have := h.k
    simp [Gk, keysL]; omega
  · rcases List.mem_append.mp hx with hx | hx
    · exact h.s x hx
    · simp at hx; subst hx
      rcases hc with rfl | rfl <;> decide
theorem keysOne (i : It) : keysL [i] = i.keys := by simp [keysL]
theorem sgn_app {n : List Nat} {c : Nat} (h : ∀ x ∈ n, x ∈ sgn) (hc : c ∈ sgn) : ∀ x ∈ n ++ [c], x ∈ sgn := fun x hx => by
  rcases List.mem_append.mp hx with hx | hx
  · exact h x hx
  · simp at hx; subst hx; exact hc
/-- closing the innermost: ( -/
theorem Mk.rep {n : List Nat} {g : Grp} {r : List Grp} {its : List It} {k : Nat} (h : Mk n (g :: r) its k) (hm : g.mk' = 40) (hi : its ≠ []) : Mk (n ++ [41]) r (g.o ++ [.rep its]) k := by
  have hg : g.c = 40 := by
    unfold Grp.mk' at hm
    split at hm
    · assumption
    · split at hm <;> cases hm
  have hf : g.f = none := by
    rcases h.w.1 with h1 | h1
    · exact h1.2
    · rw [hg] at h1; cases h1
  have hie : its.isEmpty = false := by cases its with | nil => exact absurd rfl hi | cons => rfl
  refine ⟨h.ld.bracket (by decide) (by unfold brk; rw [if_neg (by decide)]; simp only; rw [if_pos ⟨trivial, hg, hie⟩]), h.w.2, ?_, sgn_app h.s (by decide)⟩
  have := h.k
  simp only [Gk, hf] at this
  rw [keysL_app, keysOne]
  simp [It.keys]; omega
/-- .. [ by | -/
theorem Mk.bar {n : List Nat} {g : Grp} {r : List Grp} {its : List It} {k : Nat} (h : Mk n (g :: r) its k) (hm : g.mk' = 91) (hi : its ≠ []) : Mk (n ++ [124]) (⟨g.c, g.o, some its⟩ :: r) [] k ∧ (⟨g.c, g.o, some its⟩ : Grp).mk' = 124 := by
  have hg : g.c = 91 := by
    rcases h.w.1 with h1 | h1
    · unfold Grp.mk' at hm; rw [if_pos h1.1] at hm; cases hm
    · exact h1
  have hf : g.f.isNone = true := by
    unfold Grp.mk' at hm
    rw [if_neg (by rw [hg]; decide)] at hm
    split at hm
    · assumption
    · cases hm
  have hie : its.isEmpty = false := by cases its with | nil => exact absurd rfl hi | cons => rfl
  have hf' : g.f = none := by simpa using hf
  refine ⟨⟨h.ld.bracket (by decide) (by unfold brk; rw [if_neg (by decide)]; simp only; rw [if_neg (by intro z; cases z.1), if_pos ⟨trivial, hg, hf, hie⟩]), ⟨.inr hg, h.w.2⟩, ?_, sgn_app h.s (by decide)⟩, ?_⟩
  · have := h.k
    simp only [Gk, hf'] at this
    simp [Gk, keysL]; omega
  · unfold Grp.mk'
    simp [hg]
/-- .. | by ] -/
theorem Mk.cho {n : List Nat} {g : Grp} {r : List Grp} {its : List It} {k : Nat} (h : Mk n (g :: r) its k) (hm : g.mk' = 124) : ∃ f, g.f = some f ∧ Mk (n ++ [93]) r (g.o ++ [.cho f its]) k := by
  have hg : g.c = 91 := by
    rcases h.w.1 with h1 | h1
    · unfold Grp.mk' at hm; rw [if_pos h1.1] at hm; cases hm
    · exact h1
  cases hf : g.f with
  | none =>
    unfold Grp.mk' at hm
    rw [if_neg (by rw [hg]; decide), hf] at hm
    cases hm
  | some f =>
    refine ⟨f, rfl, h.ld.bracket (by decide) ?_, h.w.2, ?_, sgn_app h.s (by decide)⟩
    · unfold brk
      rw [if_neg (by decide)]
      simp only
      rw [if_neg (by intro z; cases z.1), if_neg (by intro z; cases z.1), if_pos ⟨trivial, hg⟩, hf]
    · have := h.k
      simp only [Gk, hf] at this
      rw [keysL_app, keysOne]
      simp [It.keys]; omega
theorem mk_cases (g : Grp) : g.mk' = 40 ∨ g.mk' = 91 ∨ g.mk' = 124 := by
  unfold Grp.mk'
  split
  · exact .inl rfl
  · split
    · exact .inr (.inl rfl)
    · exact .inr (.inr rfl)
/-! ### lists of texts as data -/
abbrev tV (k : List Nat) : V := .str (S k)
abbrev tD (k : List Nat) : PyData := .str (S k)
theorem dpTx {K : PySem.W.Frag} {H : Hp} : ∀ ks : List (List Nat), DpAll K H (ks.map tV) (ks.map tD)
  | [] => .nil
  | k :: ks => .cons (.str _) (dpTx ks)
theorem layTx : ∀ ks : List (List Nat), (∀ k ∈ ks, ∀ c ∈ k, c ∈ sgn) → PyData.canLayAll0 (ks.map tD) = true
  | [], _ => rfl
  | k :: ks, h => by
    show (PyData.canLay0 (tD k) && PyData.canLayAll0 (ks.map tD)) = true
    rw [layTx ks fun k hk => h k (by simp [hk])]
    have : PyData.canLay0 (tD k) = true := strOk_sgn (h k (by simp))
    rw [this]; rfl
theorem depTx : ∀ ks : List (List Nat), PyData.depthAll (ks.map tD) = 0
  | [] => rfl
  | k :: ks => by
    show max (PyData.depth (tD k)) (PyData.depthAll (ks.map tD)) = 0
    rw [depTx ks]; rfl
theorem shTx {ks : List (List Nat)} (h : ∀ k ∈ ks, ∀ c ∈ k, c ∈ sgn) : SeqAt.shaped (.list (ks.map tD)) = true := by
  unfold SeqAt.shaped
  rw [Bool.and_eq_true]
  refine ⟨layTx ks h, decide_eq_true ?_⟩
  show PyData.depthAll (ks.map tD) + 1 ≤ 64
  rw [depTx]; decide
theorem eqvL_nil (ds : List PyData) : PyData.eqv (.list ds) (.list []) = ds.isEmpty := by
  cases ds <;> rfl
theorem mk_sgn (g : Grp) : g.mk' ∈ sgn := by
  rcases mk_cases g with h | h | h <;> rw [h] <;> decide
end Kr

set_option Elab.async false
set_option linter.all false
set_option maxRecDepth 100000
set_option maxHeartbeats 2000000
namespace Kr
open PySem PySem.Spec PyProof.Rows L2
open SX (S)
/-! ### the law's trees: lists in the heap. F: the lists that stand still -/
mutual
def LTr (F : List Addr) (H : Hp) : V → It → Prop
  | v, .key s => v = tV s
  | v, .rep a => ∃ p e q xs, v = .ref p ∧ H p = some (.tup [tV [41], .ref e, .ref q]) ∧ e ∈ F ∧ H e = some (.lst []) ∧ q ∈ F ∧ H q = some (.lst xs) ∧ LTrs F H xs a
  | v, .cho a b => ∃ p q r xs ys, v = .ref p ∧ H p = some (.tup [tV [93], .ref q, .ref r]) ∧ q ∈ F ∧ H q = some (.lst xs) ∧ r ∈ F ∧ H r = some (.lst ys) ∧ LTrs F H xs a ∧ LTrs F H ys b
def LTrs (F : List Addr) (H : Hp) : List V → List It → Prop
  | xs, [] => xs = []
  | xs, i :: r => ∃ v ys, xs = v :: ys ∧ LTr F H v i ∧ LTrs F H ys r
end
/-- what stands at the addresses of L stays, and the tuples -/
structure Kl (L : List Addr) (H H' : Hp) : Prop where
  l : ∀ a ∈ L, ∀ o, H a = some o → H' a = some o
  t : Tk H H'
theorem Kl.refl {L : List Addr} {H : Hp} : Kl L H H := ⟨fun _ _ _ h => h, Tk.refl⟩
theorem Kl.trans {L : List Addr} {H H1 H2 : Hp} (a : Kl L H H1) (b : Kl L H1 H2) : Kl L H H2 := ⟨fun x hx o h => b.l x hx o (a.l x hx o h), a.t.trans b.t⟩
theorem Kl.same {L : List Addr} {H H' : Hp} (s : Same H H') : Kl L H H' := ⟨fun a _ o h => s a o h, Tk.same s⟩
theorem Kl.sub {L L' : List Addr} {H H' : Hp} (k : Kl L H H') (h : ∀ a ∈ L', a ∈ L) : Kl L' H H' := ⟨fun a ha o e => k.l a (h a ha) o e, k.t⟩
theorem Kl.new {L : List Addr} {H H' : Hp} {p : Addr} {o : HO} (k : Kl L H H') (h : H' p = none) : Kl L H (upd H' p o) := k.trans (Kl.same (sNew (Same.refl _) h))
theorem Kl.mut {L : List Addr} {H H' : Hp} {p : Addr} {o : HO} {ys : List V} (k : Kl L H H') (h : H' p = some (.lst ys)) (hp : p ∉ L) : Kl L H (upd H' p o) :=
  k.trans ⟨fun a ha o e => by
    have n : a ≠ p := fun z => hp (z ▸ ha)
    rw [upd_ne n]; exact e, Tk.refl.lst h⟩
mutual
theorem LTr.keep {F F' : List Addr} {H H' : Hp} (k : Kl F H H') (hF : ∀ a ∈ F, a ∈ F') : ∀ {v : V} (i : It), LTr F H v i → LTr F' H' v i
  | v, .key s, h => h
  | v, .rep a, h => by
    obtain ⟨p, e, q, xs, ev, h1, f1, h2, f2, h3, t⟩ := h
    exact ⟨p, e, q, xs, ev, k.t _ _ h1, hF _ f1, k.l _ f1 _ h2, hF _ f2, k.l _ f2 _ h3, LTrs.keep k hF a t⟩
  | v, .cho a b, h => by
    obtain ⟨p, q, r, xs, ys, ev, h1, f1, h2, f2, h3, t, u⟩ := h
    exact ⟨p, q, r, xs, ys, ev, k.t _ _ h1, hF _ f1, k.l _ f1 _ h2, hF _ f2, k.l _ f2 _ h3, LTrs.keep k hF a t, LTrs.keep k hF b u⟩
theorem LTrs.keep {F F' : List Addr} {H H' : Hp} (k : Kl F H H') (hF : ∀ a ∈ F, a ∈ F') : ∀ {xs : List V} (a : List It), LTrs F H xs a → LTrs F' H' xs a
  | xs, [], h => h
  | xs, i :: r, h => by
    obtain ⟨v, ys, e, h1, h2⟩ := h
    exact ⟨v, ys, e, LTr.keep k hF i h1, LTrs.keep k hF r h2⟩
end
theorem LTrs.len {F : List Addr} {H : Hp} : ∀ {xs : List V} {a : List It}, LTrs F H xs a → xs.length = a.length
  | xs, [], h => by have e : xs = [] := h; simp [e]
  | xs, i :: r, h => by
    obtain ⟨v, ys, rfl, _, h2⟩ := h
    simp [LTrs.len h2]
theorem LTrs.app {F : List Addr} {H : Hp} : ∀ {xs ys : List V} {a b : List It}, LTrs F H xs a → LTrs F H ys b → LTrs F H (xs ++ ys) (a ++ b)
  | xs, ys, [], b, h, h' => by have e : xs = [] := h; subst e; exact h'
  | xs, ys, i :: r, b, h, h' => by
    obtain ⟨v, zs, rfl, h1, h2⟩ := h
    exact ⟨v, zs ++ ys, rfl, h1, LTrs.app h2 h'⟩
theorem LTrs.one {F : List Addr} {H : Hp} {v : V} {i : It} (h : LTr F H v i) : LTrs F H [v] [i] := ⟨v, [], rfl, h, rfl⟩
theorem LTrs.at {F : List Addr} {H : Hp} : ∀ {xs : List V} {a : List It} {j : Nat} {v : V}, LTrs F H xs a → xs[j]? = some v → ∃ i, a[j]? = some i ∧ LTr F H v i
  | xs, [], j, v, h, e => by have e' : xs = [] := h; subst e'; simp at e
  | xs, i :: r, 0, v, h, e => by
    obtain ⟨v', ys, rfl, h1, h2⟩ := h
    simp at e
    subst e
    exact ⟨i, rfl, h1⟩
  | xs, i :: r, j + 1, v, h, e => by
    obtain ⟨v', ys, rfl, h1, h2⟩ := h
    simp at e
    obtain ⟨i', e1, t⟩ := LTrs.at h2 e
    exact ⟨i', by simpa using e1, t⟩
/-- the tree a of the law at the address p -/
def LtAt (H : Hp) (p : Addr) (a : List It) : Prop := ∃ F xs, H p = some (.lst xs) ∧ LTrs F H xs a
theorem LtAt.same {H H' : Hp} {p : Addr} {a : List It} (s : Same H H') (h : LtAt H p a) : LtAt H' p a := by
  obtain ⟨F, xs, e, t⟩ := h
  exact ⟨F, xs, s _ _ e, t.keep (Kl.same s) (fun _ h => h)⟩
/-- the law's stack: values, groups, its own lists -/
def LG (F : List Addr) (H : Hp) : List V → List Grp → List Addr → Prop
  | xs, [], M => xs = [] ∧ M = []
  | xs, g :: r, M => ∃ ys sp out fst zs M', xs = ys ++ [.ref sp] ∧ M = sp :: out :: M' ∧ H sp = some (.lst [tV [g.c], .ref out, .ref fst]) ∧ H out = some (.lst zs) ∧ LTrs F H zs g.o ∧ fst ∈ F ∧
      (match g.f with | none => H fst = some (.lst []) | some f => ∃ ws, H fst = some (.lst ws) ∧ LTrs F H ws f) ∧ LG F H ys r M'
theorem LG.keep {F F' : List Addr} {H H' : Hp} (hF : ∀ a ∈ F, a ∈ F') : ∀ {xs : List V} {M : List Addr} (gs : List Grp), Kl (M ++ F) H H' → LG F H xs gs M → LG F' H' xs gs M
  | xs, M, [], k, h => h
  | xs, M, g :: r, k, h => by
    obtain ⟨ys, sp, out, fst, zs, M', e1, rfl, h1, h2, t, f1, h3, hr⟩ := h
    have kF : Kl F H H' := k.sub (by intro a ha; simp [ha])
    refine ⟨ys, sp, out, fst, zs, M', e1, rfl, k.l _ (by simp) _ h1, k.l _ (by simp) _ h2, t.keep kF hF, hF _ f1, ?_, LG.keep hF r (k.sub (by intro a ha; simp at ha ⊢; rcases ha with h | h <;> simp [h])) hr⟩
    split at h3
    · exact kF.l _ f1 _ h3
    · obtain ⟨ws, e, u⟩ := h3
      exact ⟨ws, kF.l _ f1 _ e, u.keep kF hF⟩
theorem LG.len {F : List Addr} {H : Hp} : ∀ {xs : List V} {gs : List Grp} {M : List Addr}, LG F H xs gs M → xs.length = gs.length
  | xs, [], M, h => by simp [h.1]
  | xs, g :: r, M, h => by
    obtain ⟨ys, sp, out, fst, zs, M', rfl, _, _, _, _, _, _, hr⟩ := h
    simp [LG.len hr]
/-- the brackets stay well formed -/
theorem brk_w {c : Nat} {gs g2 : List Grp} {its i2 : List It} (h : brk c gs its = some (g2, i2)) (w : Gw gs) : Gw g2 := by
  unfold brk at h
  split at h
  · rename_i hc
    split at h
    · cases h
    · cases h
      rcases hc with rfl | rfl
      · exact ⟨.inl ⟨rfl, rfl⟩, w⟩
      · exact ⟨.inr rfl, w⟩
  · split at h
    · cases h
    · split at h
      · cases h; exact w.2
      · split at h
        · rename_i hc
          cases h
          exact ⟨.inr hc.2.1, w.2⟩
        · split at h
          · split at h
            · cases h; exact w.2
            · cases h
          · cases h
/-- the law's state while it reads -/
structure LS (H0 H : Hp) (F M : List Addr) (st cu : Addr) (gs : List Grp) (cur : List It) : Prop where
  nd : (st :: cu :: M).Nodup
  dj : ∀ a ∈ st :: cu :: M, a ∉ F
  nw : ∀ a, a ∈ st :: cu :: M ∨ a ∈ F → H0 a = none
  ex : ∀ a, a ∈ st :: cu :: M ∨ a ∈ F → ∃ o, H a = some o
  s : Same H0 H
  hs : ∃ xs, H st = some (.lst xs) ∧ LG F H xs gs M
  hc : ∃ xs, H cu = some (.lst xs) ∧ LTrs F H xs cur
theorem upd_ex {H : Hp} {p : Addr} {o : HO} {a : Addr} (h : ∃ u, H a = some u) : ∃ u, upd H p o a = some u := by
  by_cases e : a = p
  · exact ⟨o, by rw [e, upd_same]⟩
  · obtain ⟨u, h⟩ := h
    exact ⟨u, by rw [upd_ne e]; exact h⟩
section
variable {H0 H : Hp} {F M : List Addr} {st cu : Addr} {gs : List Grp} {cur : List It}
theorem LS.app {xs : List V} {v : V} {it : It} (L : LS H0 H F M st cu gs cur) (hx : H cu = some (.lst xs)) (hv : LTr F H v it) : LS H0 (upd H cu (.lst (xs ++ [v]))) F M st cu gs (cur ++ [it]) := by
  obtain ⟨nd, dj, nw, ex, s, ⟨ys, hs, lg⟩, ⟨zs, hc, lt⟩⟩ := L
  rw [hx] at hc
  cases hc
  have n1 : st ≠ cu := by simp at nd; exact fun z => nd.1.1 z
  have n2 : cu ∉ M := by simp at nd; exact nd.2.1
  have n3 : cu ∉ F := dj cu (by simp)
  have kF : Kl F H (upd H cu (.lst (xs ++ [v]))) := Kl.refl.mut hx n3
  refine ⟨nd, dj, nw, fun a ha => upd_ex (ex a ha), sMut s (nw cu (by simp)), ⟨ys, by rw [upd_ne n1]; exact hs, lg.keep (fun _ h => h) gs (Kl.refl.mut hx (by simp [n2, n3]))⟩, ⟨_, upd_same, LTrs.app (lt.keep kF fun _ h => h) (LTrs.one (hv.keep kF (fun _ h => h) it))⟩⟩
theorem LS.opn {xs : List V} {c : Nat} {fe sp cu2 : Addr} (L : LS H0 H F M st cu gs cur) (hx : H st = some (.lst xs)) (h1 : H fe = none) (h2 : upd H fe (.lst []) sp = none) (h3 : upd (upd (upd H fe (.lst [])) sp (.lst [tV [c], .ref cu, .ref fe])) st (.lst (xs ++ [.ref sp])) cu2 = none) :
    LS H0 (upd (upd (upd (upd H fe (.lst [])) sp (.lst [tV [c], .ref cu, .ref fe])) st (.lst (xs ++ [.ref sp]))) cu2 (.lst [])) (fe :: F) (sp :: cu :: M) st cu2 (⟨c, cur, none⟩ :: gs) [] := by
  obtain ⟨nd, dj, nw, ex, s, ⟨ys, hs, lg⟩, ⟨zs, hc, lt⟩⟩ := L
  rw [hx] at hs
  cases hs
  have e_sf : sp ≠ fe := fun z => by rw [z, upd_same] at h2; cases h2
  have h2' : H sp = none := by rw [upd_ne e_sf] at h2; exact h2
  have n_st_fe : st ≠ fe := ne_of_none hx h1
  have n_st_sp : st ≠ sp := ne_of_none hx h2'
  have n_c_st : cu2 ≠ st := fun z => by rw [z, upd_same] at h3; cases h3
  have h3a := h3
  rw [upd_ne n_c_st] at h3
  have n_c_sp : cu2 ≠ sp := fun z => by rw [z, upd_same] at h3; cases h3
  rw [upd_ne n_c_sp] at h3
  have n_c_fe : cu2 ≠ fe := fun z => by rw [z, upd_same] at h3; cases h3
  rw [upd_ne n_c_fe] at h3
  have st_s : Same H (upd (upd H fe (.lst [])) sp (.lst [tV [c], .ref cu, .ref fe])) := sNew (sNew (Same.refl _) h1) h2
  have hst2 := st_s _ _ hx
  have dst : st ∉ (cu :: M) ++ F := by
    intro m
    rcases List.mem_append.mp m with m | m
    · exact (List.nodup_cons.mp nd).1 m
    · exact dj st (by simp) m
  have k4 : Kl ((cu :: M) ++ F) H (upd (upd (upd (upd H fe (.lst [])) sp (.lst [tV [c], .ref cu, .ref fe])) st (.lst (xs ++ [.ref sp]))) cu2 (.lst [])) := ((Kl.same st_s).mut hst2 dst).new h3a
  have kF := k4.sub (L' := F) (by intro a ha; simp [ha])
  have nA : ∀ a, a ∈ st :: cu :: M ∨ a ∈ F → a ≠ fe ∧ a ≠ sp ∧ a ≠ cu2 := fun a ha => by
    obtain ⟨o, e⟩ := ex a ha
    exact ⟨ne_of_none e h1, ne_of_none e h2', ne_of_none e h3⟩
  have z1 : H0 fe = none := s.free h1
  have z2 : H0 sp = none := s.free h2'
  have z3 : H0 cu2 = none := s.free h3
  have ndm := (List.nodup_cons.mp nd)
  refine ⟨?_, ?_, ?_, ?_, ?_, ⟨_, by rw [upd_ne n_c_st.symm, upd_same], xs, sp, cu, fe, zs, M, rfl, rfl, ?_, k4.l cu (by simp) _ hc, lt.keep kF (by intro a ha; simp [ha]), by simp, ?_, lg.keep (by intro a ha; simp [ha]) gs (k4.sub (by intro a ha; simp at ha ⊢; rcases ha with h | h <;> simp [h]))⟩, ⟨[], upd_same, rfl⟩⟩
  · refine List.nodup_cons.mpr ⟨?_, List.nodup_cons.mpr ⟨?_, List.nodup_cons.mpr ⟨?_, ndm.2⟩⟩⟩
    · intro m
      rcases List.mem_cons.mp m with m | m
      · exact n_c_st m.symm
      · rcases List.mem_cons.mp m with m | m
        · exact n_st_sp m
        · exact ndm.1 m
    · intro m
      rcases List.mem_cons.mp m with m | m
      · exact n_c_sp m
      · exact (nA cu2 (.inl (List.mem_cons_of_mem _ m))).2.2 rfl
    · intro m
      exact (nA sp (.inl (List.mem_cons_of_mem _ m))).2.1 rfl
  · intro a ha m
    rcases List.mem_cons.mp m with rfl | m
    · rcases List.mem_cons.mp ha with e | ha
      · exact n_st_fe e.symm
      · rcases List.mem_cons.mp ha with e | ha
        · exact n_c_fe e.symm
        · rcases List.mem_cons.mp ha with e | ha
          · exact e_sf e.symm
          · exact (nA _ (.inl (List.mem_cons_of_mem _ ha))).1 rfl
    · have nn := nA a (.inr m)
      rcases List.mem_cons.mp ha with e | ha
      · exact dj st (by simp) (e ▸ m)
      · rcases List.mem_cons.mp ha with e | ha
        · exact nn.2.2 e
        · rcases List.mem_cons.mp ha with e | ha
          · exact nn.2.1 e
          · exact dj a (List.mem_cons_of_mem _ ha) m
  · intro a ha
    simp only [List.mem_cons] at ha
    rcases ha with (rfl | rfl | rfl | h) | rfl | h
    · exact nw _ (by simp)
    · exact z3
    · exact z2
    · exact nw a (.inl (by simp only [List.mem_cons]; exact .inr h))
    · exact z1
    · exact nw a (.inr h)
  · intro a ha
    simp only [List.mem_cons] at ha
    rcases ha with (rfl | rfl | rfl | h) | rfl | h
    · exact ⟨_, by rw [upd_ne n_c_st.symm, upd_same]⟩
    · exact ⟨_, upd_same⟩
    · exact ⟨_, by rw [upd_ne n_c_sp.symm, upd_ne n_st_sp.symm, upd_same]⟩
    · exact upd_ex (upd_ex (upd_ex (upd_ex (ex a (.inl (by simp only [List.mem_cons]; exact .inr h))))))
    · exact ⟨_, by rw [upd_ne n_c_fe.symm, upd_ne n_st_fe.symm, upd_ne e_sf.symm, upd_same]⟩
    · exact upd_ex (upd_ex (upd_ex (upd_ex (ex a (.inr h)))))
  · exact sNew (sMut (s.trans st_s) (nw st (by simp))) h3a
  · rw [upd_ne n_c_sp.symm, upd_ne n_st_sp.symm, upd_same]
  · show upd _ _ _ fe = _
    rw [upd_ne n_c_fe.symm, upd_ne n_st_fe.symm, upd_ne e_sf.symm, upd_same]
/-- the innermost group in the heap -/
theorem LS.top {g : Grp} {r : List Grp} (L : LS H0 H F M st cu (g :: r) cur) : ∃ ys sp out fst zs, H st = some (.lst (ys ++ [.ref sp])) ∧ H sp = some (.lst [tV [g.c], .ref out, .ref fst]) ∧ H out = some (.lst zs) ∧ zs.length = g.o.length ∧ ys.length = r.length := by
  obtain ⟨xs, hs, ys, sp, out, fst, zs, M', rfl, rfl, h1, h2, t, f1, h3, hr⟩ := L.hs
  exact ⟨ys, sp, out, fst, zs, hs, h1, h2, t.len, hr.len⟩
theorem app1_inj {α : Type} {a b : List α} {x y : α} (h : a ++ [x] = b ++ [y]) : a = b ∧ x = y := by
  have := List.append_inj' h rfl
  simpa using this
theorem LS.bar {g : Grp} {r : List Grp} {ys : List V} {sp out fst cu2 : Addr} (L : LS H0 H F M st cu (g :: r) cur) (hst : H st = some (.lst (ys ++ [.ref sp]))) (hsp : H sp = some (.lst [tV [g.c], .ref out, .ref fst])) (h2 : upd H sp (.lst [tV [g.c], .ref out, .ref cu]) cu2 = none) :
    LS H0 (upd (upd H sp (.lst [tV [g.c], .ref out, .ref cu])) cu2 (.lst [])) (cu :: F) M st cu2 (⟨g.c, g.o, some cur⟩ :: r) [] := by
  obtain ⟨nd, dj, nw, ex, s, ⟨xs, hs, lg⟩, ⟨ws, hc, lt⟩⟩ := L
  obtain ⟨ys', sp', out', fst', zs, M', e1, rfl, g1, g2, t, f1, g3, hr⟩ := lg
  rw [e1, hst] at hs
  have hs' : ys ++ [V.ref sp] = ys' ++ [.ref sp'] := by injection hs with hs; injection hs
  obtain ⟨rfl, e2⟩ := app1_inj hs'
  cases e2
  rw [hsp] at g1
  cases g1
  subst e1
  have n_c_sp : cu2 ≠ sp := fun z => by rw [z, upd_same] at h2; cases h2
  have h2' : H cu2 = none := by rw [upd_ne n_c_sp] at h2; exact h2
  have nA : ∀ a, a ∈ st :: cu :: sp :: out :: M' ∨ a ∈ F → a ≠ cu2 := fun a ha => by
    obtain ⟨o, e⟩ := ex a ha
    exact ne_of_none e h2'
  obtain ⟨d1, d2⟩ := List.nodup_cons.mp nd
  obtain ⟨d3, d4⟩ := List.nodup_cons.mp d2
  obtain ⟨d5, d6⟩ := List.nodup_cons.mp d4
  have n_st_sp : st ≠ sp := fun z => d1 (by simp [z])
  have n_cu_sp : cu ≠ sp := fun z => d3 (by simp [z])
  have n_out_sp : out ≠ sp := fun z => d5 (by simp [z])
  have spF : sp ∉ F := dj sp (by simp)
  have kk : Kl (st :: cu :: out :: M' ++ F) H (upd (upd H sp (.lst [tV [g.c], .ref out, .ref cu])) cu2 (.lst [])) := by
    refine (Kl.refl.mut hsp ?_).new h2
    intro m
    simp only [List.cons_append, List.mem_cons, List.mem_append] at m
    rcases m with m | m | m | m | m
    · exact n_st_sp m.symm
    · exact n_cu_sp m.symm
    · exact n_out_sp m.symm
    · exact d5 (by simp [m])
    · exact spF m
  have kF := kk.sub (L' := F) (by intro a ha; simp [ha])
  have hF : ∀ a ∈ F, a ∈ cu :: F := fun a ha => by simp [ha]
  refine ⟨?_, ?_, ?_, ?_, ?_, ⟨_, kk.l st (by simp) _ hst, ys, sp, out, cu, zs, M', rfl, rfl, ?_, kk.l out (by simp) _ g2, t.keep kF hF, by simp, ⟨ws, kk.l cu (by simp) _ hc, lt.keep kF hF⟩, hr.keep hF r (kk.sub (by intro a ha; simp at ha ⊢; rcases ha with h | h <;> simp [h]))⟩, ⟨[], upd_same, rfl⟩⟩
  · refine List.nodup_cons.mpr ⟨?_, List.nodup_cons.mpr ⟨?_, d4⟩⟩
    · intro m
      rcases List.mem_cons.mp m with m | m
      · exact nA st (by simp) m
      · exact d1 (List.mem_cons_of_mem _ m)
    · intro m
      exact nA cu2 (.inl (by simp only [List.mem_cons] at m ⊢; exact .inr (.inr m))) rfl
  · intro a ha m
    simp only [List.mem_cons] at ha m
    rcases m with rfl | m
    · rcases ha with e | e | e | e | e
      · exact d1 (by simp [e])
      · exact nA _ (by simp) e
      · exact n_cu_sp e
      · exact d3 (by simp [e])
      · exact d3 (by simp [e])
    · rcases ha with e | e | e | e | e
      · exact dj a (by simp [e]) m
      · exact nA a (.inr m) e
      · exact dj a (by simp [e]) m
      · exact dj a (by simp [e]) m
      · exact dj a (by simp [e]) m
  · intro a ha
    simp only [List.mem_cons] at ha
    rcases ha with (e | e | e) | e | e
    · exact nw a (by simp [e])
    · rw [e]; exact s.free h2'
    · exact nw a (.inl (by simp only [List.mem_cons]; exact .inr (.inr e)))
    · exact nw a (by simp [e])
    · exact nw a (.inr e)
  · intro a ha
    simp only [List.mem_cons] at ha
    rcases ha with (e | e | e) | e | e
    · exact upd_ex (upd_ex (ex a (by simp [e])))
    · exact ⟨_, by rw [e, upd_same]⟩
    · exact upd_ex (upd_ex (ex a (.inl (by simp only [List.mem_cons]; exact .inr (.inr e)))))
    · exact upd_ex (upd_ex (ex a (by simp [e])))
    · exact upd_ex (upd_ex (ex a (.inr e)))
  · exact sNew (sMut s (nw sp (by simp))) h2
  · rw [upd_ne n_c_sp.symm, upd_same]
theorem LS.cls {g : Grp} {r : List Grp} {ys zs : List V} {sp out fst tp : Addr} {x : Nat} {it : It} (L : LS H0 H F M st cu (g :: r) cur) (hst : H st = some (.lst (ys ++ [.ref sp]))) (hsp : H sp = some (.lst [tV [g.c], .ref out, .ref fst])) (hout : H out = some (.lst zs)) (h2 : upd H st (.lst ys) tp = none)
    (hit : (x = 41 ∧ g.f = none ∧ it = .rep cur) ∨ (x = 93 ∧ ∃ f, g.f = some f ∧ it = .cho f cur)) :
    ∃ M', LS H0 (upd (upd (upd H st (.lst ys)) tp (.tup [tV [x], .ref fst, .ref cu])) out (.lst (zs ++ [.ref tp]))) (cu :: F) M' st out r (g.o ++ [it]) := by
  obtain ⟨nd, dj, nw, ex, s, ⟨xs, hs, lg⟩, ⟨ws, hc, lt⟩⟩ := L
  obtain ⟨ys', sp', out', fst', zs', M', e1, rfl, g1, g2, t, f1, g3, hr⟩ := lg
  rw [e1, hst] at hs
  have hs' : ys ++ [V.ref sp] = ys' ++ [.ref sp'] := by injection hs with hs; injection hs
  obtain ⟨rfl, e2⟩ := app1_inj hs'
  cases e2
  rw [hsp] at g1
  cases g1
  rw [hout] at g2
  cases g2
  subst e1
  have n_t_st : tp ≠ st := fun z => by rw [z, upd_same] at h2; cases h2
  have h2' : H tp = none := by rw [upd_ne n_t_st] at h2; exact h2
  have nA : ∀ a, a ∈ st :: cu :: sp :: out :: M' ∨ a ∈ F → a ≠ tp := fun a ha => by
    obtain ⟨o, e⟩ := ex a ha
    exact ne_of_none e h2'
  obtain ⟨d1, d2⟩ := List.nodup_cons.mp nd
  obtain ⟨d3, d4⟩ := List.nodup_cons.mp d2
  obtain ⟨d5, d6⟩ := List.nodup_cons.mp d4
  obtain ⟨d7, d8⟩ := List.nodup_cons.mp d6
  have n_st_out : st ≠ out := fun z => d1 (by simp [z])
  have n_cu_out : cu ≠ out := fun z => d3 (by simp [z])
  have n_out_tp : out ≠ tp := nA out (by simp)
  have outF : out ∉ F := dj out (by simp)
  have hout2 : upd (upd H st (.lst ys)) tp (.tup [tV [x], .ref fst, .ref cu]) out = some (.lst zs) := by rw [upd_ne n_out_tp, upd_ne n_st_out.symm]; exact hout
  have kk : Kl (cu :: M' ++ F) H (upd (upd (upd H st (.lst ys)) tp (.tup [tV [x], .ref fst, .ref cu])) out (.lst (zs ++ [.ref tp]))) := by
    refine ((Kl.refl.mut hst ?_).new h2).mut hout2 ?_
    · intro m
      simp only [List.cons_append, List.mem_cons, List.mem_append] at m
      rcases m with m | m | m
      · exact d1 (by simp [m])
      · exact d1 (by simp [m])
      · exact dj st (by simp) m
    · intro m
      simp only [List.cons_append, List.mem_cons, List.mem_append] at m
      rcases m with m | m | m
      · exact n_cu_out m.symm
      · exact d7 m
      · exact outF m
  have kF := kk.sub (L' := F) (by intro a ha; simp [ha])
  have hF : ∀ a ∈ F, a ∈ cu :: F := fun a ha => by simp [ha]
  have htp : upd (upd (upd H st (.lst ys)) tp (.tup [tV [x], .ref fst, .ref cu])) out (.lst (zs ++ [.ref tp])) tp = some (.tup [tV [x], .ref fst, .ref cu]) := by rw [upd_ne n_out_tp.symm, upd_same]
  refine ⟨M', ?_, ?_, ?_, ?_, ?_, ⟨_, by rw [upd_ne n_st_out, upd_ne n_t_st.symm, upd_same], hr.keep hF r (kk.sub (by intro a ha; simp at ha ⊢; rcases ha with h | h <;> simp [h]))⟩, ⟨_, upd_same, LTrs.app (t.keep kF hF) (LTrs.one ?_)⟩⟩
  · refine List.nodup_cons.mpr ⟨?_, List.nodup_cons.mpr ⟨d7, d8⟩⟩
    intro m
    rcases List.mem_cons.mp m with m | m
    · exact n_st_out m
    · exact d1 (by simp [m])
  · intro a ha m
    simp only [List.mem_cons] at ha m
    rcases m with rfl | m
    · rcases ha with e | e | e
      · exact d1 (by simp [e])
      · exact n_cu_out e
      · exact d3 (by simp [e])
    · rcases ha with e | e | e
      · exact dj a (by simp [e]) m
      · exact dj a (by simp [e]) m
      · exact dj a (by simp [e]) m
  · intro a ha
    simp only [List.mem_cons] at ha
    rcases ha with (e | e | e) | e | e
    · exact nw a (by simp [e])
    · exact nw a (by simp [e])
    · exact nw a (by simp [e])
    · exact nw a (by simp [e])
    · exact nw a (.inr e)
  · intro a ha
    simp only [List.mem_cons] at ha
    rcases ha with (e | e | e) | e | e
    · exact upd_ex (upd_ex (upd_ex (ex a (by simp [e]))))
    · exact upd_ex (upd_ex (upd_ex (ex a (by simp [e]))))
    · exact upd_ex (upd_ex (upd_ex (ex a (by simp [e]))))
    · exact upd_ex (upd_ex (upd_ex (ex a (by simp [e]))))
    · exact upd_ex (upd_ex (upd_ex (ex a (.inr e))))
  · exact sMut (sNew (sMut s (nw st (by simp))) h2) (nw out (by simp))
  · have hcu := kk.l cu (by simp) _ hc
    rcases hit with ⟨rfl, ef, rfl⟩ | ⟨rfl, f', ef, rfl⟩
    · rw [ef] at g3
      exact ⟨tp, fst, cu, ws, rfl, htp, hF _ f1, kF.l _ f1 _ g3, by simp, hcu, lt.keep kF hF⟩
    · rw [ef] at g3
      obtain ⟨vs, g4, g5⟩ := g3
      exact ⟨tp, fst, cu, vs, ws, rfl, htp, hF _ f1, kF.l _ f1 _ g4, by simp, hcu, g5.keep kF hF, lt.keep kF hF⟩
end
theorem brk_opn {c : Nat} {gs g2 : List Grp} {its i2 : List It} (hc : c = 40 ∨ c = 91) (h : brk c gs its = some (g2, i2)) : g2 = ⟨c, its, none⟩ :: gs ∧ i2 = [] ∧ gs.length ≠ 8 := by
  unfold brk at h
  rw [if_pos hc] at h
  split at h
  · cases h
  · cases h; exact ⟨rfl, rfl, by assumption⟩
theorem brk_124 {gs g2 : List Grp} {its i2 : List It} (h : brk 124 gs its = some (g2, i2)) : ∃ g r, gs = g :: r ∧ g2 = ⟨g.c, g.o, some its⟩ :: r ∧ i2 = [] := by
  unfold brk at h
  rw [if_neg (by decide)] at h
  split at h
  · cases h
  · rename_i g r
    rw [if_neg (by intro z; cases z.1)] at h
    split at h
    · cases h; exact ⟨g, r, rfl, rfl, rfl⟩
    · rw [if_neg (by intro z; cases z.1)] at h
      cases h
theorem brk_41 {gs g2 : List Grp} {its i2 : List It} (h : brk 41 gs its = some (g2, i2)) : ∃ g r, gs = g :: r ∧ g.c = 40 ∧ g2 = r ∧ i2 = g.o ++ [.rep its] := by
  unfold brk at h
  rw [if_neg (by decide)] at h
  split at h
  · cases h
  · rename_i g r
    split at h
    · rename_i hc
      cases h; exact ⟨g, _, rfl, hc.2.1, rfl, rfl⟩
    · rw [if_neg (by intro z; cases z.1), if_neg (by intro z; cases z.1)] at h
      cases h
theorem brk_93 {gs g2 : List Grp} {its i2 : List It} (h : brk 93 gs its = some (g2, i2)) : ∃ g r f, gs = g :: r ∧ g.f = some f ∧ g2 = r ∧ i2 = g.o ++ [.cho f its] := by
  unfold brk at h
  rw [if_neg (by decide)] at h
  split at h
  · cases h
  · rename_i g r
    rw [if_neg (by intro z; cases z.1), if_neg (by intro z; cases z.1)] at h
    split at h
    · split at h
      · rename_i f hf
        cases h; exact ⟨g, _, f, rfl, hf, rfl, rfl⟩
      · cases h
    · cases h
/-! ### the law's trees as data -/
mutual
theorem LTr.dp {K : PySem.W.Frag} {F : List Addr} {H : Hp} : ∀ {v : V} (i : It), LTr F H v i → i.ok → ∃ d, Dp K H v d ∧ PyData.canLay0 d = true ∧ PyData.depth d ≤ 2 * i.dep
  | v, .key s, h, o => by
    have e : v = tV s := h
    subst e
    exact ⟨.str (S s), .str _, strOk_sgn o.2.2, by simp [PyData.depth]⟩
  | v, .rep a, h, o => by
    obtain ⟨p, e, q, xs, rfl, h1, _, h2, _, h3, t⟩ := h
    obtain ⟨ds, hd, hl, hc, hz⟩ := LTrs.dp (K := K) a t o
    refine ⟨.tuple [.str (S [41]), .list [], .list ds], .tup (SqT.of h1) (.cons (.str _) (.cons (.lst (SqL.of h2) .nil) (.cons (.lst (SqL.of h3) hd) .nil))), ?_, ?_⟩
    · show (PyData.canLay0 (.str (S [41])) && (PyData.canLay0 (.list []) && (PyData.canLayAll0 ds && true))) = true
      rw [hc]; decide +kernel
    · show max (PyData.depth (.str (S [41]))) (max (PyData.depthAll [] + 1) (max (PyData.depthAll ds + 1) 0)) + 1 ≤ _
      have e : PyData.depth (.str (S [41])) = 0 := rfl
      have e2 : PyData.depthAll [] = 0 := rfl
      simp [It.dep, e, e2]; omega
  | v, .cho a b, h, o => by
    obtain ⟨p, q, r, xs, ys, rfl, h1, _, h2, _, h3, t, u⟩ := h
    obtain ⟨ds, hd, hl, hc, hz⟩ := LTrs.dp (K := K) a t o.1
    obtain ⟨es, he, hl2, hc2, hz2⟩ := LTrs.dp (K := K) b u o.2
    refine ⟨.tuple [.str (S [93]), .list ds, .list es], .tup (SqT.of h1) (.cons (.str _) (.cons (.lst (SqL.of h2) hd) (.cons (.lst (SqL.of h3) he) .nil))), ?_, ?_⟩
    · show (PyData.canLay0 (.str (S [93])) && (PyData.canLayAll0 ds && (PyData.canLayAll0 es && true))) = true
      rw [hc, hc2]; decide +kernel
    · show max (PyData.depth (.str (S [93]))) (max (PyData.depthAll ds + 1) (max (PyData.depthAll es + 1) 0)) + 1 ≤ _
      have e : PyData.depth (.str (S [93])) = 0 := rfl
      simp [It.dep, e]; omega
theorem LTrs.dp {K : PySem.W.Frag} {F : List Addr} {H : Hp} : ∀ {xs : List V} (a : List It), LTrs F H xs a → okL a → ∃ ds, DpAll K H xs ds ∧ ds.length = a.length ∧ PyData.canLayAll0 ds = true ∧ PyData.depthAll ds ≤ 2 * depL a
  | xs, [], h, o => by
    have e : xs = [] := h
    subst e
    exact ⟨[], .nil, rfl, rfl, by simp [PyData.depthAll]⟩
  | xs, i :: r, h, o => by
    obtain ⟨v, ys, rfl, h1, h2⟩ := h
    obtain ⟨d, hd, hc, hz⟩ := LTr.dp (K := K) i h1 o.1
    obtain ⟨ds, hds, hl, hcs, hzs⟩ := LTrs.dp (K := K) r h2 o.2
    refine ⟨d :: ds, .cons hd hds, by simp [hl], ?_, ?_⟩
    · show (PyData.canLay0 d && PyData.canLayAll0 ds) = true
      rw [hc, hcs]; rfl
    · show max (PyData.depth d) (PyData.depthAll ds) ≤ _
      simp [depL]; omega
end
/-- a tree's list as data -/
theorem LtAt.dp {K : PySem.W.Frag} {H : Hp} {p : Addr} {a : List It} (h : LtAt H p a) (o : okL a) (hd : depL a ≤ 30) : ∃ ds, Dp K H (.ref p) (.list ds) ∧ SeqAt.shaped (.list ds) = true ∧ ds.isEmpty = a.isEmpty := by
  obtain ⟨F, xs, e, t⟩ := h
  obtain ⟨ds, h1, h2, h3, h4⟩ := t.dp (K := K) a o
  refine ⟨ds, .lst (SqL.of e) h1, ?_, ?_⟩
  · unfold SeqAt.shaped
    rw [Bool.and_eq_true]
    refine ⟨h3, decide_eq_true ?_⟩
    show PyData.depthAll ds + 1 ≤ 64
    omega
  · cases ds <;> cases a <;> simp at h2 <;> rfl
end Kr

set_option Elab.async false
set_option linter.all false
set_option maxRecDepth 100000
set_option maxHeartbeats 2000000
/-! ### enumerate(tuple) -/
namespace PySem
open Sem (wp)
open AutoSeq1 (wpAny_loadPart')
theorem kr_enum_newT (l : Addr) (items : Array Value) (n : Nat) (dct : Option Addr) (sl : Array (Option Value)) :
    Meets (Builtin.«enumerate.__new__» ⟨[.type "enumerate", .ref l], []⟩) (fun _ R s => s.heap.get? l = some { cls := .type "tuple", dict := dct, data := .seq items n, slots := sl } ∧
      R (.ok (.ret (.ref (s.heap.push { cls := .type "tuple_iterator", data := .fields #[.ref l, .int 0 0] }).objs.size)))
        { s with heap := (s.heap.push { cls := .type "tuple_iterator", data := .fields #[.ref l, .int 0 0] }).push { cls := .type "enumerate", data := .fields #[.none, .bool false, .ref s.heap.objs.size, rawInt 0, .none, .none] } }) :=
  .of_wp fun prog w A R s h => by
    obtain ⟨hp, g, d, tk, os⟩ := s; obtain ⟨hl, h⟩ := h
    have hsub := sub_enumerate
    have hL : Heap.IsTuple (Shared.heap ⟨hp, g, d, tk, os⟩) l items := ⟨_, hl, rfl, n, rfl⟩
    wp_walk using wpAny_loadPart' hl
    refine wpAny_stack_any fun st => wpAny_pure ?_
    split
    · rename_i c _ _ _ _ _
      cases (c == Value.type "enumerate")
      · wp_walk using wpAny_loadPart' hl, wpAny_pyIter_tuple hL
        exact ⟨_, rfl, h⟩
      · wp_walk using wpAny_loadPart' hl, wpAny_pyIter_tuple hL
        exact ⟨_, rfl, h⟩
    · wp_walk using wpAny_loadPart' hl, wpAny_pyIter_tuple hL
      exact ⟨_, rfl, h⟩
section
variable {prog : Program} {w : World} {A : Around} {E : Value → Shared → Prop} {s : Shared}
theorem kr_enumerate_tuple {l : Addr} {items : Array Value} {Q : Value → Shared → Prop} (hL : s.heap.IsTuple l items)
    (h : ∀ h', IsEnum h' (s.heap.objs.size + 1) s.heap.objs.size 0 .none → h'.IsTupleIter s.heap.objs.size l 0 → h'.objs.size = s.heap.objs.size + 2 →
      (∀ b o, s.heap.get? b = some o → h'.get? b = some o) → Q (.ref (s.heap.objs.size + 1)) { s with heap := h' }) :
    wpAny (model prog w) A (call (.type "enumerate") [.ref l]) Q E s := by
  obtain ⟨⟨c, dct, dt, sl⟩, hl, hc, n, hd⟩ := hL
  replace hc : c = .type "tuple" := hc
  replace hd : dt = .seq items n := hd
  subst hc hd
  refine callType_new F.called_enumerate (by decide) (F.typeCall_enumerate_1 _) (F.newCall_enumerate_1 _) (fun obj => F.args_object_init_2 obj _) F.entry_enumerate_new
    (kr_enum_newT l items n dct sl) ⟨hl, ?_⟩
  have hz : (s.heap.push { cls := .type "tuple_iterator", data := .fields #[.ref l, .int 0 0] }).objs.size = s.heap.objs.size + 1 := Heap.size_push ..
  show _ ∧ _
  rw [hz]
  have he : IsEnum ((s.heap.push { cls := .type "tuple_iterator", data := .fields #[.ref l, .int 0 0] }).push
      { cls := .type "enumerate", data := .fields #[.none, .bool false, .ref s.heap.objs.size, rawInt 0, .none, .none] }) (s.heap.objs.size + 1) s.heap.objs.size 0 .none := by
    have := Heap.get?_push_size (s.heap.push { cls := .type "tuple_iterator", data := .fields #[.ref l, .int 0 0] })
      (o := { cls := .type "enumerate", data := .fields #[.none, .bool false, .ref s.heap.objs.size, rawInt 0, .none, .none] }) rfl
    rw [hz] at this; exact this
  refine ⟨⟨_, he, rfl⟩, h _ he ⟨_, Heap.get?_push_of_some _ (Heap.get?_push_size _ rfl), rfl, rfl⟩ (by rw [Heap.size_push, hz]) fun b o x => Heap.get?_push_of_some _ (Heap.get?_push_of_some _ x)⟩
end
end PySem
namespace L2
open PySem PySem.Spec PyProof.Rows
def IteT (K : PySem.W.Frag) (a : Addr) : It :=
  ⟨fun i H => ∃ (xs : List V) (x : V), SqT K H a xs ∧ xs[i]? = some x, fun i H v H' => ∃ T x, v = .ref T ∧ H T = none ∧ H' = upd H T (.tup [.int (i : Nat), x]) ∧ ∀ xs, SqT K H a xs → xs[i]? = some x, fun i H => ∃ xs : List V, SqT K H a xs ∧ xs.length = i⟩
theorem turn_enumT {P : Program} {w : World} {K : PySem.W.Frag} {elts : List Expr} {kk : Nat} {tpos : Pos} (a e it : Addr) (hia : a ≠ it) (hea : a ≠ e) :
    Turn P w K (.Tuple elts kk tpos) (IteT K a) [e, it] e (fun i h => (∃ old, IsEnum h e it ((i : Nat) : Int) old) ∧ h.IsTupleIter it a i ∧ e ≠ it) where
  mem := by simp
  obj := fun i h st b hb => by
    obtain ⟨⟨old, he⟩, ⟨o, ho, hc, hd⟩, _⟩ := st
    have e' : b = e ∨ b = it := by simpa using hb
    rcases e' with z | z
    · rw [z]; exact ⟨_, he, fun v q => nomatch q⟩
    · rw [z]; exact ⟨o, ho, fun v q => by rw [hd] at q; cases q⟩
  keep := fun i h h' st k => let ⟨⟨old, he⟩, hi, hne⟩ := st; ⟨⟨old, k e (by simp) _ he⟩, hi.at fun o q => k it (by simp) o q, hne⟩
  item := by
    intro X hP hw hK hc i pins s σ H E I hf st hg
    subst hP hw hK
    obtain ⟨⟨old, he⟩, hit, hne⟩ := st
    obtain ⟨xs, x, hq, hx⟩ := hg
    obtain ⟨its, rv, p, hz⟩ := I.tuple hq
    obtain ⟨u, hu, ru⟩ := rv.get hx
    have hel : e < s.heap.objs.size := Heap.lt_size he
    have hil : it < s.heap.objs.size := by obtain ⟨_, q, _⟩ := hit; exact Heap.lt_size q
    have D := Draws.tuple (prog := X.prog) (w := X.w) (A := X.A.in1) (show X.A.in1.handled = none from I.ok.hd hc) it a hia its.toArray
    have hlt : i < its.toArray.size := by
      have : i < its.length := by
        rcases Nat.lt_or_ge i its.length with h | h
        · exact h
        · rw [List.getElem?_eq_none h] at hu; cases hu
      simpa using this
    refine wpAny_pyNext_enum_itemD D he ⟨hit, p⟩ hlt hne (by simp; exact ⟨hne, hea.symm⟩) fun v h' tk hv ho hit' hT hsz hk => ?_
    have ev : v = u := by
      have hv' : its.toArray[i]? = some v := hv
      have hu' : its.toArray[i]? = some u := by simpa using hu
      rw [hu'] at hv'; exact (Option.some.inj hv').symm
    subst ev
    refine ⟨_, rfl, wpAny_letOwnedTupleGo_enum (s := { s with heap := h', toks := tk + 1 }) ho fun h'' he' sb => ?_⟩
    have hT2 : h''.get? s.heap.objs.size = some { cls := .type "tuple", data := .seq #[.int i tk, v] } := (sb.2 _ (Nat.ne_of_gt hel)).trans hT
    have new : ObjOk X.prog X.w (upd H s.heap.objs.size (.tup [.int (i : Nat), x])) h'' s.heap.objs.size (.tup [.int (i : Nat), x]) :=
      ⟨by show 2 ≤ sizeLine; decide, [.int i tk, v], .cons ⟨_, rfl⟩ (.cons ru .nil), ⟨_, hT2, rfl, _, rfl⟩⟩
    have I1 : Inv X pins σ (upd H s.heap.objs.size (.tup [.int (i : Nat), x])) { s with heap := h'', toks := tk + 1 } :=
      I.turnedNew (ch := [e, it]) (fun b ob hb q => (sb.2 b (fun z => hb (by simp [z]))).trans (hk b ob (fun z => hb (by simp [z])) (fun z => hb (by simp [z])) q)) hf (Nat.le_refl _) new
    refine ⟨.ref s.heap.objs.size, _, I1, rfl, ⟨_, x, rfl, I.hok.fresh (Nat.le_refl _), rfl, fun ys hy => by rw [I.tuple_inj hy hq]; exact hx⟩, ⟨⟨v, ?_⟩, ?_, hne⟩, fun b hb => ?_⟩
    · have e1 : ((i + 1 : Nat) : Int) = (i : Int) + 1 := by omega
      rw [e1]; exact he'
    · exact hit'.1.at fun o q => (sb.2 it (Ne.symm hne)).trans q
    · have hb' : b < s.heap.objs.size := by
        have e' : b = e ∨ b = it := by simpa using hb
        rcases e' with z | z
        · rw [z]; exact hel
        · rw [z]; exact hil
      rw [upd_ne (Nat.ne_of_lt hb')]
      exact (hf b hb).1
  done := by
    intro X hP hw hK hc i pins s σ H E I hf st hg
    subst hP hw hK
    obtain ⟨⟨old, he⟩, hit, hne⟩ := st
    obtain ⟨xs, hq, hx⟩ := hg
    obtain ⟨its, rv, p, hz⟩ := I.tuple hq
    obtain ⟨f0, f1, f2, f3, f4, f5⟩ := hf it (by simp)
    have D := Draws.tuple (prog := X.prog) (w := X.w) (A := X.A.in1) (show X.A.in1.handled = none from I.ok.hd hc) it a hia its.toArray
    have hl : its.toArray.size = i := by rw [List.size_toArray, ← rv.length]; exact hx
    exact wpAny_pyNext_enum_endD D he (by rw [hl]; exact ⟨hit, p⟩) fun h' eb => ⟨rfl, I.turned (t' := s.toks) (fun b o hb q => eb b o hb q) f0 f1 f3 f4 f5⟩
  self := fun A i s Q E st h => let ⟨⟨_, he⟩, _⟩ := st; wpAny_pyIter_enum he h
def iEnumT (K : PySem.W.Frag) (ta : TA) : TI := fun σ H R => ta σ H fun vs H1 => ∃ a xs, vs = [.ref a] ∧ SqT K H1 a xs ∧ R (IteT K a) H1
theorem pi_enumT {X : Cx} {e : Expr} {ta : TA} {p pos tpos : Pos} {elts : List Expr} {kk : Nat} (hg : Gl X "enumerate") (hm : X.mg "enumerate" = none) (ha : PA X [e] ta) (hs : starEach [e] X.env = [(false, eval e X.env)] := by rfl) :
    PI X (.Tuple elts kk tpos) (.Call (.Name "enumerate" p) [e] [] pos) (iEnumT X.K ta) := by
  refine ⟨fun pins s σ H R I h => ?_⟩
  refine Call_ (ld_blt I hg hm boot_enumerate (PyProof.Rows.callWith_type1 (thn (ha.run pos pins s σ H _ I h) fun us s1 ⟨vs, H1, I1, r1, q1⟩ => ?_) hs rfl))
  obtain ⟨a, xs, ex, hq, q⟩ := q1
  subst ex
  cases r1 with
  | cons r rr =>
    cases rr
    cases r
    obtain ⟨its, rv, p', hz⟩ := I1.tuple hq
    have hal : a < s1.heap.objs.size := by obtain ⟨_, z, _⟩ := p'; exact Heap.lt_size z
    refine kr_enumerate_tuple p' fun h' he hit hsz hk => wpAny_pyIter_enum he ?_
    have I2 : Inv X pins σ H1 { s1 with heap := h' } := I1.kept (t' := s1.toks) hk
    refine ⟨s1.heap.objs.size + 1, [s1.heap.objs.size + 1, s1.heap.objs.size], _, _, H1, rfl, I2, turn_enumT a (s1.heap.objs.size + 1) s1.heap.objs.size (Nat.ne_of_lt hal) (Nat.ne_of_lt (Nat.lt_succ_of_lt hal)), ⟨⟨.none, he⟩, hit, Nat.succ_ne_self _⟩, fun b hb => ?_, q⟩
    have e' : b = s1.heap.objs.size + 1 ∨ b = s1.heap.objs.size := by simpa using hb
    have hle : s1.heap.objs.size ≤ b := by
      rcases e' with z | z
      · rw [z]; exact Nat.le_add_right _ _
      · rw [z]; exact Nat.le_refl _
    exact I1.fpOk hle (I1.hok.fresh hle)
/-- the walk: pairs of the place and the item -/
theorem walk_enumT {K : PySem.W.Frag} {a : Addr} {xs : List V} : Walk (IteT K a) xs.length (fun H => SqT K H a xs) (fun i H v H' => ∃ T x, v = .ref T ∧ H T = none ∧ H' = upd H T (.tup [.int (i : Nat), x]) ∧ xs[i]? = some x) :=
  ⟨fun i _ hi q => ⟨xs, xs[i], q, by simp [hi]⟩, fun _ q => ⟨xs, q, rfl⟩, fun _ _ _ _ _ q ⟨T, x, h1, h2, h3, h4⟩ => ⟨T, x, h1, h2, h3, h4 xs q⟩⟩
end L2

set_option Elab.async false
set_option linter.all false
set_option maxRecDepth 100000
set_option maxHeartbeats 2000000
namespace Kr
open PySem PySem.Spec PyProof.Rows L2
open SX (S)
/-! ### rows, plainly -/
abbrev Tg := Nat × Int
structure Row where
  k : List Nat
  s : List Nat
  o : Tg
  f : Tg
mutual
def It.lay : It → Nat → Nat → Tg → Tg → List Row
  | .key s, _, _, af, fa => [⟨s.take 1, s.drop 1, af, fa⟩]
  | .rep a, nu, re, af, _ => layL a nu (re + 1) (nu, re) af
  | .cho a b, nu, re, af, fa => layL a nu re af (if b.isEmpty then af else (nu + (keysL a).length, -1)) ++ layL b (nu + (keysL a).length) (re + repsL a) af fa
def layL : List It → Nat → Nat → Tg → Tg → List Row
  | [], _, _, _, _ => []
  | i :: r, nu, re, on, fa => i.lay nu re (if r.isEmpty then on else (nu + i.keys.length, -1)) fa ++ layL r (nu + i.keys.length) (re + i.reps) on fa
end
/-- the rows of the first items of a, the last one's target onward as it is in a -/
def layT (a : List It) (nu re : Nat) (on fa : Tg) (i : Nat) : List Row := (layL a nu re on fa).take (keysL (a.take i)).length
mutual
theorem lay_len : ∀ (i : It) (nu re : Nat) (af fa : Tg), (i.lay nu re af fa).length = i.keys.length
  | .key s, _, _, _, _ => rfl
  | .rep a, nu, re, af, fa => layL_len a _ _ _ _
  | .cho a b, nu, re, af, fa => by
    show (_ ++ _ : List Row).length = (_ ++ _ : List (List Nat)).length
    rw [List.length_append, List.length_append, layL_len a, layL_len b]
theorem layL_len : ∀ (a : List It) (nu re : Nat) (on fa : Tg), (layL a nu re on fa).length = (keysL a).length
  | [], _, _, _, _ => rfl
  | i :: r, nu, re, on, fa => by
    show (_ ++ _ : List Row).length = (_ ++ _ : List (List Nat)).length
    rw [List.length_append, List.length_append, lay_len i, layL_len r]
end
/-- what the i-th item of a gives -/
theorem layT_step {on fa : Tg} : ∀ {a : List It} {nu re i : Nat} {it : It}, a[i]? = some it →
    layT a nu re on fa (i + 1) = layT a nu re on fa i ++ it.lay (nu + (keysL (a.take i)).length) (re + repsL (a.take i)) (if i + 1 = a.length then on else (nu + (keysL (a.take i)).length + it.keys.length, -1)) fa
  | j :: r, nu, re, 0, it, h => by
    simp at h
    subst h
    show ((layL (j :: r) nu re on fa).take (keysL [j]).length) = _
    have e : (keysL [j]).length = (j.lay nu re (if r.isEmpty then on else (nu + j.keys.length, -1)) fa).length := by rw [lay_len]; simp [keysL]
    show List.take _ (j.lay nu re (if r.isEmpty then on else (nu + j.keys.length, -1)) fa ++ _) = _
    rw [e, List.take_left']
    · have e2 : layT (j :: r) nu re on fa 0 = [] := by simp [layT, keysL]
      rw [e2]
      simp [keysL, repsL]
    · rfl
  | j :: r, nu, re, i + 1, it, h => by
    have h' : r[i]? = some it := by simpa using h
    have ih := layT_step (a := r) (nu := nu + j.keys.length) (re := re + j.reps) (on := on) (fa := fa) h'
    have cut : ∀ n, layT (j :: r) nu re on fa (n + 1) = j.lay nu re (if r.isEmpty then on else (nu + j.keys.length, -1)) fa ++ layT r (nu + j.keys.length) (re + j.reps) on fa n := fun n => by
      show List.take _ (j.lay nu re (if r.isEmpty then on else (nu + j.keys.length, -1)) fa ++ layL r (nu + j.keys.length) (re + j.reps) on fa) = _
      have e : (keysL ((j :: r).take (n + 1))).length = (j.lay nu re (if r.isEmpty then on else (nu + j.keys.length, -1)) fa).length + (keysL (r.take n)).length := by
        rw [lay_len]; simp [keysL]
      rw [e, List.take_length_add_append]
      rfl
    rw [cut (i + 1), cut i, ih, List.append_assoc]
    have e1 : (keysL ((j :: r).take (i + 1))).length = j.keys.length + (keysL (r.take i)).length := by simp [keysL]
    have e2 : repsL ((j :: r).take (i + 1)) = j.reps + repsL (r.take i) := by simp [repsL]
    have e3 : (i + 1 + 1 = (j :: r).length) = (i + 1 = r.length) := by simp
    rw [e1, e2]
    simp only [e3]
    simp only [Nat.add_assoc]
theorem layT_zero {a : List It} {nu re : Nat} {on fa : Tg} : layT a nu re on fa 0 = [] := by simp [layT, keysL]
theorem layT_all {a : List It} {nu re : Nat} {on fa : Tg} : layT a nu re on fa a.length = layL a nu re on fa := by
  unfold layT
  rw [List.take_length, ← layL_len a nu re on fa, List.take_length]
/-! ### rows in the heap -/
def TgAt (H : Hp) (p : Addr) (t : Tg) : Prop := H p = some (.tup [.int (t.1 : Nat), .int t.2])
def RowV (H : Hp) (v : V) (r : Row) : Prop := ∃ (p o f : Addr), v = .ref p ∧ H p = some (.tup [tV r.k, tV r.s, .ref o, .ref f]) ∧ TgAt H o r.o ∧ TgAt H f r.f
def RowsV (H : Hp) (xs : List V) (rs : List Row) : Prop := Paired (RowV H) xs rs
theorem RowV.keep {H H' : Hp} {v : V} {r : Row} (k : Tk H H') (h : RowV H v r) : RowV H' v r := by
  obtain ⟨p, o, f, e, h1, h2, h3⟩ := h
  exact ⟨p, o, f, e, k _ _ h1, k _ _ h2, k _ _ h3⟩
theorem RowsV.keep {H H' : Hp} {xs : List V} {rs : List Row} (k : Tk H H') (h : RowsV H xs rs) : RowsV H' xs rs := Paired.mapP h fun _ _ z => z.keep k
theorem RowsV.len {H : Hp} {xs : List V} {rs : List Row} (h : RowsV H xs rs) : xs.length = rs.length := Paired.length h
theorem pairedApp {α β : Type} {R : α → β → Prop} {a b : List α} {c d : List β} (h : Paired R a c) (h' : Paired R b d) : Paired R (a ++ b) (c ++ d) := by
  induction h with
  | nil => exact h'
  | cons r _ ih => exact .cons r ih
theorem RowsV.app {H : Hp} {xs ys : List V} {rs qs : List Row} (h : RowsV H xs rs) (h' : RowsV H ys qs) : RowsV H (xs ++ ys) (rs ++ qs) := pairedApp h h'
/-- the rows rs as a list at p -/
def RowsAt (H : Hp) (p : Addr) (rs : List Row) : Prop := ∃ xs, H p = some (.lst xs) ∧ RowsV H xs rs
theorem RowsAt.same {H H' : Hp} {p : Addr} {rs : List Row} (s : Same H H') (h : RowsAt H p rs) : RowsAt H' p rs := by
  obtain ⟨xs, e, h⟩ := h
  exact ⟨xs, s _ _ e, h.keep (Tk.same s)⟩
/-- a row at the end of a list of rows -/
theorem RowsAt.snoc {H : Hp} {D t o f : Addr} {ys : List V} {rs : List Row} {r : Row} (hD : H D = some (.lst ys)) (hR : RowsV H ys rs) (ht : H t = none) (ho : TgAt H o r.o) (hf : TgAt H f r.f) :
    RowsAt (upd (upd H t (.tup [tV r.k, tV r.s, .ref o, .ref f])) D (.lst (ys ++ [.ref t]))) D (rs ++ [r]) := by
  have hD2 : upd H t (.tup [tV r.k, tV r.s, .ref o, .ref f]) D = some (.lst ys) := by rw [upd_ne (ne_of_none hD ht)]; exact hD
  have k1 : Tk H (upd (upd H t (.tup [tV r.k, tV r.s, .ref o, .ref f])) D (.lst (ys ++ [.ref t]))) := (Tk.refl.new ht).lst hD2
  refine ⟨_, upd_same, (hR.keep k1).app (.cons ⟨t, o, f, rfl, ?_, k1 _ _ ho, k1 _ _ hf⟩ .nil)⟩
  rw [upd_ne (ne_of_none hD ht).symm, upd_same]
/-- a list of rows at the end of another -/
theorem RowsAt.cat {H : Hp} {D l : Addr} {ys zs : List V} {rs qs : List Row} (hD : H D = some (.lst ys)) (hR : RowsV H ys rs) (hZ : RowsV H zs qs) : RowsAt (upd H D (.lst (ys ++ zs))) D (rs ++ qs) := by
  have k1 : Tk H (upd H D (.lst (ys ++ zs))) := Tk.refl.lst hD
  exact ⟨_, upd_same, (hR.keep k1).app (hZ.keep k1)⟩
theorem layT_le (a : List It) (nu re : Nat) (on fa : Tg) (i : Nat) : (layT a nu re on fa i).length ≤ (keysL a).length := by
  have e := layL_len a nu re on fa
  unfold layT
  rw [List.length_take]
  omega
def rowsM (its : List It) : List Row := layL its 0 0 ((keysL its).length, -1) ((keysL its).length + 1, -1)
end Kr

set_option Elab.async false
set_option linter.all false
set_option maxRecDepth 100000
set_option maxHeartbeats 2000000
namespace Kr
open PySem PySem.Spec PyProof.Rows L2
open SX (S)
/-! ### tactics: @hp looks things up in heaps, @cl closes a side condition, @wk walks -/
theorem Same.get {H H' : Hp} {a : Addr} {o : HO} (s : Same H H') (h : H a = some o) : H' a = some o := s a o h
theorem updGet {H : Hp} {p a : Addr} {o u : HO} (h : H a = some u) (n : a ≠ p) : upd H p o a = some u := by rw [upd_ne n]; exact h
theorem updNone {H : Hp} {p a : Addr} {o : HO} (h : upd H p o a = none) : a ≠ p ∧ H a = none := by
  by_cases e : a = p
  · rw [e, upd_same] at h; cases h
  · rw [upd_ne e] at h; exact ⟨e, h⟩
theorem neSN {H : Hp} {p a : Addr} (n : H p = none) (h : (H a).isSome = true) : a ≠ p := fun e => by rw [e, n] at h; cases h
theorem neNS {H : Hp} {p a : Addr} (n : H a = none) (h : (H p).isSome = true) : a ≠ p := fun e => by rw [← e, n] at h; cases h
theorem isS {H : Hp} {a : Addr} {u : HO} (h : H a = some u) : (H a).isSome = true := by rw [h]; rfl
theorem isSs {H H' : Hp} {a : Addr} (s : Same H H') (h : (H a).isSome = true) : (H' a).isSome = true := by
  obtain ⟨u, e⟩ := Option.isSome_iff_exists.mp h
  rw [s _ _ e]; rfl
theorem isSu {H : Hp} {a p : Addr} {o : HO} (h : (H a).isSome = true) : (upd H p o a).isSome = true := by
  by_cases e : a = p
  · rw [e, upd_same]; rfl
  · rw [upd_ne e]; exact h
theorem isSu0 {H : Hp} {p : Addr} {o : HO} : (upd H p o p).isSome = true := by rw [upd_same]; rfl
theorem Kp.get2 {H H' : Hp} {a b l : Addr} {o : HO} (k : Kp [b, l] H H') (h : H a = some o) (h1 : a ≠ b) (h2 : a ≠ l) : H' a = some o := k a o (by simp [h1, h2]) h
theorem neD {H : Hp} {p a : Addr} {u v : HO} (h : H a = some u) (h' : H p = some v) (n : u ≠ v) : a ≠ p := ne_of h h' n
theorem atIz {α : Type} {xs : List α} {i : Nat} {x : α} (h : xs[i]? = some x) : atI xs (0 + (i : Int)) = some x := by
  rw [Int.zero_add]; exact atI_nat h
theorem atIn {α : Type} {xs : List α} {i : Nat} {x : α} (h : xs[i]? = some x) : atI xs (i : Int) = some x := atI_nat h
structure Box (H : Hp) (b l : Addr) : Prop where
  ne : b ≠ l
  ex : ∃ (cs : List Int) (x y : Int), H b = some (.lst [.ref l, .int x, .int y]) ∧ H l = some (.lst (cs.map V.int)) ∧ 0 ≤ x ∧ 0 ≤ y ∧ y < 2147483647
theorem Box.new {H : Hp} {b l p : Addr} {o : HO} (B : Box H b l) (h : H p = none) : Box (upd H p o) b l := by
  obtain ⟨ne, cs, x, y, h1, h2, r⟩ := B
  exact ⟨ne, cs, x, y, by rw [upd_ne (ne_of_none h1 h)]; exact h1, by rw [upd_ne (ne_of_none h2 h)]; exact h2, r⟩
theorem Box.mut {H : Hp} {b l p : Addr} {o : HO} (B : Box H b l) (h1 : p ≠ b) (h2 : p ≠ l) : Box (upd H p o) b l := by
  obtain ⟨ne, cs, x, y, e1, e2, r⟩ := B
  exact ⟨ne, cs, x, y, by rw [upd_ne h1.symm]; exact e1, by rw [upd_ne h2.symm]; exact e2, r⟩
theorem Box.same {H H' : Hp} {b l : Addr} (B : Box H b l) (k : Same H H') : Box H' b l := by
  obtain ⟨ne, cs, x, y, e1, e2, r⟩ := B
  exact ⟨ne, cs, x, y, k _ _ e1, k _ _ e2, r⟩
theorem Box.sm {H H' : Hp} {b l : Addr} (k : Same H H') (B : Box H b l) : Box H' b l := B.same k
theorem Box.k1 {H H' : Hp} {b l x : Addr} (k : Kp [x] H H') (B : Box H b l) (n1 : b ≠ x) (n2 : l ≠ x) : Box H' b l := by
  obtain ⟨ne, cs, p, q, e1, e2, r⟩ := B
  exact ⟨ne, cs, p, q, k _ _ (by simp [n1]) e1, k _ _ (by simp [n2]) e2, r⟩
theorem Box.mt {H : Hp} {b l p : Addr} {o : HO} (B : Box H b l) (n1 : b ≠ p) (n2 : l ≠ p) : Box (upd H p o) b l := B.mut n1.symm n2.symm
theorem Box.isB {H : Hp} {b l : Addr} (B : Box H b l) : (H b).isSome = true := by
  obtain ⟨_, cs, x, y, e1, _⟩ := B
  rw [e1]; rfl
theorem Box.isL {H : Hp} {b l : Addr} (B : Box H b l) : (H l).isSome = true := by
  obtain ⟨_, cs, x, y, _, e1, _⟩ := B
  rw [e1]; rfl
theorem Box.isB' {H : Hp} {b l : Addr} (B : Box H b l) : (H b).isSome = true := B.isB
theorem isSk {H H' : Hp} {a : Addr} (k : ∃ S, Kp S H H' ∧ a ∉ S) (h : (H a).isSome = true) : (H' a).isSome = true := by
  obtain ⟨S, k, hn⟩ := k
  obtain ⟨u, e⟩ := Option.isSome_iff_exists.mp h
  rw [k _ _ hn e]; rfl
theorem Tk.sm {H H1 H2 : Hp} (s : Same H1 H2) (k : Tk H H1) : Tk H H2 := k.trans (Tk.same s)
theorem Tk.nw {H H1 : Hp} {p : Addr} {o : HO} (h : H1 p = none) (k : Tk H H1) : Tk H (upd H1 p o) := k.new h
theorem Tk.ls {H H1 : Hp} {p : Addr} {o : HO} {ys : List V} (h : H1 p = some (.lst ys)) (k : Tk H H1) : Tk H (upd H1 p o) := k.lst h
theorem Tk.bx {H H1 H2 : Hp} {b l : Addr} (s : Kp [b, l] H1 H2) (B : Box H1 b l) (k : Tk H H1) : Tk H H2 := k.trans (Tk.kp s fun p hp => by
  obtain ⟨_, cs, x, y, e1, e2, _⟩ := B
  rcases List.mem_cons.mp hp with rfl | hp
  · exact ⟨_, e1⟩
  · rcases List.mem_cons.mp hp with rfl | hp
    · exact ⟨_, e2⟩
    · cases hp)
theorem Tk.k1 {H H1 H2 : Hp} {x C dx : Addr} {fs : List (Str × V)} (s : Kp [x] H1 H2) (h : H1 x = some (.ins C dx fs)) (k : Tk H H1) : Tk H H2 := k.trans fun a xs e => s a _ (fun z => by
  rw [List.mem_singleton.mp z, h] at e; cases e) e
theorem Kp.get1 {H H' : Hp} {a b : Addr} {o : HO} (k : Kp [b] H H') (h : H a = some o) (h1 : a ≠ b) : H' a = some o := k a o (by simp [h1]) h
theorem updNon {H : Hp} {p a : Addr} {o : HO} (h : H a = none) (n : a ≠ p) : upd H p o a = none := by rw [upd_ne n]; exact h
theorem Same.tr {H H1 H2 : Hp} (s : Same H1 H2) (k : Same H H1) : Same H H2 := k.trans s
theorem Same.nw {H H1 : Hp} {p : Addr} {o : HO} (h : H1 p = none) (k : Same H H1) : Same H (upd H1 p o) := sNew k h
theorem Same.mu {H H1 : Hp} {p : Addr} {o : HO} (h : H p = none) (k : Same H H1) : Same H (upd H1 p o) := sMut k h
theorem ItsAt.kp {H H' : Hp} {p : Addr} {a : List It} (h : ItsAt H p a) (k : Tk H H') : ItsAt H' p a := h.keep k
theorem ItsAt.one {H : Hp} {p : Addr} {x : V} {it : It} (h : H p = some (.tup [x])) (t : Tr H x it) : ItsAt H p [it] := ⟨[x], h, Trs.one t⟩
theorem Tr.kp {H H' : Hp} {v : V} {i : It} (h : Tr H v i) (k : Tk H H') : Tr H' v i := Tr.keep k i h
theorem neTL {H : Hp} {p a : Addr} {xs ys : List V} (h : H a = some (.tup xs)) (h' : H p = some (.lst ys)) : a ≠ p := ne_of h h' (by intro z; cases z)
theorem neLT {H : Hp} {p a : Addr} {xs ys : List V} (h : H a = some (.lst xs)) (h' : H p = some (.tup ys)) : a ≠ p := ne_of h h' (by intro z; cases z)
theorem neTI {H : Hp} {p a C dx : Addr} {xs : List V} {fs : List (Str × V)} (h : H a = some (.tup xs)) (h' : H p = some (.ins C dx fs)) : a ≠ p := ne_of h h' (by intro z; cases z)
theorem neLI {H : Hp} {p a C dx : Addr} {xs : List V} {fs : List (Str × V)} (h : H a = some (.lst xs)) (h' : H p = some (.ins C dx fs)) : a ≠ p := ne_of h h' (by intro z; cases z)
theorem neIT {H : Hp} {p a C dx : Addr} {xs : List V} {fs : List (Str × V)} (h : H a = some (.ins C dx fs)) (h' : H p = some (.tup xs)) : a ≠ p := ne_of h h' (by intro z; cases z)
theorem neIL {H : Hp} {p a C dx : Addr} {xs : List V} {fs : List (Str × V)} (h : H a = some (.ins C dx fs)) (h' : H p = some (.lst xs)) : a ≠ p := ne_of h h' (by intro z; cases z)
theorem Kp.nw1 {H H1 : Hp} {x p : Addr} {o : HO} (h : H1 p = none) (k : Kp [x] H H1) : Kp [x] H (L2.upd H1 p o) := k.new h
theorem Kp.up1 {H H1 : Hp} {x : Addr} {o : HO} (k : Kp [x] H H1) : Kp [x] H (L2.upd H1 x o) := k.upd (by simp)
theorem Kp.tr1 {H H1 H2 : Hp} {x : Addr} (k2 : Kp [x] H1 H2) (k : Kp [x] H H1) : Kp [x] H H2 := k.trans k2
theorem Kp.sm1 {H H1 H2 : Hp} {x : Addr} (s : Same H1 H2) (k : Kp [x] H H1) : Kp [x] H H2 := k.trans (Kp.of_same s)
theorem Tk.kpl {H H1 H2 : Hp} {D : Addr} {ys : List V} (k : Kp [D] H1 H2) (h : H1 D = some (.lst ys)) (t : Tk H H1) : Tk H H2 := t.trans fun a xs e => k a _ (fun z => by
  rw [List.mem_singleton.mp z, h] at e; cases e) e
theorem eqvRefl {d : PyData} (h : d.canLay0 = true) : PyData.eqv d d = true := PySem.SeqAt.eqv_refl d h
def spLaw (K : PySem.W.Frag) : Sp := fun vs H Q _ => ∃ (a : Addr) (ns : List Int), vs = [.ref a] ∧ SqL K H a (ns.map V.int) ∧ ∀ H', Q (.bl true) H'
end Kr

set_option Elab.async false
set_option linter.all false
set_option maxRecDepth 100000
set_option maxHeartbeats 2000000
namespace Kr
open PySem PySem.Spec PyProof.Rows L2
open SX (S)
/-! ### spans of repeats, plainly -/
abbrev Spn := Nat × Int
mutual
def It.spans : It → Nat → List Spn
  | .key _, _ => []
  | .rep a, nu => (nu, (nu : Int) + ((keysL a).length : Nat) - 1) :: spansL a nu
  | .cho a b, nu => spansL a nu ++ spansL b (nu + (keysL a).length)
def spansL : List It → Nat → List Spn
  | [], _ => []
  | i :: r, nu => i.spans nu ++ spansL r (nu + i.keys.length)
end
theorem spansL_app : ∀ (a b : List It) (nu : Nat), spansL (a ++ b) nu = spansL a nu ++ spansL b (nu + (keysL a).length)
  | [], b, nu => by simp [spansL, keysL]
  | i :: r, b, nu => by simp [spansL, keysL, spansL_app r b, Nat.add_assoc]
theorem spansL_one (i : It) (nu : Nat) : spansL [i] nu = i.spans nu := by simp [spansL]
mutual
theorem spans_len : ∀ (i : It) (nu : Nat), (i.spans nu).length = i.reps
  | .key _, _ => rfl
  | .rep a, nu => by simp [It.spans, It.reps, spansL_len a]; omega
  | .cho a b, nu => by simp [It.spans, It.reps, spansL_len a, spansL_len b]
theorem spansL_len : ∀ (a : List It) (nu : Nat), (spansL a nu).length = repsL a
  | [], _ => rfl
  | i :: r, nu => by simp [spansL, repsL, spans_len i, spansL_len r]
end
def SpV (H : Hp) (v : V) (s : Spn) : Prop := ∃ p : Addr, v = .ref p ∧ H p = some (.tup [.int (s.1 : Nat), .int s.2])
theorem SpV.keep {H H' : Hp} {v : V} {s : Spn} (k : Tk H H') (h : SpV H v s) : SpV H' v s := by
  obtain ⟨p, e, h⟩ := h
  exact ⟨p, e, k _ _ h⟩
def SpsV (H : Hp) (xs : List V) (ss : List Spn) : Prop := Paired (SpV H) xs ss
theorem SpsV.keep {H H' : Hp} {xs : List V} {ss : List Spn} (k : Tk H H') (h : SpsV H xs ss) : SpsV H' xs ss := Paired.mapP h fun _ _ z => z.keep k
theorem SpsV.app {H : Hp} {xs ys : List V} {rs qs : List Spn} (h : SpsV H xs rs) (h' : SpsV H ys qs) : SpsV H (xs ++ ys) (rs ++ qs) := pairedApp h h'
/-! ### exits -/
abbrev Ext := Nat × Bool
def exF (n : Nat) (row : Row) (r : Int) : List Ext := (if row.f.2 = r then [(n, false)] else []) ++ (if row.o.2 = r then [(n, true)] else [])
def exitsM (rs : List Row) (r : Int) (n : Nat) : List Ext := match rs with
  | [] => []
  | row :: t => exF n row r ++ exitsM t r (n + 1)
theorem exitsM_app (r : Int) : ∀ (a b : List Row) (n : Nat), exitsM (a ++ b) r n = exitsM a r n ++ exitsM b r (n + a.length)
  | [], b, n => by simp [exitsM]
  | x :: a, b, n => by
    simp [exitsM, exitsM_app r a b]
    have e : n + 1 + a.length = n + (a.length + 1) := by omega
    rw [e]
theorem exitsM_snoc {rs : List Row} {r : Int} {i : Nat} {row : Row} (h : rs[i]? = some row) : exitsM (rs.take (i + 1)) r 0 = exitsM (rs.take i) r 0 ++ exF i row r := by
  have hi : i < rs.length := by
    rcases Nat.lt_or_ge i rs.length with c | c
    · exact c
    · rw [List.getElem?_eq_none_iff.mpr c] at h; cases h
  rw [List.take_add_one, h, exitsM_app]
  simp [exitsM, Nat.min_eq_left (Nat.le_of_lt hi)]
theorem exF_len (n : Nat) (row : Row) (r : Int) : (exF n row r).length ≤ 2 := by
  unfold exF
  split <;> split <;> simp
theorem exitsM_len (r : Int) : ∀ (rs : List Row) (n : Nat), (exitsM rs r n).length ≤ 2 * rs.length
  | [], n => by simp [exitsM]
  | x :: a, n => by
    have := exitsM_len r a (n + 1)
    have := exF_len n x r
    simp [exitsM]; omega
def ExV (H : Hp) (v : V) (e : Ext) : Prop := ∃ p : Addr, v = .ref p ∧ H p = some (.tup [.int (e.1 : Nat), .bl e.2])
theorem ExV.keep {H H' : Hp} {v : V} {s : Ext} (k : Tk H H') (h : ExV H v s) : ExV H' v s := by
  obtain ⟨p, e, h⟩ := h
  exact ⟨p, e, k _ _ h⟩
def ExsV (H : Hp) (xs : List V) (es : List Ext) : Prop := Paired (ExV H) xs es
theorem ExsV.keep {H H' : Hp} {xs : List V} {ss : List Ext} (k : Tk H H') (h : ExsV H xs ss) : ExsV H' xs ss := Paired.mapP h fun _ _ z => z.keep k
theorem ExsV.app {H : Hp} {xs ys : List V} {rs qs : List Ext} (h : ExsV H xs rs) (h' : ExsV H ys qs) : ExsV H (xs ++ ys) (rs ++ qs) := pairedApp h h'
/-! ### repeats -/
abbrev Rp := Spn × List Ext
def rpsM (its : List It) : List Rp := (List.range (repsL its)).map fun i => ((spansL its 0).getD i (0, 0), exitsM (rowsM its) (i : Nat) 0)
theorem rpsM_len (its : List It) : (rpsM its).length = repsL its := by simp [rpsM]
theorem rpsM_at {its : List It} {i : Nat} {s : Spn} (h : (spansL its 0)[i]? = some s) : (rpsM its)[i]? = some (s, exitsM (rowsM its) (i : Nat) 0) := by
  have hi : i < (spansL its 0).length := by
    rcases Nat.lt_or_ge i (spansL its 0).length with c | c
    · exact c
    · rw [List.getElem?_eq_none_iff.mpr c] at h; cases h
  rw [spansL_len] at hi
  unfold rpsM
  rw [List.getElem?_map, List.getElem?_range hi]
  simp [h]
def RpV (H : Hp) (v : V) (r : Rp) : Prop := ∃ (p t : Addr) (xs : List V), v = .ref p ∧ H p = some (.tup [.int (r.1.1 : Nat), .int r.1.2, .ref t]) ∧ H t = some (.tup xs) ∧ ExsV H xs r.2
theorem RpV.keep {H H' : Hp} {v : V} {r : Rp} (k : Tk H H') (h : RpV H v r) : RpV H' v r := by
  obtain ⟨p, t, xs, e, h1, h2, h3⟩ := h
  exact ⟨p, t, xs, e, k _ _ h1, k _ _ h2, h3.keep k⟩
def RpsAt (H : Hp) (l : Addr) (rs : List Rp) : Prop := ∃ xs, H l = some (.lst xs) ∧ Paired (RpV H) xs rs
theorem RpsAt.kp {H H' : Hp} {l : Addr} {rs : List Rp} (h : RpsAt H l rs) (k : Tk H H') (e : ∀ xs, H l = some (.lst xs) → H' l = some (.lst xs)) : RpsAt H' l rs := by
  obtain ⟨xs, h1, h2⟩ := h
  exact ⟨xs, e _ h1, Paired.mapP h2 fun _ _ z => z.keep k⟩
end Kr

set_option Elab.async false
set_option linter.all false
set_option maxRecDepth 100000
set_option maxHeartbeats 2000000
namespace Kr
open PySem PySem.Spec PyProof.Rows L2
open SX (S)
/-! ### spans while one reads -/
def gsp : List Grp → List Spn × Nat × List Nat
  | [] => ([], 0, [])
  | g :: r =>
    if g.c = 40 then ((gsp r).1 ++ spansL g.o (gsp r).2.1 ++ [((gsp r).2.1 + (keysL g.o).length, (((gsp r).2.1 + (keysL g.o).length : Nat) : Int))], (gsp r).2.1 + (keysL g.o).length, (gsp r).2.2 ++ [((gsp r).1 ++ spansL g.o (gsp r).2.1).length])
    else match g.f with
      | none => ((gsp r).1 ++ spansL g.o (gsp r).2.1, (gsp r).2.1 + (keysL g.o).length, (gsp r).2.2)
      | some f => ((gsp r).1 ++ spansL g.o (gsp r).2.1 ++ spansL f ((gsp r).2.1 + (keysL g.o).length), (gsp r).2.1 + (keysL g.o).length + (keysL f).length, (gsp r).2.2)
/-- the spans so far, the number of keys so far -/
def spSo (gs : List Grp) (cur : List It) : List Spn := (gsp gs).1 ++ spansL cur (gsp gs).2.1
def nuSo (gs : List Grp) (cur : List It) : Nat := (gsp gs).2.1 + (keysL cur).length
theorem so_key (gs : List Grp) (cur : List It) (k : List Nat) : spSo gs (cur ++ [.key k]) = spSo gs cur ∧ nuSo gs (cur ++ [.key k]) = nuSo gs cur + 1 := by
  unfold spSo nuSo
  rw [spansL_app, keysL_app]
  simp [spansL, It.spans, keysL, It.keys]
  omega
theorem so_rep (gs : List Grp) (cur : List It) : spSo (⟨40, cur, none⟩ :: gs) [] = spSo gs cur ++ [(nuSo gs cur, (nuSo gs cur : Int))] ∧ nuSo (⟨40, cur, none⟩ :: gs) [] = nuSo gs cur ∧ (gsp (⟨40, cur, none⟩ :: gs)).2.2 = (gsp gs).2.2 ++ [(spSo gs cur).length] := by
  simp [spSo, nuSo, gsp, spansL, keysL]
theorem so_cho (gs : List Grp) (cur : List It) : spSo (⟨91, cur, none⟩ :: gs) [] = spSo gs cur ∧ nuSo (⟨91, cur, none⟩ :: gs) [] = nuSo gs cur ∧ (gsp (⟨91, cur, none⟩ :: gs)).2.2 = (gsp gs).2.2 := by
  simp [spSo, nuSo, gsp, spansL, keysL]
theorem so_bar {g : Grp} (r : List Grp) (cur : List It) (hc : g.c = 91) (hf : g.f = none) : spSo (⟨g.c, g.o, some cur⟩ :: r) [] = spSo (g :: r) cur ∧ nuSo (⟨g.c, g.o, some cur⟩ :: r) [] = nuSo (g :: r) cur ∧ (gsp (⟨g.c, g.o, some cur⟩ :: r)).2.2 = (gsp (g :: r)).2.2 := by
  simp [spSo, nuSo, gsp, spansL, keysL, hc, hf]
theorem so_end {g : Grp} (r : List Grp) (cur f : List It) (hc : g.c = 91) (hf : g.f = some f) : spSo r (g.o ++ [.cho f cur]) = spSo (g :: r) cur ∧ nuSo r (g.o ++ [.cho f cur]) = nuSo (g :: r) cur ∧ (gsp r).2.2 = (gsp (g :: r)).2.2 := by
  simp [spSo, nuSo, gsp, spansL, keysL, hc, hf, spansL_app, keysL_app, It.spans, It.keys, Nat.add_assoc]
theorem so_close {g : Grp} (r : List Grp) (cur : List It) (hc : g.c = 40) : ∃ (A B : List Spn) (m : Nat) (z : Int), spSo (g :: r) cur = A ++ (m, z) :: B ∧ (gsp (g :: r)).2.2 = (gsp r).2.2 ++ [A.length] ∧ spSo r (g.o ++ [.rep cur]) = A ++ (m, (nuSo (g :: r) cur : Int) - 1) :: B ∧ nuSo r (g.o ++ [.rep cur]) = nuSo (g :: r) cur := by
  refine ⟨(gsp r).1 ++ spansL g.o (gsp r).2.1, spansL cur ((gsp r).2.1 + (keysL g.o).length), (gsp r).2.1 + (keysL g.o).length, (((gsp r).2.1 + (keysL g.o).length : Nat) : Int), by simp [spSo, gsp, hc], by simp [gsp, hc], ?_, ?_⟩
  · simp [spSo, nuSo, gsp, hc, spansL_app, It.spans, spansL]
  · simp [nuSo, gsp, hc, keysL_app, It.keys, keysL, Nat.add_assoc]
theorem brk_124' {gs g2 : List Grp} {its i2 : List It} (h : brk 124 gs its = some (g2, i2)) : ∃ g r, gs = g :: r ∧ g2 = ⟨g.c, g.o, some its⟩ :: r ∧ i2 = [] ∧ g.c = 91 ∧ g.f = none := by
  unfold brk at h
  rw [if_neg (by decide)] at h
  split at h
  · cases h
  · rename_i g r
    rw [if_neg (by intro z; cases z.1)] at h
    split at h
    · rename_i hc
      cases h
      exact ⟨g, r, rfl, rfl, rfl, hc.2.1, by simpa using hc.2.2.1⟩
    · rw [if_neg (by intro z; cases z.1)] at h
      cases h
theorem rd_top {ca : Bool} {n m : Nat} {gs : List Grp} {its r : List It} (h : rd ca m n [] gs its = .inr r) : gs = [] ∧ its = r := by
  rw [rd_nil] at h
  cases gs with
  | nil => cases h; exact ⟨rfl, rfl⟩
  | cons g t => cases h
theorem gsp_w : ∀ gs : List Grp, (gsp gs).2.2.length ≤ gs.length
  | [] => by simp [gsp]
  | g :: r => by
    have := gsp_w r
    simp only [gsp]
    split
    · simp; omega
    · split <;> simp <;> omega
theorem gsp_l : ∀ gs : List Grp, (gsp gs).1.length ≤ Gz gs + gs.length
  | [] => by simp [gsp, Gz]
  | g :: r => by
    have := gsp_l r
    have := repsL_sz g.o
    simp only [gsp, Gz]
    split
    · simp [spansL_len]; omega
    · split
      · rename_i h; simp [spansL_len]; omega
      · rename_i f h
        have := repsL_sz f
        rw [h]
        simp [spansL_len]; omega
theorem so_len {i : Nat} {gs : List Grp} {cur : List It} (o : RdOk i gs cur) : (spSo gs cur).length ≤ i + 8 ∧ (gsp gs).2.2.length ≤ 8 := by
  have h1 := gsp_l gs
  have h2 := gsp_w gs
  have h3 := o.z
  have h4 := o.d
  have h5 := repsL_sz cur
  unfold spSo
  simp [spansL_len]; omega
/-! ### spans as lists -/
def LsV (H : Hp) (p : Addr) (s : Spn) : Prop := H p = some (.lst [.int (s.1 : Nat), .int s.2])
structure LsAt (H0 H : Hp) (sl wl : Addr) (ss : List Spn) (W : List Nat) (ps : List Addr) : Prop where
  s : Same H0 H
  f1 : H0 sl = none
  f2 : H0 wl = none
  ne : sl ≠ wl
  hs : H sl = some (.lst (ps.map V.ref))
  hw : H wl = some (.lst (W.map fun i => V.int (i : Nat)))
  nd : ps.Nodup
  nin : ∀ p ∈ ps, p ≠ sl ∧ p ≠ wl ∧ H0 p = none
  pv : Paired (LsV H) ps ss
theorem pairedMem {α β : Type} {R : α → β → Prop} {a : List α} {b : List β} (h : Paired R a b) : ∀ p ∈ a, ∃ y, R p y := by
  induction h with
  | nil => intro p hp; cases hp
  | cons r _ ih =>
    intro p hp
    rcases List.mem_cons.mp hp with rfl | hp
    · exact ⟨_, r⟩
    · exact ih p hp
theorem pairedImp {α β : Type} {R R' : α → β → Prop} {a : List α} {b : List β} (h : Paired R a b) : (∀ p ∈ a, ∀ y, R p y → R' p y) → Paired R' a b := by
  induction h with
  | nil => intro _; exact .nil
  | cons r _ ih => exact fun k => .cons (k _ (by simp) _ r) (ih fun p hp y z => k p (by simp [hp]) y z)
theorem pairedSet {α β : Type} {R : α → β → Prop} : ∀ {A B : List β} {ps : List α} {s : β}, Paired R ps (A ++ s :: B) → ∃ p, ps[A.length]? = some p ∧ R p s ∧ ∀ (R' : α → β → Prop) (s' : β), ps.Nodup → (∀ q ∈ ps, ∀ y, q ≠ p → R q y → R' q y) → R' p s' → Paired R' ps (A ++ s' :: B)
  | [], B, ps, s, h => by
    cases h with
    | cons r t =>
      rename_i p ps'
      refine ⟨p, rfl, r, fun R' s' nd hk hp => .cons hp ?_⟩
      have hn : p ∉ ps' := (List.nodup_cons.mp nd).1
      exact pairedImp t fun q hq y z => hk q (by simp [hq]) y (fun e => hn (e ▸ hq)) z
  | a :: A, B, ps, s, h => by
    cases h with
    | cons r t =>
      rename_i q ps'
      obtain ⟨p, hp, hr, hk⟩ := pairedSet t
      refine ⟨p, by simpa using hp, hr, fun R' s' nd k1 k2 => .cons (k1 _ (by simp) _ ?_ r) (hk R' s' (List.nodup_cons.mp nd).2 (fun q hq y => k1 q (by simp [hq]) y) k2)⟩
      intro e
      subst e
      exact (List.nodup_cons.mp nd).1 (List.mem_of_getElem? hp)
theorem LsAt.new {H0 H : Hp} {sl wl : Addr} {ss : List Spn} {W : List Nat} {ps : List Addr} (L : LsAt H0 H sl wl ss W ps) {q : Addr} {m : Nat} (hq : upd H wl (.lst ((W ++ [ss.length]).map fun i => V.int (i : Nat))) q = none) :
    LsAt H0 (upd (upd (upd H wl (.lst ((W ++ [ss.length]).map fun i => V.int (i : Nat)))) q (.lst [.int (m : Nat), .int (m : Nat)])) sl (.lst ((ps ++ [q]).map V.ref))) sl wl (ss ++ [(m, (m : Int))]) (W ++ [ss.length]) (ps ++ [q]) := by
  obtain ⟨s, f1, f2, ne, hs, hw, nd, nin, pv⟩ := L
  obtain ⟨q1, q2⟩ := updNone hq
  have q3 : q ≠ sl := (ne_of_none hs q2).symm
  have q4 : q ∉ ps := fun z => by
    obtain ⟨y, e⟩ := pairedMem pv q z
    have e' : H q = some _ := e
    rw [q2] at e'; cases e'
  refine ⟨sMut (sNew (sMut s f2) hq) f1, f1, f2, ne, upd_same, ?_, ?_, ?_, ?_⟩
  · rw [upd_ne ne.symm, upd_ne q1.symm, upd_same]
  · rw [List.nodup_append]
    refine ⟨nd, by simp, ?_⟩
    intro a ha b hb
    simp at hb
    subst hb
    exact fun e => q4 (e ▸ ha)
  · intro p hp
    rcases List.mem_append.mp hp with h | h
    · exact nin p h
    · simp at h
      subst h
      exact ⟨q3, q1, s.free q2⟩
  · refine pairedApp ?_ (.cons ?_ .nil)
    · refine pairedImp pv fun p hp y r => ?_
      obtain ⟨n1, n2, _⟩ := nin p hp
      have n3 : p ≠ q := fun e => q4 (e ▸ hp)
      show upd _ _ _ _ = _
      rw [upd_ne n1, upd_ne n3, upd_ne n2]; exact r
    · show upd _ _ _ _ = _
      rw [upd_ne q3, upd_same]
theorem LsAt.close {H0 H : Hp} {sl wl : Addr} {A B : List Spn} {m : Nat} {z z' : Int} {W : List Nat} {ps : List Addr} (L : LsAt H0 H sl wl (A ++ (m, z) :: B) (W ++ [A.length]) ps) :
    ∃ p, ps[A.length]? = some p ∧ H p = some (.lst [.int (m : Nat), .int z]) ∧ p ≠ sl ∧ p ≠ wl ∧ LsAt H0 (upd (upd H wl (.lst (W.map fun i => V.int (i : Nat)))) p (.lst [.int (m : Nat), .int z'])) sl wl (A ++ (m, z') :: B) W ps := by
  obtain ⟨s, f1, f2, ne, hs, hw, nd, nin, pv⟩ := L
  obtain ⟨p, hp, hr, k⟩ := pairedSet pv
  obtain ⟨n1, n2, n3⟩ := nin p (List.mem_of_getElem? hp)
  refine ⟨p, hp, hr, n1, n2, sMut (sMut s f2) n3, f1, f2, ne, ?_, ?_, nd, nin, k _ _ nd (fun q hq y hne hy => ?_) ?_⟩
  · rw [upd_ne n1.symm, upd_ne ne]; exact hs
  · rw [upd_ne n2.symm, upd_same]
  · show upd _ _ _ _ = _
    rw [upd_ne hne, upd_ne (nin q hq).2.1]; exact hy
  · exact upd_same
end Kr

set_option Elab.async false
set_option linter.all false
set_option maxRecDepth 100000
set_option maxHeartbeats 2000000
namespace Kr
open PySem PySem.Spec PyProof.Rows L2
open SX (S)
/-! ### repr of texts -/
def rpr (a : List Nat) : List Nat := (reprText (S a)).cps.toList
theorem rpr_S (a : List Nat) : reprText (S a) = S (rpr a) := (SX.S_tl _).symm
theorem rpr_len {a : List Nat} (h : ∀ c ∈ a, c ∈ sgn) : (rpr a).length ≤ 10 * a.length + 2 := by
  have all : ∀ c ∈ sgn, c < 16 ^ 8 := by decide
  have := StrLaws.reprText_len (S a) (fun c hc => all c (h c (by simpa [S] using hc)))
  rw [rpr_S, SX.S_len, SX.S_len] at this
  exact this
section
variable {X : Cx}
def rReprS : List V → Hp → VK → Prop := fun xs H Q => ∃ a : List Nat, xs = [.str (S a)] ∧ (∀ c ∈ a, c ∈ sgn) ∧ a.length ≤ 1000 ∧ Q (.str (S (rpr a))) H
theorem call_reprS : CallR X (.builtin "repr") rReprS := by
  intro pins s σ H xs us Q I r h
  obtain ⟨a, rfl, ha, hl, q⟩ := h
  obtain ⟨u, rfl, t, rfl⟩ := vals1 r
  have hz : (reprText (S a)).length ≤ sizeLine := by
    rw [rpr_S, SX.S_len]
    exact leSz (by have := rpr_len ha; omega)
  exact PySem.P.repr_of_str ⟨.str _, H, I.tok _, ⟨_, rfl⟩, by rw [rpr_S]; exact q⟩ hz
end
end Kr

set_option Elab.async false
set_option linter.all false
set_option maxRecDepth 100000
set_option maxHeartbeats 2000000
/-! ### fields with a width -/
namespace Kr
open PySem PySem.Spec PyProof.Rows L2
open SX (S)
open Builtin Builtin.Float Builtin.Str
def f3 : FormatSpec := { fill := 32, align := 62, width := some 3 }
def f4 : FormatSpec := { fill := 32, align := 60, width := some 4 }
theorem f3_ok : parseFormatSpec ([62, 51] : List Nat) "int" 62 = .ok f3 := by rfl
theorem f4_ok : parseFormatSpec ([60, 52] : List Nat) "str" 60 = .ok f4 := by rfl
section
variable {prog : Program} {w : World} {A : Around} {E : Value → Shared → Prop} {s : Shared} {t : Tok}
theorem fmt3 {a : Int} {Q : Value → Shared → Prop} (h0 : a.natAbs.log2 < 1920) (hL : (intSpecText f3 a).length ≤ sizeLine) (h : ∀ t' k, Q (.str (intSpecText f3 a) t') { s with toks := k }) :
    wpAny (model prog w) A (formatField (.int a t) (S [62, 51])) Q E s := by
  refine PySem.W.KXf.field_int (spec' := S [62, 51]) rfl (by decide) (by decide) (fun u => ?_) h
  apply PySem.W.KPc.meets_of
  intro p' w' A' s' R' E' hq
  unfold Builtin.«int.__format__»
  refine wpAny_bind (wpAny_of_eq (a := (_, _)) rfl ?_)
  refine wpAny_bind (wpAny_of_eq (a := _) rfl ?_)
  show wpAny _ _ (if (Value.str (S [62, 51]) u == Value.none) = true then _ else _) _ _ _
  rw [if_neg (by intro z; cases z)]
  refine wpAny_bind (wpAny_typeNameOf (T := "str") (typeIs_str _ _ _) (by decide) fun _ => ?_)
  refine wpAny_bind (wpAny_of_eq (a := some _) rfl ?_)
  show wpAny _ _ (if ((S [62, 51]).length == 0) = true then _ else _) _ _ _
  rw [if_neg (by decide)]
  show wpAny _ _ (if (((S [62, 51]).cps.toList.drop 1).any (· ≥ 128) || _) = true then _ else _) _ _ _
  rw [if_neg (by decide)]
  refine wpAny_bind (wpAny_typeNameOfCut_int ?_)
  rw [show (S [62, 51]).cps.toList = [62, 51] from rfl, f3_ok]
  dsimp only
  rw [if_pos (by decide)]
  show wpAny _ _ (do let r ← Builtin.overDigitLimit? a; _) _ _ _
  refine wpAny_bind (wpAny_of_eq (PyProof.Rows.overDigitLimit_small h0) ?_)
  refine PySem.W.KXf.ret_text ?_ ?_ hq
  · unfold intSpecText intField'
    rfl
  · unfold intSpecText intField' at hL
    exact hL
theorem fmt4 {l : List Nat} {Q : Value → Shared → Prop} (hl : l.length ≤ 3) (h : ∀ t' k, Q (.str (S (l ++ List.replicate (4 - l.length) 32)) t') { s with toks := k }) :
    wpAny (model prog w) A (formatField (.str (S l) t) (S [60, 52])) Q E s := by
  refine PySem.W.KXf.field_str (spec' := S [60, 52]) (x' := S l) rfl rfl (by decide) (by decide) (fun u => ?_) h
  apply PySem.W.KPc.meets_of
  intro p' w' A' s' R' E' hq
  unfold Builtin.«str.__format__»
  refine wpAny_bind (wpAny_of_eq (a := (_, _, _)) rfl ?_)
  refine wpAny_bind (wpAny_of_eq (a := some _) rfl ?_)
  show wpAny _ _ (if ((S [60, 52]).length == 0) = true then _ else _) _ _ _
  rw [if_neg (by decide)]
  show wpAny _ _ (if (((S [60, 52]).cps.toList.drop 1).any (· ≥ 128) || _) = true then _ else _) _ _ _
  rw [if_neg (by decide)]
  refine wpAny_bind (PySem.W.KXf.cut_str ?_)
  have e : (do
      let f ← parseFormatSpec (S [60, 52]).cps.toList "str" 60
      let f := if f.type.isNone && (S [60, 52]).cps.back? == some 0 then { f with type := some 0 } else f
      if tooLong (f.width.getD 0) then return none
      return some (← strField (S l) f "str") : Except String (Option (Option Str))) = .ok (some (some (S (l ++ List.replicate (4 - l.length) 32)))) := by
    rw [show (S [60, 52]).cps.toList = [60, 52] from rfl, f4_ok]
    have hp : strField (S l) f4 "str" = .ok (some (S (l ++ List.replicate (4 - l.length) 32))) := by
      match l, hl with
      | [], _ => rfl
      | [_], _ => rfl
      | [_, _], _ => rfl
      | [_, _, _], _ => rfl
    show (do
      if tooLong 4 then return none
      return some (← strField (S l) f4 "str") : Except String (Option (Option Str))) = _
    rw [hp]
    rfl
  dsimp only at e ⊢
  rw [e]
  refine PySem.W.KXf.ret_text rfl ?_ hq
  rw [SX.S_len]
  refine leSz ?_
  simp
  omega
end
/-- a number below a hundred in 3 columns from the right -/
def r3 (n : Nat) : List Nat := if n < 10 then [32, 32, 48 + n] else [32, 48 + n / 10, 48 + n % 10]
theorem r3_ok : ∀ n : Fin 100, intSpecText f3 (n.val : Int) = S (r3 n.val) := by decide +kernel
section
variable {X : Cx}
/-- {i:>3} -/
def tFmt3 (te : TE) : TE := fun σ H Q => te σ H fun x H1 => ∃ n : Nat, x = .int (n : Int) ∧ n < 100 ∧ Q (.str (S (r3 n))) H1
theorem pe_fmt3 {e : Expr} {te : TE} {x : Str} {j : Nat} {p1 p2 pos : Pos} (hx : x = S [62, 51]) (he : PE X e te) : PE X (.FormattedValue e (-1) (some (.JoinedStr [.Constant (.str x) j p1] p2)) pos) (tFmt3 te) := by
  subst hx
  refine ⟨fun pins s σ H Q I h => ?_⟩
  refine wpAny_FormattedValue_spec (thn (he.run pins s σ H _ I h) fun v s1 hv => ?_)
  obtain ⟨x, H1, I1, r1, n, rfl, hn, q⟩ := hv
  obtain ⟨t, rfl⟩ := r1
  refine wpAny_JoinedStr_one (Calls.Constant_str ⟨_, _, rfl, ?_⟩)
  have e := r3_ok ⟨n, hn⟩
  dsimp only at e
  refine fmt3 ?_ ?_ fun t' k => ?_
  · have : n.log2 ≤ n := Nat.log2_le_self n
    show n.log2 < 1920
    omega
  · rw [e, SX.S_len]
    unfold r3
    split <;> exact leSz (by simp)
  · rw [e]
    exact ⟨.str (S (r3 n)), H1, I1.tok _, ⟨_, rfl⟩, q⟩
/-- {x:<4} -/
def tFmt4 (te : TE) : TE := fun σ H Q => te σ H fun x H1 => ∃ l : List Nat, x = .str (S l) ∧ l.length ≤ 3 ∧ Q (.str (S (l ++ List.replicate (4 - l.length) 32))) H1
theorem pe_fmt4 {e : Expr} {te : TE} {x : Str} {j : Nat} {p1 p2 pos : Pos} (hx : x = S [60, 52]) (he : PE X e te) : PE X (.FormattedValue e (-1) (some (.JoinedStr [.Constant (.str x) j p1] p2)) pos) (tFmt4 te) := by
  subst hx
  refine ⟨fun pins s σ H Q I h => ?_⟩
  refine wpAny_FormattedValue_spec (thn (he.run pins s σ H _ I h) fun v s1 hv => ?_)
  obtain ⟨x, H1, I1, r1, l, rfl, hl, q⟩ := hv
  obtain ⟨t, rfl⟩ := r1
  refine wpAny_JoinedStr_one (Calls.Constant_str ⟨_, _, rfl, ?_⟩)
  exact fmt4 hl fun t' k => ⟨.str (S (l ++ List.replicate (4 - l.length) 32)), H1, I1.tok _, ⟨_, rfl⟩, q⟩
end
end Kr

set_option Elab.async false
set_option linter.all false
set_option maxRecDepth 100000
set_option maxHeartbeats 2000000
/-! ### where a token is out: loops, stores, replace -/
namespace Kr
open PySem PySem.Spec PyProof.Rows L2
open SX (S)
section
variable {X : Cx}
theorem one {α : Type} {M : Model} {A : Around} {s : Shared} {t : Sem α} {Q : α → Shared → Prop} {E : Value → Shared → Prop} (h1 : 1 ≤ s.toks) (h : wpAny M A t Q E s) : wpAny M A t (fun a s' => 1 ≤ s'.toks ∧ Q a s') E s :=
  wpAny_mono (wpAny_toks_of h1 h) (fun _ _ z => z) fun _ _ z => z.2
theorem pst_forT {tg iter : Expr} {body : List Stmt} {wi : TI} {g : TG} {tb : TS} {pos : Pos} (hp : PassesOwn (model X.prog X.w) X.A X.env X.xe) (hc : X.calm = true) (hi : PI X tg iter wi) (hg : PG X tg g) (hb : PSsT X body tb)
    (hs : ∀ x, foldedSetIterable iter X.env x = pure x := by intro _; rfl) : PST X (.For tg iter body [] pos) (tFor wi g tb) := by
  intro pins s σ H D h0 I h
  refine wpAny_For (thn (one h0 (hi.run pins s σ H _ I h)) fun v s1 ⟨k1, h1⟩ => thn (one k1 h1) fun itv s2 ⟨k2, h2⟩ => ?_) hs
  obtain ⟨it, fp, tn, J, H2, e, I2, T, st2, f2, W, ⟨m0, w0⟩, turn⟩ := h2
  subst e
  have fr : ∀ {H' : Hp}, (∀ b ∈ fp, H' b = none) → ∀ b ∈ fp, FpOk X pins H' b := fun hn b hb => ⟨hn b hb, (f2 b hb).2⟩
  refine codeAny_forLoop_any (fun n s' => ∃ i σ' H', 1 ≤ s'.toks ∧ Inv X pins σ' H' s' ∧ tn i s'.heap ∧ (∀ b ∈ fp, H' b = none) ∧ W i n σ' H') ?_ m0 ⟨0, σ, H2, k2, I2, st2, fun b hb => (f2 b hb).1, w0⟩
  rintro n s3 ⟨i, σ3, H3, k3, I3, st3, fr3, w3⟩
  rcases turn i n σ3 H3 w3 with ⟨stop, qn⟩ | ⟨go, N, hN, step⟩
  · refine wpAny_passesOwn hp (thn (T.done X rfl rfl rfl hc i pins s3 σ3 H3 X.xe I3 (fr fr3) st3 stop) fun r s4 ⟨hr, I4⟩ => ?_)
    subst hr
    exact wpAny_execs_nil ⟨σ3, H3, I4, qn⟩
  · refine wpAny_passesOwn hp (thn (one k3 (T.item X rfl rfl rfl hc i pins s3 σ3 H3 X.xe I3 (fr fr3) st3 go)) fun r s4 ⟨k4, u, hr, h4⟩ => ?_)
    subst hr
    refine wpAny_passesOwn hp (thn (one k4 h4) fun _ s5 ⟨k5, x, H5, I5, r5, y5, st5, fr5⟩ => ?_)
    have I5' := I5.pinned (fr fr5) (T.obj _ _ st5)
    refine wpAny_passesOwn hp (thn (one k5 (hg.run _ s5 σ3 H5 x u _ I5' r5 (step x H5 y5))) fun _ s6 ⟨k6, σ6, H6, I6, q6⟩ => ?_)
    refine wpAny_passesOwn hp (thn (one k6 (hb _ s6 σ6 H6 _ k6 I6 q6)) fun f s7 ⟨k7, q7⟩ => ?_)
    have again : ∀ {σ7 : L2.St} {H7 : Hp}, Inv X (pins ++ pinsAt fp s5.heap) σ7 H7 s7 → N σ7 H7 → ∃ m, m < n ∧ ∃ i σ' H', 1 ≤ s7.toks ∧ Inv X pins σ' H' s7 ∧ tn i s7.heap ∧ (∀ b ∈ fp, H' b = none) ∧ W i m σ' H' := fun {σ7 H7} I7 n7 => by
      obtain ⟨m', hm, w7⟩ := hN σ7 H7 n7
      refine ⟨m', hm, i + 1, σ7, H7, k7, I7.unpinned, T.keep _ _ _ st5 fun b hb o e => (I7.pin (b, o) (List.mem_append_right _ (List.mem_append_right _ (mem_pinsAt hb e)))).1, fun b hb => ?_, w7⟩
      obtain ⟨o, e, d⟩ := T.obj _ _ st5 b hb
      exact (I7.pin (b, o) (List.mem_append_right _ (List.mem_append_right _ (mem_pinsAt hb e)))).2.1
    cases f with
    | next => obtain ⟨σ7, H7, I7, n7⟩ := q7; exact again I7 n7
    | cont => obtain ⟨σ7, H7, I7, n7⟩ := q7; exact again I7 n7
    | brk => obtain ⟨σ7, H7, I7, q7⟩ := q7; exact ⟨σ7, H7, I7.unpinned, q7⟩
    | ret v => obtain ⟨x7, σ7, H7, I7, r7, q7⟩ := q7; exact ⟨x7, σ7, H7, I7.unpinned, r7, q7⟩
theorem pst_set {i : Nat} {x : Str} {e : Expr} {te : TE} {pos pos' : Pos} (hN : X.N.Nodup) (hi : X.N[i]? = some x) (hx : Loc X.env.scope x) (he : PET X e te) (hs : swapsWith e (some (.Name x pos')) pos.line X.env = pure false := by rfl) (hf : X.fn x = true ∨ X.env.scope.names.lookup x = some .local := by first | exact .inl rfl | exact .inr rfl | assumption) :
    PST X (.Assign [.Name x pos'] e pos) (tAsg te (gName i)) := by
  intro pins s σ H D h0 I h
  refine wpAny_Assign_Name (thn (he pins s σ H _ h0 I h) fun v s1 ⟨y, H1, I1, r1, q1⟩ => ?_) hs
  exact store_ok I1 hN hi hx r1 (fun s2 I2 => ⟨_, H1, I2, q1⟩) hf
end
/-! e.replace(y, z), texts written out -/
theorem replace_S (x y z : List Nat) (hy : 1 ≤ y.length) : Txt.replace (S x) (S y) (S z) = S (StrLaws.replL y z x) := by
  have e := StrLaws.replace_list (x := S x) (y := S y) (z := S z) (by rw [SX.S_len]; exact hy)
  generalize Txt.replace (S x) (S y) (S z) = r at e ⊢
  obtain ⟨⟨a⟩⟩ := r
  simp only [S] at e ⊢
  rw [e]
def tReplS (to : TE) (y z : List Nat) : TE := fun σ H Q => to σ H fun v H1 => ∃ x : List Nat, v = .str (S x) ∧ x.length ≤ 100000 ∧ Q (.str (S (StrLaws.replL y z x))) H1
theorem pet_replS {X : Cx} {o : Expr} {to : TE} {y z : Str} {j k : Nat} {c0 c1 apos pos : Pos} (ly lz : List Nat) (ho : PE X o to) (ey : y = S ly := by decide +kernel) (ez : z = S lz := by decide +kernel) (h1 : 1 ≤ ly.length := by decide) (h2 : lz.length ≤ 10 := by decide) (hyz : (y == z) = false := by decide)
    (hst : starEach [.Constant (.str y) j c0, .Constant (.str z) k c1] X.env = [(false, eval (.Constant (.str y) j c0) X.env), (false, eval (.Constant (.str z) k c1) X.env)] := by rfl)
    (hba : attributeBase o "replace" X.env (eval o X.env) = eval o X.env := by rfl) (hli : (apos.endLine == pos.line) = true := by rfl) :
    PET X (.Call (.Attribute o "replace" apos) [.Constant (.str y) j c0, .Constant (.str z) k c1] [] pos) (tReplS to ly lz) := by
  subst ey ez
  intro pins s σ H Q h0 I h
  refine PySem.Call_method2 hba hst hli (thn (one h0 (ho.run pins s σ H _ I h)) fun v s1 ⟨hk, v', H1, I1, r1, x, e1, hb, q⟩ => ?_)
  subst e1
  obtain ⟨tx, e2⟩ := r1
  subst e2
  refine ⟨"str", _, PySem.F.plainAttrs_str, PySem.F.slot_str_replace, PySem.F.type_str_replace, typeIs_str _ _ _, (fun _ e => nomatch e), Calls.callWith_builtin rfl (Calls.evalArgs_plain (Calls.spliced_cons ?_))⟩
  refine Calls.Constant_str (Calls.spliced_cons (Calls.Constant_str (Calls.spliced_nil ?_)))
  refine PySem.SC.replace (by show s1.toks ≠ 0; omega) (by show s1.toks + 1 ≠ 0; omega) (by show s1.toks ≠ s1.toks + 1; omega) hyz ?_ fun t' k => ⟨.str (Txt.replace (S x) (S ly) (S lz)), H1, I1.tok k, ⟨t', rfl⟩, ?_⟩
  · rw [SX.S_len, SX.S_len]
    have : (x.length + 1) * lz.length ≤ (x.length + 1) * 10 := Nat.mul_le_mul_left _ h2
    omega
  · rw [replace_S _ _ _ h1]
    exact q
theorem okT {P : Program} {w : World} {K : PySem.W.Frag} {mg : Str → Option Value} {base : Heap} {x qual : Str} {params : Arguments} {body : List Stmt} {scope : Scope} {dvs : List V} {kws : List (Str × V)} {f : Addr} {fd : FuncData} {CX : CXT} {N ps : List Str} {k : Nat} {sp : Sp}
    (F : FunD K x qual params body scope dvs kws f fd) (Sc : FnScope N ps scope) (hnc : ∀ y ∈ scope.names, y.2 ≠ .cell) (hps : 1 ≤ ps.length) (len : ∀ vs H Q E, sp vs H Q E → vs.length = ps.length)
    (hbody : ∀ (cdv : Value) (A : Around) (outer : List Env) (s : Shared) (H : Hp) (vs : List V) (Q : VK) (E : XK), Room k (A.deeper (envOfC qual scope s.heap.objs.size f cdv)) → sp vs H Q E →
      ∃ t, PSsT (cxOf CX P w K mg base N qual scope f cdv A outer s H E) body t ∧ t { nx := fun _ H' => Q .non H', rt := Q } (start N vs) H) : FnOk P w K mg base CX (k + 1) f fd ps sp := by
  obtain ⟨oc, od, dV, kV, doc, pm, an, cdv, ct, osl, rfl, lk, hcd, _, _⟩ := F.ex
  exact fn_ofT lk hcd Sc hnc hps len fun A outer s H vs Q E hr hsp => hbody cdv A outer s H vs Q E hr hsp
/-! text * number -/
theorem mulS (a : List Nat) (n : Int) : Txt.mul (S a) n = S (List.replicate n.toNat a).flatten := by
  unfold Txt.mul
  by_cases h1 : n < 1
  · rw [if_pos h1, show n.toNat = 0 by omega]; rfl
  · rw [if_neg h1]
    by_cases h2 : (n == 1 || (S a).length == 0) = true
    · rw [if_pos h2]
      rw [SX.S_len] at h2
      simp only [Bool.or_eq_true, beq_iff_eq, List.length_eq_zero_iff] at h2
      rcases h2 with rfl | rfl
      · simp
      · simp
    · rw [if_neg h2]
      have key : ∀ (k : Nat) (acc : Array Nat), (List.replicate k (S a).cps).foldl (· ++ ·) acc = acc ++ ((List.replicate k a).flatten).toArray := by
        intro k
        induction k with
        | zero => intro acc; simp
        | succ k ih =>
          intro acc
          rw [List.replicate_succ, List.foldl_cons, ih, List.replicate_succ, List.flatten_cons]
          show acc ++ (S a).cps ++ _ = _
          rw [Array.append_assoc]
          congr 1
          simp [S]
      rw [key]
      simp [S]
def rMulS : R2 := fun x y H Q => ∃ (a : List Nat) (n : Int), x = .str (S a) ∧ y = .int n ∧ -1000000000 < n ∧ n < 1000000000 ∧ a.length * n.toNat ≤ 100000 ∧ Q (.str (S (List.replicate n.toNat a).flatten)) H
theorem op_mulS {X : Cx} : OpR X (binaryOp .Mult) rMulS := by
  intro pins s σ H x y v u Q I rx ry h
  obtain ⟨a, n, rfl, rfl, h1, h2, h3, q⟩ := h
  obtain ⟨t, rfl⟩ := rx
  obtain ⟨t2, rfl⟩ := ry
  refine PySem.SB.mul ⟨?_, fun g1 g2 => ?_, fun g1 g2 => ?_⟩ fun t' k => ?_
  · simp only [Bool.or_eq_false_iff, decide_eq_false_iff_not]
    omega
  · rw [SX.S_len]
    have hn : 0 < n := by omega
    have hl : (a.length : Int) * n ≤ 100000 := by
      have e : n = (n.toNat : Int) := by omega
      rw [e]
      rw [← Int.natCast_mul]; exact Int.ofNat_le.mpr h3
    intro z
    have := Int.lt_of_lt_of_le z (Int.le_refl _)
    have z2 := (Int.ediv_lt_iff_lt_mul hn).mp z
    omega
  · rw [SX.S_len]
    unfold PySem.Builtin.Str.tooLong
    exact decide_eq_false (by have := leSz h3; omega)
  · rw [mulS]
    exact ⟨.str (S (List.replicate n.toNat a).flatten), H, I.tok _, ⟨_, rfl⟩, q⟩
/-! f-strings over lists of code points -/
def tJsS : List TE → List Nat → L2.St → Hp → (List Nat → Hp → Prop) → Prop
  | [], acc, _, H, Q => Q acc H
  | t :: ts, acc, σ, H, Q => t σ H fun x H1 => ∃ y : List Nat, x = .str (S y) ∧ (acc ++ y).length ≤ 100000 ∧ tJsS ts (acc ++ y) σ H1 Q
theorem pj_runS {X : Cx} {pins : List (Addr × Obj)} {σ : L2.St} {es : List Expr} {ts : List TE} (h : PJ X es ts) : ∀ (acc : List Nat) (s : Shared) (H : Hp) (Q : List Nat → Hp → Prop) (R : Str → Shared → Prop), acc.length ≤ 100000 → Inv X pins σ H s → tJsS ts acc σ H Q →
    (∀ out s1 H1, out.length ≤ 100000 → Inv X pins σ H1 s1 → Q out H1 → R (S out) s1) → Joins (model X.prog X.w) X.A X.xe (evalEach es X.env) (S acc) R s := by
  induction h with
  | nil =>
    intro acc s H Q R hz I q k
    have e0 : evalEach [] X.env = [] := by first | rfl | simp [evalEach]
    rw [e0]
    exact k acc s H hz I q
  | @cons e t es ts he r ih =>
    intro acc s H Q R hz I q k
    have e0 : evalEach (e :: es) X.env = eval e X.env :: evalEach es X.env := by first | rfl | simp [evalEach]
    rw [e0]
    refine thn (he.run pins s σ H _ I q) fun v s1 hv => ?_
    obtain ⟨x, H1, I1, r1, y, rfl, hy, q1⟩ := hv
    obtain ⟨tk, rfl⟩ := r1
    refine ⟨S y, tk, rfl, by rw [SX.S_cat, SX.S_len]; exact leSz hy, ?_⟩
    rw [SX.S_cat]
    exact ih (acc ++ y) s1 H1 Q R hy I1 q1 k
theorem pe_joinedS {X : Cx} {v1 v2 : Expr} {rest : List Expr} {ts : List TE} {pos : Pos} (h : PJ X (v1 :: v2 :: rest) ts) : PE X (.JoinedStr (v1 :: v2 :: rest) pos) (fun σ H Q => tJsS ts [] σ H fun out H1 => Q (.str (S out)) H1) := by
  refine ⟨fun pins s σ H Q I q => ?_⟩
  exact wpAny_JoinedStr (pj_runS h [] s H (fun out H1 => Q (.str (S out)) H1) _ (Nat.zero_le _) I q fun out s1 H1 hz I1 q1 => ⟨by rw [SX.S_len]; exact leSz hz, .str (S out), H1, I1.tok _, ⟨_, rfl⟩, q1⟩)
/-! str(n) below a hundred -/
def dg (n : Nat) : List Nat := if n < 10 then [48 + n] else [48 + n / 10, 48 + n % 10]
theorem dg_ok : ∀ n : Fin 100, (Str.ofString (toString (n.val : Int))) = S (dg n.val) := by decide +kernel
def rStrI : List V → Hp → VK → Prop := fun xs H Q => ∃ n : Nat, xs = [.int (n : Int)] ∧ n < 100 ∧ Q (.str (S (dg n))) H
theorem call_strI {X : Cx} : CallR X (.type "str") rStrI := callImp call_str_int fun xs H Q ⟨n, e, hn, q⟩ => by
  refine ⟨n, e, ?_, ?_⟩
  · have : n.log2 ≤ n := Nat.log2_le_self n
    show n.log2 < 1920
    omega
  · have e := dg_ok ⟨n, hn⟩
    dsimp only at e
    rw [e]; exact q
theorem r3_dg (n : Nat) : (List.replicate (3 - (dg n).length) [32]).flatten ++ dg n = r3 n := by
  unfold dg r3
  split <;> rfl
theorem dg_len (n : Nat) : 1 ≤ (dg n).length ∧ (dg n).length ≤ 2 := by
  unfold dg
  split <;> simp
theorem rep1 (n c : Nat) : (List.replicate n [c]).flatten = List.replicate n c := by
  induction n with
  | zero => rfl
  | succ n ih => rw [List.replicate_succ, List.flatten_cons, ih, List.replicate_succ]; rfl
end Kr

set_option Elab.async false
set_option linter.all false
set_option maxRecDepth 100000
set_option maxHeartbeats 2000000
/-! ### making that may raise; own operators -/
namespace Kr
open PySem PySem.Spec PyProof.Rows L2
section
variable {X : Cx} {k j : Nat} {x : Str} {C : Addr} {sp : Sp} {dvs : List V} {e : Expr} {es : List Expr} {t : TA} {p pos : Pos} {W : WX}
theorem mkAt {CX : CXT} {f : Addr} {fd : FuncData} {ps : List Str} {ds : List Value} {E : XK} {pins : List (Addr × Obj)} {σ : L2.St} {H : Hp} {s : Shared} {Q : VK} {us : List Value} {vs : List V} (M : L2.Mk X.K C f) (F : FnOk X.prog X.w X.K X.mg X.base CX k f fd ps sp) (hr : Room (k + 1) X.A) (hb : Binds X.K fd ps ds) (hd : Vals dvs ds)
    (hx : PassesAt CX X σ E) (I : Inv X pins σ H s) (r : Vals vs us)
    (h : ∀ x dx, H x = none → H dx = none → dx ≠ x → sp (.ref x :: (vs ++ dvs)) (upd (upd H dx (.own x)) x (.ins C dx [])) (fun v H2 => v = .non ∧ Q (.ref x) H2) E) :
    wpAny (model X.prog X.w) X.A (call (.ref C) us) (EP X pins σ Q) X.xe s := by
  have hq := h (s.heap.objs.size + 1) s.heap.objs.size (I.hok.fresh (Nat.le_succ _)) (I.hok.fresh (Nat.le_refl _)) (Nat.ne_of_lt (Nat.lt_succ_self _))
  have I2 := Inv.made (C := C) I
  have r2 : Vals (V.ref (s.heap.objs.size + 1) :: (vs ++ dvs)) (Value.ref (s.heap.objs.size + 1) :: (us ++ ds)) := .cons rfl (r.append hd)
  have hl : (Value.ref (s.heap.objs.size + 1) :: us ++ ds).length = ps.length := by
    have e := r2.length
    rw [F.len _ _ _ _ hq] at e
    exact e.symm
  refine wpAny_call (make_map (f := f) I.kIn M.makes M.init (beq_iff_eq.mp M.fn) (codeAny_mono (F.run _ X.stack _ _ ⟨Value.ref (s.heap.objs.size + 1) :: us, []⟩ (Value.ref (s.heap.objs.size + 1) :: (us ++ ds)) _ _ E (hr.make C us [])
    (I2.env0.make C us []) (hb _ (Value.ref (s.heap.objs.size + 1) :: us) I2.kIn hl) r2 hq) fun r s' hq' => ?_))
  cases r with
  | error e => exact hx pins _ _ e s' I2 hq'
  | ok fl =>
    cases fl with
    | ret u =>
      obtain ⟨v, H', I3, rv, ev, q3⟩ := I2.after hq'
      subst ev
      exact ⟨rv, ⟨V.ref (s.heap.objs.size + 1), H', I3, rfl, q3⟩⟩
    | next => exact False.elim hq'
    | brk => exact False.elim hq'
    | cont => exact False.elim hq'
def tMakeX (C : Addr) (sp : Sp) (dvs : List V) (E : L2.St → XK) (t : TA) : TE := fun σ H Q => t σ H fun vs H1 => ∀ x dx, H1 x = none → H1 dx = none → dx ≠ x → sp (.ref x :: (vs ++ dvs)) (upd (upd H1 dx (.own x)) x (.ins C dx [])) (fun v H2 => v = .non ∧ Q (.ref x) H2) (E σ)
theorem kmapx (c : KMap X.prog X.w X.K X.mg X.base k x C sp dvs) (tk : Takes X W) (hr : Room j X.A) (hk : k + 1 ≤ j) (hg : Gl X x) (ha : PA X (e :: es) t)
    (h3 : (x == ("__debug__" : Str)) = false := by decide) (h4 : starEach (e :: es) X.env = (false, eval e X.env) :: starEach es X.env := by rfl) (h5 : (backTo pos (starEach es X.env)).any (·.1) = false := by rfl) :
    PE X (.Call (.Name x p) (e :: es) [] pos) (tMakeX C sp dvs (WE W) t) := by
  obtain ⟨f, fd, ps, ds, M, F, hm, b, d⟩ := c.ex
  refine ⟨fun pins s σ H Q I h => ?_⟩
  refine wpAny_Call_Name_kw (ld_glob I hg hm ?_ h3)
  refine PySem.W.callWith_K (h₀ := X.base) I.ok.mod.kin M.kp (thn (ha.run pos pins s σ H _ I h) fun us s1 ⟨vs, H1, I1, r, q⟩ => ⟨I1.kIn, ?_⟩) h4 h5
  exact mkAt M F (hr.mono hk) b d (passAt tk σ) I1 r q
def tMakeVX (C : Addr) (sp : Sp) (dvs : List V) (E : L2.St → XK) (tf : TE) (t : TA) : TE := fun σ H Q => tf σ H fun v H1 => v = .ref C ∧ tMakeX C sp dvs E t σ H1 Q
theorem kmapVx {y : Str} {tf : TE} (c : KMap X.prog X.w X.K X.mg X.base k y C sp dvs) (tk : Takes X W) (hr : Room j X.A) (hk : k + 1 ≤ j) (hf : PE X (.Name x p) tf) (ha : PA X (e :: es) t)
    (h4 : starEach (e :: es) X.env = (false, eval e X.env) :: starEach es X.env := by rfl) (h5 : (backTo pos (starEach es X.env)).any (·.1) = false := by rfl) :
    PE X (.Call (.Name x p) (e :: es) [] pos) (tMakeVX C sp dvs (WE W) tf t) := by
  obtain ⟨f, fd, ps, ds, M, F, hm, b, d⟩ := c.ex
  refine ⟨fun pins s σ H Q I h => ?_⟩
  refine wpAny_Call_Name_kw (thn (hf.run pins s σ H _ I h) fun u s1 hh => ?_)
  obtain ⟨v, H1, I1, rv, rfl, q⟩ := hh
  obtain rfl : u = Value.ref C := rv
  refine PySem.W.callWith_K (h₀ := X.base) I.ok.mod.kin M.kp (thn (ha.run pos pins s1 σ H1 _ I1 q) fun us s2 hq => ?_) h4 h5
  obtain ⟨vs, H2, I2, r, q2⟩ := hq
  exact ⟨I2.kIn, mkAt M F (hr.mono hk) b d (passAt tk σ) I2 r q2⟩
end
/-! o + o, o * n, n * o -/
section
variable {X : Cx} {k j : Nat} {C : Addr} {sp : Sp} {a b : Expr} {ta tb : TE} {pos : Pos} {W : WX}
theorem cmpB {P : Value → Shared → Prop} {z : V} {v : Value} {s' : Shared} (r : RelV z v) (h : P v s') : PySem.W.CmpBack P v s' := by
  cases z with
  | non => cases (show v = Value.none from r); exact h
  | bl b => cases (show v = Value.bool b from r); exact h
  | int i => obtain ⟨t, rfl⟩ := r; exact h
  | str x => obtain ⟨t, rfl⟩ := r; exact h
  | byt x => obtain ⟨t, rfl⟩ := r; exact h
  | flt x => obtain ⟨t, rfl⟩ := r; exact h
  | ref a => cases (show v = Value.ref a from r); exact h
  | ty n => cases (show v = Value.type n from r); exact h
theorem dMul : PySem.dunder "mul" = ("__mul__" : Str) := by decide +kernel
theorem dRmul : PySem.dunderR "mul" = ("__rmul__" : Str) := by decide +kernel
def tOO (C : Addr) (sp : Sp) (E : L2.St → XK) (ta tb : TE) : TE := fun σ H Q => ta σ H fun x H1 => tb σ H1 fun y H2 => ∃ p q dx fs dy gs, x = .ref p ∧ y = .ref q ∧ H2 p = some (.ins C dx fs) ∧ H2 q = some (.ins C dy gs) ∧ sp [.ref p, .ref q] H2 Q (E σ)
theorem pe_OO {op : Operator} (c : KMet X.prog X.w X.K X.mg X.base k C (PySem.dunder op.info.2) sp) (hs : PySem.W.selfFirst X.K C = true) (tk : Takes X W) (hr : Room j X.A) (hk : k ≤ j) (ha : PE X a ta) (hb : PE X b tb) :
    PE X (.BinOp a op b pos) (tOO C sp (WE W) ta tb) := by
  obtain ⟨f, fd, ps, hc, hm, F, bi⟩ := c.ex
  refine ⟨fun pins s σ H Q I h => ?_⟩
  refine wpAny_BinOp (thn (ha.run pins s σ H _ I h) fun v s1 ⟨x, H1, I1, r1, q1⟩ => ?_)
  refine thn (hb.run pins s1 σ H1 _ I1 q1) fun u s2 ⟨y, H2, I2, r2, p, q, dx, fs, dy, gs, ex, ey, hp, hq, q2⟩ => ?_
  subst ex ey
  obtain rfl : v = Value.ref p := r1
  obtain rfl : u = Value.ref q := r2
  obtain ⟨mA, O, _, _, _, _⟩ := ins_get I2.hok hp
  obtain ⟨od, J, _⟩ := O.look
  obtain ⟨mB, O2, _, _, _, _⟩ := ins_get I2.hok hq
  obtain ⟨od2, J2, _⟩ := O2.look
  obtain ⟨m, hF⟩ := I2.fr
  refine PySem.W.binop_K hF I2.ok.mod.kin J J2.type hs hm.at_ hm.fn ?_
  refine wpAny_mono (run_fnSD (dvs := []) (ds := []) (E := WE W) (vs := [.ref p, .ref q]) F (hr.mono hk) bi .nil (passAt tk σ) I2 (.cons rfl (.cons rfl .nil)) (by simpa using q2)) (fun w s' z => ?_) fun _ _ x => x
  obtain ⟨z', H', I', rz, qz⟩ := z
  exact cmpB rz ⟨z', H', I', rz, qz⟩
/-- what a class says of * with ints -/
structure IntMul (K : PySem.W.Frag) (C : Addr) : Prop where
  sf : PySem.W.selfFirst K C = true
  s1 : PySem.W.subIn K (.type "int") (.ref C) = some false
  s2 : PySem.W.subIn K (.ref C) (.type "int") = some false
def tOI (C : Addr) (sp : Sp) (E : L2.St → XK) (ta tb : TE) : TE := fun σ H Q => ta σ H fun x H1 => tb σ H1 fun y H2 => ∃ p n dx fs, x = .ref p ∧ y = .int n ∧ H2 p = some (.ins C dx fs) ∧ sp [.ref p, .int n] H2 Q (E σ)
theorem pe_OI (c : KMet X.prog X.w X.K X.mg X.base k C "__mul__" sp) (c2 : ∃ g : Addr, PySem.W.findIn X.K (.ref C) "__rmul__" = some (some (.ref g))) (hs : IntMul X.K C) (tk : Takes X W) (hr : Room j X.A) (hk : k ≤ j) (ha : PE X a ta) (hb : PE X b tb) :
    PE X (.BinOp a .Mult b pos) (tOI C sp (WE W) ta tb) := by
  obtain ⟨f, fd, ps, hc, hm, F, bi⟩ := c.ex
  obtain ⟨g, hg⟩ := c2
  refine ⟨fun pins s σ H Q I h => ?_⟩
  refine wpAny_BinOp (thn (ha.run pins s σ H _ I h) fun v s1 ⟨x, H1, I1, r1, q1⟩ => ?_)
  refine thn (hb.run pins s1 σ H1 _ I1 q1) fun u s2 ⟨y, H2, I2, r2, p, n, dx, fs, ex, ey, hp, q2⟩ => ?_
  subst ex ey
  obtain rfl : v = Value.ref p := r1
  obtain ⟨tn, rfl⟩ := r2
  obtain ⟨mA, O, _, _, _, _⟩ := ins_get I2.hok hp
  obtain ⟨od, J, _⟩ := O.look
  obtain ⟨cd, hcd, hm0⟩ := PySem.W.any_some hs.sf
  obtain ⟨rest, hmr⟩ : ∃ rest, cd.mro = .ref C :: rest := by
    cases q : cd.mro with
    | nil => rw [q] at hm0; cases hm0
    | cons a r => rw [q] at hm0; exact ⟨r, by rw [List.head?_cons] at hm0; cases (beq_iff_eq.mp hm0); rfl⟩
  have KX := I2.kIn
  have h1 : PySem.W.findIn X.K (.ref C) (PySem.dunder "mul") = some (some (.ref f)) := by rw [dMul]; exact hm.at_
  have h2 : PySem.W.findIn X.K (.ref C) (PySem.dunderR "mul") = some (some (.ref g)) := by rw [dRmul]; exact hg
  unfold binaryOp
  refine wpAny_holding (wpAny_bind ?_)
  show wpAny _ _ (binaryOp1 "mul" (.ref p) (.int n tn)) _ _ _
  unfold binaryOp1
  refine wpAny_bind (J.type.here (wpAny_bind (wpAny_typeOf (typeIs_int _ n tn) (wpAny_bind ((PySem.W.fills_K KX hcd hmr h1).here ?_)))))
  rw [if_neg (by intro z; cases z)]
  refine wpAny_bind (wpAny_of_eq PySem.F.fills_int_mul ?_)
  simp only [Bool.and_self, if_true]
  refine wpAny_bind ((PySem.W.looks_subIn KX hs.s1).here ?_)
  simp only [Bool.false_eq_true, if_false, Bool.not_false, Bool.and_self, if_true]
  have np : PySem.W.Looks (model X.prog X.w) s2.heap (numberSlotInPython (.ref C) "mul") true := by
    intro A' Q' E' s' kk q'
    unfold numberSlotInPython
    refine wpAny_bind (PySem.W.looks_findIn KX h1 A' _ E' s' kk ?_)
    refine wpAny_bind (wpAny_pure ?_)
    refine wpAny_bind (PySem.W.looks_findIn KX h2 A' _ E' s' kk ?_)
    refine wpAny_bind (wpAny_pure ?_)
    simp only [Bool.or_self, if_true]
    exact wpAny_pure q'
  refine wpAny_bind (np.here ?_)
  simp only [if_true]
  refine wpAny_bind (m := numberSlotInPython (.type "int") "mul") (wpAny_pure ?_)
  simp only [Bool.not_false, if_true]
  refine wpAny_bind (wpAny_of_eq PySem.F.slot_int_rmul.lookup ?_)
  refine wpAny_bind (m := tryMethod (.ref p) _ _) ?_
  unfold tryMethod
  refine wpAny_bind (PySem.W.special_fn KX J h1 (beq_iff_eq.mp hm.fn) (wpAny_mono (run_fnSD (dvs := []) (ds := []) (E := WE W) (vs := [.ref p, .int n]) F (hr.mono hk) bi .nil (passAt tk σ) I2 (.cons rfl (.cons ⟨tn, rfl⟩ .nil)) (by simpa using q2)) (fun v s' z => ?_) fun _ _ x => x))
  obtain ⟨z', H', I', rz, qz⟩ := z
  have hv : PySem.W.CmpBack (EP X pins σ Q) v s' := cmpB rz ⟨z', H', I', rz, qz⟩
  cases v <;> first | exact hv.elim | exact wpAny_pure (wpAny_pure (wpAny_pure hv))
def tIO (C : Addr) (sp : Sp) (E : L2.St → XK) (ta tb : TE) : TE := fun σ H Q => ta σ H fun x H1 => tb σ H1 fun y H2 => ∃ p n dx fs, x = .int n ∧ y = .ref p ∧ H2 p = some (.ins C dx fs) ∧ sp [.ref p, .int n] H2 Q (E σ)
theorem int_mul_obj (n : Int) (t : Tok) (l C dx : Addr) :
    Meets (Builtin.«int.__mul__» ⟨[.int n t, .ref l], []⟩) (fun _ R s => s.heap.get? l = some (PySem.W.instObj C dx) ∧ R (.ok (.ret Value.notImplemented)) s) :=
  .of_wp fun prog w A R s h => by
    obtain ⟨hp, g, d, tk, os⟩ := s
    obtain ⟨hl, h⟩ := h
    unfold PySem.W.instObj at hl
    wp_walk
    exact ⟨_, rfl, h⟩
theorem pe_IO (c : KMet X.prog X.w X.K X.mg X.base k C "__rmul__" sp) (c2 : ∃ g : Addr, PySem.W.findIn X.K (.ref C) "__mul__" = some (some (.ref g))) (hs : IntMul X.K C) (tk : Takes X W) (hr : Room j X.A) (hk : k ≤ j) (ha : PE X a ta) (hb : PE X b tb) :
    PE X (.BinOp a .Mult b pos) (tIO C sp (WE W) ta tb) := by
  obtain ⟨f, fd, ps, hc, hm, F, bi⟩ := c.ex
  obtain ⟨g, hg⟩ := c2
  refine ⟨fun pins s σ H Q I h => ?_⟩
  refine wpAny_BinOp (thn (ha.run pins s σ H _ I h) fun v s1 ⟨x, H1, I1, r1, q1⟩ => ?_)
  refine thn (hb.run pins s1 σ H1 _ I1 q1) fun u s2 ⟨y, H2, I2, r2, p, n, dx, fs, ex, ey, hp, q2⟩ => ?_
  subst ex ey
  obtain rfl : u = Value.ref p := r2
  obtain ⟨tn, rfl⟩ := r1
  obtain ⟨mA, O, _, _, _, _⟩ := ins_get I2.hok hp
  obtain ⟨od, J, _⟩ := O.look
  obtain ⟨cd, hcd, hm0⟩ := PySem.W.any_some hs.sf
  obtain ⟨rest, hmr⟩ : ∃ rest, cd.mro = .ref C :: rest := by
    cases q : cd.mro with
    | nil => rw [q] at hm0; cases hm0
    | cons a r => rw [q] at hm0; exact ⟨r, by rw [List.head?_cons] at hm0; cases (beq_iff_eq.mp hm0); rfl⟩
  have KX := I2.kIn
  have h1 : PySem.W.findIn X.K (.ref C) (PySem.dunder "mul") = some (some (.ref g)) := by rw [dMul]; exact hg
  have h2 : PySem.W.findIn X.K (.ref C) (PySem.dunderR "mul") = some (some (.ref f)) := by rw [dRmul]; exact hm.at_
  unfold binaryOp
  refine wpAny_holding (wpAny_bind ?_)
  show wpAny _ _ (binaryOp1 "mul" (.int n tn) (.ref p)) _ _ _
  unfold binaryOp1
  refine wpAny_bind (wpAny_typeOf (typeIs_int _ n tn) (wpAny_bind (J.type.here (wpAny_bind (wpAny_of_eq PySem.F.fills_int_mul ?_)))))
  rw [if_neg (by intro z; cases z)]
  refine wpAny_bind ((PySem.W.fills_K KX hcd hmr h1).here ?_)
  simp only [Bool.and_self, if_true]
  refine wpAny_bind ((PySem.W.looks_subIn KX hs.s2).here ?_)
  simp only [Bool.false_eq_true, if_false, Bool.not_false, Bool.and_self, if_true]
  refine wpAny_bind (m := numberSlotInPython (.type "int") "mul") (wpAny_pure ?_)
  simp only [Bool.false_eq_true, if_false]
  refine wpAny_bind (wpAny_tryMethod_declines (typeIs_int _ n tn) PySem.F.slot_int_mul (call_meets PySem.F.slot_int_mul (typeIs_int _ n tn) PySem.F.entry_int_mul (PySem.F.args_int_mul_2 _ _) (int_mul_obj n tn p C dx) ⟨O.obj, rfl, ?_⟩))
  simp only [Bool.false_eq_true, if_false, Bool.not_false, Bool.and_self, if_true]
  refine wpAny_bind (m := tryMethod (.ref p) _ _) ?_
  unfold tryMethod
  refine wpAny_bind (PySem.W.special_fn KX J h2 (beq_iff_eq.mp hm.fn) (wpAny_mono (run_fnSD (dvs := []) (ds := []) (E := WE W) (vs := [.ref p, .int n]) F (hr.mono hk) bi .nil (passAt tk σ) I2 (.cons rfl (.cons ⟨tn, rfl⟩ .nil)) (by simpa using q2)) (fun v s' z => ?_) fun _ _ x => x))
  obtain ⟨z', H', I', rz, qz⟩ := z
  have hv : PySem.W.CmpBack (EP X pins σ Q) v s' := cmpB rz ⟨z', H', I', rz, qz⟩
  cases v <;> first | exact hv.elim | exact wpAny_pure (wpAny_bind (wpAny_rule (wpAny_pure (wpAny_pure hv))))
end
theorem _root_.Kr.KMet.fnd {P : Program} {w : World} {K : PySem.W.Frag} {mg : Str → Option Value} {base : Heap} {k : Nat} {C : Addr} {m : Str} {sp : Sp} (c : KMet P w K mg base k C m sp) : ∃ g : Addr, PySem.W.findIn K (.ref C) m = some (some (.ref g)) := by
  obtain ⟨f, fd, ps, hc, hm, F, bi⟩ := c.ex
  exact ⟨f, hm.at_⟩
/-! C.f, a number -/
structure KCv (K : PySem.W.Frag) (C : Addr) (f : Str) (i : Int) : Prop where
  rd : ClX.CRead K C (.type "type")
  ex : ∃ u, ClX.CVal K C (.type "type") f (.int i) u
theorem kcv {X : Cx} {C : Addr} {f : Str} {i : Int} {e : Expr} {pos : Pos} (c : KCv X.K C f i) (he : PE X e (tC (.ref C))) (hb : attributeBase e f X.env (eval e X.env) = eval e X.env := by rfl) : PE X (.Attribute e f pos) (tC (.int i)) := by
  obtain ⟨u, k⟩ := c.ex
  exact ⟨fun pins s σ H Q I h => (ClX.pe_cval he hb).run pins s σ H Q I ⟨C, _, .int i, u, rfl, c.rd, k, h⟩⟩
def cvB (K : PySem.W.Frag) (C f : Str) (i : Int) : Bool := PySem.W.readsIn K (He.ga K C) (.type "type") && (He.eqO (PySem.W.specialIn K (.ref (He.ga K C)) "__getattribute__") (some (some (.builtin "type.__getattribute__"))) && (match PySem.W.findCls K (.ref (He.ga K C)) (.type "type") f with
  | some (.val (.int j _)) => decide (j = i)
  | _ => false))
theorem cvB_ok {K : PySem.W.Frag} {C f : Str} {i : Int} (h : cvB K C f i = true) : KCv K (He.ga K C) f i := by
  obtain ⟨h1, h⟩ := He.ba h
  obtain ⟨h2, h3⟩ := He.ba h
  refine ⟨⟨h1, He.eqO_ok h2⟩, ?_⟩
  split at h3
  · rename_i j t e
    have := of_decide_eq_true h3
    subst this
    exact ⟨_, e, ⟨t, rfl⟩⟩
  · cases h3
def imB (K : PySem.W.Frag) (C : Str) : Bool := PySem.W.selfFirst K (He.ga K C) && (decide (PySem.W.subIn K (.type "int") (.ref (He.ga K C)) = some false) && decide (PySem.W.subIn K (.ref (He.ga K C)) (.type "int") = some false))
theorem imB_ok {K : PySem.W.Frag} {C : Str} (h : imB K C = true) : IntMul K (He.ga K C) := by
  obtain ⟨h1, h⟩ := He.ba h
  obtain ⟨h2, h3⟩ := He.ba h
  exact ⟨h1, of_decide_eq_true h2, of_decide_eq_true h3⟩
end Kr

set_option Elab.async false
set_option linter.all false
set_option maxRecDepth 100000
set_option maxHeartbeats 2000000
/-! ### several except clauses, with names or without -/
namespace Kr
open PySem PySem.Spec PyProof.Rows L2
abbrev Cls1 := Value × Option Nat × (Addr → Value → Option Addr → TS)
def endsAt (i : Nat) (D : Ends) : Ends := { nx := fun σ' H' => D.nx (σ'.set i none) H', rt := D.rt, bk := fun σ' H' => D.bk (σ'.set i none) H', ct := fun σ' H' => D.ct (σ'.set i none) H' }
def wMy (K : PySem.W.Frag) (Wout : WX) (D : Ends) : List Cls1 → WX
  | [] => Wout
  | (c, o, ts) :: r => fun cls d σ H => ∃ b, PySem.W.exmOne K cls c = some b ∧ (b = true → ∀ a, H a = none → (match o with
      | none => ts a cls d D σ H
      | some i => ts a cls d (endsAt i D) (σ.set i (some (.ref a))) H)) ∧ (b = false → wMy K Wout D r cls d σ H)
inductive HdMy (X : Cx) : List ExceptHandler → List Cls1 → Prop
  | nil : HdMy X [] []
  | plain {x : Str} {c : Value} {ts : Addr → Value → Option Addr → TS} {b₀ : Stmt} {suite : List Stmt} {np pos' : Pos} {hds : List ExceptHandler} {l : List Cls1} (hc : Names X x c)
      (hsu : ∀ (a : Addr) (oe : Obj) (cls : Value) (d : Option Addr) (pn : List (Addr × Obj)), Zc cls d oe → (∃ vs, oe.data = .fields vs) → PSs (X.suite a ((a, oe) :: pn)) (b₀ :: suite) (ts a cls d)) (r : HdMy X hds l) :
      HdMy X (.ExceptHandler (some (.Name x np)) none (b₀ :: suite) pos' :: hds) ((c, none, ts) :: l)
  | named {x n : Str} {i : Nat} {c : Value} {ts : Addr → Value → Option Addr → TS} {b₀ : Stmt} {suite : List Stmt} {np pos' : Pos} {hds : List ExceptHandler} {l : List Cls1} (hc : Names X x c) (hi : X.N[i]? = some n) (hln : X.env.kindOf n = some .local)
      (hsu : ∀ (a : Addr) (oe : Obj) (cls : Value) (d : Option Addr) (pn : List (Addr × Obj)), Zc cls d oe → (∃ vs, oe.data = .fields vs) → PSs (X.suite a ((a, oe) :: pn)) (b₀ :: suite) (ts a cls d)) (r : HdMy X hds l) :
      HdMy X (.ExceptHandler (some (.Name x np)) (some n) (b₀ :: suite) pos' :: hds) ((c, some i, ts) :: l)
section
variable {X : Cx} {body : List Stmt} {h₀ : ExceptHandler} {hds : List ExceptHandler} {l : List Cls1} {pos : Pos} {tb : WX → TS} {Wout : WX}
theorem ps_tryMy (hs : X.stack = X.env :: X.outer) (hf : X.env.frame = some X.env.locals) (hN : X.N.Nodup) (tk : Takes X Wout)
    (hb : ∀ (W : WX) (pn : List (Addr × Obj)) (xe : Value → Shared → Prop), Takes (X.tr pn xe) W → PassesOwn (model X.prog X.w) X.A X.env xe → PSs (X.tr pn xe) body (tb W))
    (hh : HdMy X (h₀ :: hds) l) : PS X (.Try body (h₀ :: hds) [] [] pos) (fun D σ H => tb (wMy X.K Wout D l) D σ H) := by
  refine ⟨fun pins s σ H D I h => ?_⟩
  have ok := I.ok
  have hfr : X.A.frames = some (X.env :: X.outer) := by rw [ok.frames, hs]
  refine wpAny_Try_except ?_
  refine wpAny_mono ((hb (wMy X.K Wout D l) (X.pn ++ pins) (fun e s₁ => wpAny (model X.prog X.w) X.A (noteFrame e X.env) (fun _ s₂ => wpAny (model X.prog X.w) X.A (setFlight e none) (fun _ s₃ =>
    wpAny (model X.prog X.w) X.A (handleBy e X.env (h₀ :: hds)) (SP X pins D) X.xe s₃) X.xe s₂) X.xe s₁) (fun u s' xx => ?_) PassesOwn.looking).run [] s σ H D (I.toTry _) h) (fun f s1 hsp => ?_) (fun e s1 he => he)
  · obtain ⟨a, B, sI, pins', σ', H', cls, d, rfl, J', nb, up, sky, na, os, ag, w⟩ := xx
    have J : Inv X pins σ' H' sI := J'.ofTry ok
    have sky' : Sky B (X.env :: X.outer) a (Zc cls d) X.env.locals s'.heap := by rw [← hs]; exact sky
    show wpAny (model X.prog X.w) X.A (noteFrame (.ref a) X.env) _ _ _
    refine Sky.land Zc.steady hfr hf sky' fun h3 fl3 up3 => ?_
    have J3 : Inv X pins σ' H' { s' with heap := h3 } := J.landed nb fl3.1 (up.trans up3) os ag
    obtain ⟨oe3, vs3, he3, hz3, hd3⟩ := fl3.there
    have notFr : ∀ {h : Heap} {o : Obj} {vs : Array Value}, h.FunFrames B (X.env :: X.outer) → h.get? a = some o → o.data = .fields vs → a ∉ frs (X.env :: X.outer) := fun {h o vs} ff e dd hm => by
      obtain ⟨_, o', e', hnf⟩ := ff.mem hm
      rw [e] at e'; cases e'
      exact hnf _ dd
    have nfr := notFr fl3.2.2.1 he3 hd3
    have nL : a ≠ X.env.locals := fun z => nfr (List.mem_filterMap.mpr ⟨X.env, List.mem_cons_self, by rw [hf, z]⟩)
    have nF : a ∉ X.fs := fun hm => by
      obtain ⟨e, he, q⟩ := List.mem_filterMap.mp hm
      exact nfr (List.mem_filterMap.mpr ⟨e, List.mem_cons_of_mem _ he, q⟩)
    have S3 := J3.suite he3 hd3 na nL nF
    have test : ∀ {x : Str} {c : Value} {np : Pos}, Names X x c → ∀ {Q : Value → Shared → Prop} {E : Value → Shared → Prop}, Q c { s' with heap := h3 } → wpAny (model X.prog X.w) (X.A.mark (some (.ref a))) (eval (.Name x np) X.env) Q E { s' with heap := h3 } := fun {x c np} hc {Q E} q => by
      obtain ⟨hg, hdbg, hm | ⟨hm, hv, hnn⟩⟩ := hc
      · exact ld_glob (X := X.suite a ((a, oe3) :: (X.pn ++ pins))) S3 hg hm q hdbg
      · exact ld_blt (X := X.suite a ((a, oe3) :: (X.pn ++ pins))) S3 hg hm hv q hnn hdbg
    have LT : PySem.W.Looks (model X.prog X.w) h3 (typeOf (.ref a)) cls := fun A Q E s k q => wpAny_typeOf_ref (k _ _ he3) (by rw [hz3.1]; exact q)
    have go : ∀ {hds' : List ExceptHandler} {l' : List Cls1}, HdMy X hds' l' → wMy X.K Wout D l' cls d σ' H' →
        wpAny (model X.prog X.w) X.A (handleBy (.ref a) X.env hds') (SP X pins D) X.xe { s' with heap := h3 } := by
      intro hds' l' hk
      induction hk with
      | nil =>
        intro w
        refine wpAny_handleBy_nil ?_
        obtain ⟨k1, k2, k3, oe, vs, T, oT, ts', he, hz, hd, h1, hr⟩ := id fl3
        unfold PySem.passOn
        refine wpAny_bind (wpAny_field he hd h1 ?_)
        rw [if_neg (show ¬ ((Value.ref T == Value.none) = true) from by simp)]
        have fin : wpAny (model X.prog X.w) X.A (setFlight (.ref a) X.env.frame) (fun _ s4 => wpAny (model X.prog X.w) X.A (throw (.ref a) : Sem Flow) (SP X pins D) X.xe s4) X.xe { s' with heap := h3 } := by
          rw [hf]
          refine HandSPX.setFlight_upZ fl3 fun h4 hh4 up4 => wpAny_throw (tk _ _ ?_)
          exact ⟨a, B, sI, pins, σ', H', cls, d, rfl, J, nb, (up.trans up3).trans up4, .inr (.inr (by rw [hs]; exact hh4)), na, os, ag, w⟩
        first
          | exact wpAny_bind (wpAny_pure (wpAny_bind fin))
          | exact wpAny_bind fin
      | @plain x c ts b₀ suite np pos' hds2 l2 hc hsu r ih =>
        intro w
        obtain ⟨b, hb1, hyes, hno⟩ := w
        refine wpAny_handleBy_cons (codeAny_handlers_test ?_) (by intro q; cases q)
        have LM := PySem.W.exm_one (M := model X.prog X.w) (J3.kIn) LT hb1
        refine test hc (LM.here ?_)
        cases b with
        | true =>
          refine codeAny_handlers_suite ?_
          refine HandSPX.lands_againZ fl3 fun h4 fl4 up4 => ?_
          have J4 : Inv X pins σ' H' { s' with heap := h4 } := J.landed nb fl4.1 ((up.trans up3).trans up4) os ag
          obtain ⟨oe4, vs4, he4, hz4, hd4⟩ := fl4.there
          have S4 := J4.suite he4 hd4 na nL nF
          refine wpAny_mono ((hsu a oe4 cls d (X.pn ++ pins) hz4 ⟨_, hd4⟩).run [] _ _ H' _ S4 (hyes rfl a na)) (fun f s6 hsp => ?_) (fun _ _ z => False.elim z)
          cases f with
          | next => obtain ⟨σ6, H6, S6, q6⟩ := hsp; exact ⟨_, _, S6.unsuite ok, q6⟩
          | brk => obtain ⟨σ6, H6, S6, q6⟩ := hsp; exact ⟨_, _, S6.unsuite ok, q6⟩
          | cont => obtain ⟨σ6, H6, S6, q6⟩ := hsp; exact ⟨_, _, S6.unsuite ok, q6⟩
          | ret u => obtain ⟨v6, σ6, H6, S6, r6, q6⟩ := hsp; exact ⟨_, _, _, S6.unsuite ok, r6, q6⟩
        | false =>
          show wpAny _ X.A (handleBy (.ref a) X.env hds2) _ _ _
          exact ih (hno rfl)
      | @named x n i c ts b₀ suite np pos' hds2 l2 hc hi hln hsu r ih =>
        intro w
        have hloc : Loc X.env.scope n := .inl hln
        obtain ⟨b, hb1, hyes, hno⟩ := w
        refine wpAny_handleBy_cons (codeAny_handlers_test ?_) (by intro q; cases q)
        have LM := PySem.W.exm_one (M := model X.prog X.w) (J3.kIn) LT hb1
        refine test hc (LM.here ?_)
        cases b with
        | true =>
          refine codeAny_handlers_suite_as ?_
          refine HandSPX.lands_againZ fl3 fun h4 fl4 up4 => ?_
          have J4 : Inv X pins σ' H' { s' with heap := h4 } := J.landed nb fl4.1 ((up.trans up3).trans up4) os ag
          obtain ⟨oe4, vs4, he4, hz4, hd4⟩ := fl4.there
          have S4 := J4.suite he4 hd4 na nL nF
          refine store_ok (X := X.suite a ((a, oe4) :: (X.pn ++ pins))) (v := .ref a) S4 hN hi hloc rfl (fun s5 S5 => ?_) (.inr hln)
          refine wpAny_mono ((hsu a oe4 cls d (X.pn ++ pins) hz4 ⟨_, hd4⟩).run [] s5 _ H' _ S5 (hyes rfl a na)) (fun f s6 hsp => ?_) (fun _ _ z => False.elim z)
          have end_ : ∀ {σ6 : L2.St} {H6 : Hp} {Q : Shared → Prop}, Inv (X.suite a ((a, oe4) :: (X.pn ++ pins))) [] σ6 H6 s6 → (∀ s7, Inv X pins (σ6.set i none) H6 s7 → Q s7) →
              wpAny (model X.prog X.w) X.A (do bindName X.env n .none; unbindBehindTheSuite X.env n pos') (fun _ s7 => Q s7) X.xe s6 := fun {σ6 H6 Q} S6 hq => gone_ok (S6.unsuite ok) hN hi hln hq
          cases f with
          | next => obtain ⟨σ6, H6, S6, q6⟩ := hsp; exact end_ S6 fun s7 J7 => ⟨_, _, J7, q6⟩
          | brk => obtain ⟨σ6, H6, S6, q6⟩ := hsp; exact end_ S6 fun s7 J7 => ⟨_, _, J7, q6⟩
          | cont => obtain ⟨σ6, H6, S6, q6⟩ := hsp; exact end_ S6 fun s7 J7 => ⟨_, _, J7, q6⟩
          | ret u => obtain ⟨v6, σ6, H6, S6, r6, q6⟩ := hsp; exact end_ S6 fun s7 J7 => ⟨_, _, _, J7, r6, q6⟩
        | false =>
          show wpAny _ X.A (handleBy (.ref a) X.env hds2) _ _ _
          exact ih (hno rfl)
    exact go hh w
  · cases f with
    | next => obtain ⟨σ', H', J', q⟩ := hsp; exact wpAny_execs_nil ⟨σ', H', J'.ofTry ok, q⟩
    | brk => obtain ⟨σ', H', J', q⟩ := hsp; exact ⟨σ', H', J'.ofTry ok, q⟩
    | cont => obtain ⟨σ', H', J', q⟩ := hsp; exact ⟨σ', H', J'.ofTry ok, q⟩
    | ret u => obtain ⟨v, σ', H', J', r, q⟩ := hsp; exact ⟨v, σ', H', J'.ofTry ok, r, q⟩
end
end Kr

set_option Elab.async false
set_option linter.all false
set_option maxRecDepth 100000
set_option maxHeartbeats 2000000
/-! ### def f(*v, c = ..): called with any positional values, c given by its name or left out -/
namespace Kr
open PySem PySem.Spec PyProof.Rows L2
/-- what a def with a star parameter and one keyword-only parameter promises; sp: of [c, the tuple] -/
structure KSt (P : Program) (w : World) (K : PySem.W.Frag) (mg : Str → Option Value) (base : Heap) (k : Nat) (x ck : Str) (sp : Sp) (dv : V) : Prop where
  ex : ∃ f : Addr, mg x = some (.ref f) ∧ PySem.W.keepIn K (.ref f) = true ∧
    (∀ (A : Around) (outer : List Env) (s : Shared) (H : Hp) (us : List Value) (rest : List V) (Q : VK) (E : XK), Room k A → Env0 P w K mg base A outer s H → Vals rest us → rest.length ≤ sizeLine → (∀ p, H p = none → sp [dv, V.ref p] (upd H p (.tup rest)) Q E) →
      codeAny (model P w) A (.call (.ref f) ⟨us, []⟩) (CR (CX P w) outer P w H s Q E) s) ∧
    (∀ (A : Around) (outer : List Env) (s : Shared) (H : Hp) (us : List Value) (rest : List V) (c : V) (u : Value) (Q : VK) (E : XK), Room k A → Env0 P w K mg base A outer s H → Vals rest us → RelV c u → rest.length ≤ sizeLine → (∀ p, H p = none → sp [c, V.ref p] (upd H p (.tup rest)) Q E) →
      codeAny (model P w) A (.call (.ref f) ⟨us, [(ck, u)]⟩) (CR (CX P w) outer P w H s Q E) s)
theorem kst_of {P : Program} {w : World} {K : PySem.W.Frag} {mg : Str → Option Value} {base : Heap} {k : Nat} {x ck pv : Str} {params : Arguments} {body : List Stmt} {scope : Scope} {dv : V} {f : Addr} {fd : FuncData} {N : List Str} {sp : Sp} (F : FunD K x x params body scope [] [(ck, dv)] f fd) (hm : mg x = some (.ref f)) (Sc : FnScope N [ck, pv] scope)
    (hb : ∀ (D : Addr) (doc pm : Value) (an : Option Addr) (cdv ct : Value) (rest : List Value) (u : Value), bindArgs (PySem.W.fnOf x x params body scope .none (.ref D) doc pm an cdv ct) ⟨rest, [(ck, u)]⟩ = (newTuple rest >>= fun t => pure [(ck, u), (pv, t)]))
    (hd : ∀ (D : Addr) (doc pm : Value) (an : Option Addr) (cdv ct : Value) (rest : List Value) (u : Value), ∃ (β γ : Type) (k1 : Option Value → Sem β) (k2 : β → Sem γ) (k3 : γ → Sem (List (Str × Value))) (a : β), bindArgs (PySem.W.fnOf x x params body scope .none (.ref D) doc pm an cdv ct) ⟨rest, []⟩ = ((nsGet D ck >>= k1) >>= k2) >>= k3 ∧ k1 (some u) = pure a ∧
      (k2 a >>= k3) = (newTuple rest >>= fun t => pure [(ck, u), (pv, t)]))
    (hbody : ∀ (cdv : Value) (A : Around) (outer : List Env) (s : Shared) (H : Hp) (vs : List V) (Q : VK) (E : XK), Room k (A.deeper (envOfC x scope s.heap.objs.size f cdv)) → sp vs H Q E →
      ∃ t, PSs (cxOf (CX P w) P w K mg base N x scope f cdv A outer s H E) body t ∧ t { nx := fun _ H' => Q .non H', rt := Q } (start N vs) H) : KSt P w K mg base (k + 1) x ck sp dv := by
  obtain ⟨oc, od, dV, kV, doc, pm, an, cdv, ct, osl, rfl, lk, hcd, hD, hK⟩ := F.ex
  have hdV : dV = .none := by
    rcases hD with ⟨_, e⟩ | ⟨e, _⟩
    · exact e
    · exact absurd rfl e
  subst hdV
  rcases hK with e | ⟨D, rfl, hq⟩
  · cases e
  obtain ⟨u0, hu0, ru0⟩ := hq (ck, dv) (by simp)
  have core : ∀ (A : Around) (outer : List Env) (s : Shared) (H : Hp) (us : List Value) (rest : List V) (c : V) (u : Value) (Q : VK) (E : XK) (args : Args), Room (k + 1) A → Env0 P w K mg base A outer s H → Vals rest us → RelV c u → rest.length ≤ sizeLine → (∀ p, H p = none → sp [c, V.ref p] (upd H p (.tup rest)) Q E) →
      (∀ (M : Model) (A' : Around) (Ex : Value → Shared → Prop) (Q' : List (Str × Value) → Shared → Prop), wpAny M A' (newTuple us >>= fun t => pure [(ck, u), (pv, t)]) Q' Ex s → wpAny M A' (bindArgs (PySem.W.fnOf x x params body scope .none (.ref D) doc pm an cdv ct) args) Q' Ex s) →
      codeAny (model P w) A (.call (.ref f) args) (CR (CX P w) outer P w H s Q E) s := by
    intro A outer s H us rest c u Q E args hr e0 r rc hz hsp hbi
    have hn : H s.heap.objs.size = none := e0.hok.fresh (Nat.le_refl _)
    have hl2 : us.length ≤ sizeLine := by rw [← r.length]; exact hz
    refine StX.run_bnd lk hcd Sc hr e0 (G := fun xs H2 => ∃ p, H p = none ∧ xs = [c, V.ref p] ∧ H2 = upd H p (.tup rest)) (fun A' Ex Q' h => ?_) fun s2 H2 xs ⟨p, hp, ex, eH⟩ hr' => ?_
    · refine hbi _ _ _ _ (wpAny_bind (wpAny_newTuple (wpAny_pure ?_) hl2))
      have new : ObjOk P w (upd H s.heap.objs.size (.tup rest)) (s.heap.push ({ cls := .type "tuple", data := .seq us.toArray } : Obj)) s.heap.objs.size (.tup rest) := ⟨hz, us, r, ⟨_, Heap.get?_push_size _ rfl, rfl, _, rfl⟩⟩
      have un := StX.un_laid (fs := frs outer) (s := s) (o := ({ cls := .type "tuple", data := .seq us.toArray } : Obj)) (u := .tup rest) hn
      exact h _ _ [c, V.ref s.heap.objs.size] [u, Value.ref s.heap.objs.size] (StX.env0_laid e0 new) un rfl (fun e s' => StX.cxUp outer s H _ _ E e s' un (fun b o q => Heap.get?_push_of_some _ q) rfl) (.cons rc (.cons rfl .nil)) rfl ⟨_, hn, rfl, rfl⟩
    · subst ex eH
      exact hbody cdv A outer s2 _ _ Q E hr' (hsp p hp)
  refine ⟨f, hm, F.kp, fun A outer s H us rest Q E hr e0 r hz hsp => ?_, fun A outer s H us rest c u Q E hr e0 r rc hz hsp => ?_⟩
  · refine core A outer s H us rest dv u0 Q E _ hr e0 r ru0 hz hsp fun M A' Ex Q' hw => ?_
    obtain ⟨β, γ, k1, k2, k3, a, e1, e2, e3⟩ := hd D doc pm an cdv ct us u0
    rw [e1, bind_assoc]
    have KX : K.In s.heap := e0.mod.kin.keeps fun b o e => (e0.bs b o e).1
    refine wpAny_bind (((PySem.W.looks_nsIn KX hu0).andThen (PySem.W.Looks.of_pure e2)).here ?_)
    rw [e3]
    exact hw
  · refine core A outer s H us rest c u Q E _ hr e0 r rc hz hsp fun M A' Ex Q' hw => ?_
    rw [hb]
    exact hw
section
variable {X : Cx} {k j : Nat} {x ck : Str} {sp : Sp} {dv : V} {e : Expr} {es : List Expr} {t : TA} {p pos : Pos} {W : WX}
theorem runSt {E : XK} {pins : List (Addr × Obj)} {σ : L2.St} {H : Hp} {s : Shared} {Q : VK} {args : Args} {f : Addr} (hx : PassesAt (CX X.prog X.w) X σ E) (I : Inv X pins σ H s) (h : codeAny (model X.prog X.w) X.A (.call (.ref f) args) (CR (CX X.prog X.w) X.stack X.prog X.w H s Q E) s) :
    wpAny (model X.prog X.w) X.A (call (.ref f) args.pos args.kw) (EP X pins σ Q) X.xe s := by
  refine wpAny_call (codeAny_mono h fun r s' hq => ?_)
  cases r with
  | error er => exact hx _ H s er s' I hq
  | ok fl =>
    cases fl with
    | ret u => exact I.after hq
    | next => exact False.elim hq
    | brk => exact False.elim hq
    | cont => exact False.elim hq
def tSt (sp : Sp) (dv : V) (E : L2.St → XK) (t : TA) : TE := fun σ H Q => t σ H fun vs H1 => vs.length ≤ sizeLine ∧ ∀ p, H1 p = none → sp [dv, V.ref p] (upd H1 p (.tup vs)) Q (E σ)
theorem kst (c : KSt X.prog X.w X.K X.mg X.base k x ck sp dv) (tk : Takes X W) (hr : Room j X.A) (hk : k ≤ j) (hg : Gl X x) (ha : PA X (e :: es) t) (hdb : (x == ("__debug__" : Str)) = false := by decide)
    (he : starEach (e :: es) X.env = (false, eval e X.env) :: starEach es X.env := by rfl) (hpl : (backTo pos (starEach es X.env)).any (·.1) = false := by rfl) : PE X (.Call (.Name x p) (e :: es) [] pos) (tSt sp dv (WE W) t) := by
  obtain ⟨f, hm, kp, h1, h2⟩ := c.ex
  refine ⟨fun pins s σ H Q I h => ?_⟩
  refine wpAny_Call_Name_kw (ld_glob I hg hm ?_ hdb)
  refine PySem.W.callWith_K (h₀ := X.base) I.ok.mod.kin kp (thn (ha.run pos pins s σ H _ I h) fun us s1 ⟨vs, H1, I1, r, hz, q⟩ => ⟨I1.kIn, ?_⟩) he hpl
  exact runSt (args := ⟨us, []⟩) (passAt tk σ) I1 (h1 X.A X.stack s1 H1 us vs Q _ (hr.mono hk) I1.env0 r hz q)
theorem kst0 (c : KSt X.prog X.w X.K X.mg X.base k x ck sp dv) (tk : Takes X W) (hr : Room j X.A) (hk : k ≤ j) (hg : Gl X x) (hdb : (x == ("__debug__" : Str)) = false := by decide) : PE X (.Call (.Name x p) [] [] pos) (tSt sp dv (WE W) tNil) := by
  obtain ⟨f, hm, kp, h1, h2⟩ := c.ex
  refine ⟨fun pins s σ H Q I h => ?_⟩
  refine wpAny_Call_Name_kw (ld_glob I hg hm ?_ hdb)
  exact PySem.W.callWith_K0 I.kIn kp (runSt (args := ⟨[], []⟩) (passAt tk σ) I (h1 X.A X.stack s H [] [] Q _ (hr.mono hk) I.env0 .nil h.1 h.2))
def tStK (sp : Sp) (E : L2.St → XK) (t : TA) (tk : TA) : TE := fun σ H Q => t σ H fun vs H1 => tk σ H1 fun zs H2 => ∃ c, zs = [c] ∧ vs.length ≤ sizeLine ∧ ∀ p, H2 p = none → sp [c, V.ref p] (upd H2 p (.tup vs)) Q (E σ)
theorem kstK {kws : List Keyword} {tw : TA} (c : KSt X.prog X.w X.K X.mg X.base k x ck sp dv) (tk : Takes X W) (hr : Room j X.A) (hk : k ≤ j) (hg : Gl X x) (ha : PA X (e :: es) t) (hkw : PK X kws tw)
    (hall : (backToKw pos (keywordEach kws X.env)).all (·.1.isSome) = true := by rfl) (hks : (backToKw pos (keywordEach kws X.env)).filterMap (·.1) = [ck] := by rfl) (hdb : (x == ("__debug__" : Str)) = false := by decide)
    (he : starEach (e :: es) X.env = (false, eval e X.env) :: starEach es X.env := by rfl) (hpl : ((backTo pos (starEach (e :: es) X.env)).any (·.1) || (backToKw pos (keywordEach kws X.env)).any (·.1.isNone)) = false := by rfl) :
    PE X (.Call (.Name x p) (e :: es) kws pos) (tStK sp (WE W) t tw) := by
  obtain ⟨f, hm, kp, h1, h2⟩ := c.ex
  refine ⟨fun pins s σ H Q I h => ?_⟩
  refine wpAny_Call_Name_kw (ld_glob I hg hm ?_ hdb)
  refine PySem.W.callWith_KW (h₀ := X.base) I.ok.mod.kin kp hall (thn (ha.run pos pins s σ H _ I h) fun us s1 ⟨vs, H1, I1, r, q⟩ => ?_) hpl he
  refine thn (hkw.run pos pins s1 σ H1 _ I1 q) fun ws s2 ⟨zs, H2, I2, rz, c, ec, hz, q2⟩ => ⟨I2.kIn, ?_⟩
  rw [hks]
  subst ec
  cases rz with
  | cons rc rr =>
    cases rr
    exact runSt (args := ⟨us, [(ck, _)]⟩) (passAt tk σ) I2 (h2 X.A X.stack s2 H2 us vs _ _ Q _ (hr.mono hk) I2.env0 r rc hz q2)
theorem kstK0 {kws : List Keyword} {tw : TA} (c : KSt X.prog X.w X.K X.mg X.base k x ck sp dv) (tk : Takes X W) (hr : Room j X.A) (hk : k ≤ j) (hg : Gl X x) (hkw : PK X kws tw)
    (hall : (backToKw pos (keywordEach kws X.env)).all (·.1.isSome) = true := by rfl) (hks : (backToKw pos (keywordEach kws X.env)).filterMap (·.1) = [ck] := by rfl) (hdb : (x == ("__debug__" : Str)) = false := by decide)
    (hpl : ((backTo pos (starEach [] X.env)).any (·.1) || (backToKw pos (keywordEach kws X.env)).any (·.1.isNone)) = false := by rfl) :
    PE X (.Call (.Name x p) [] kws pos) (tStK sp (WE W) tNil tw) := by
  obtain ⟨f, hm, kp, h1, h2⟩ := c.ex
  refine ⟨fun pins s σ H Q I h => ?_⟩
  refine wpAny_Call_Name_kw (ld_glob I hg hm ?_ hdb)
  refine PySem.W.callWith_KW0 (h₀ := X.base) I.ok.mod.kin kp hall ?_ hpl
  refine thn (hkw.run pos pins s σ H _ I h) fun ws s2 ⟨zs, H2, I2, rz, c, ec, hz, q2⟩ => ⟨I2.kIn, ?_⟩
  rw [hks]
  subst ec
  cases rz with
  | cons rc rr =>
    cases rr
    exact runSt (args := ⟨[], [(ck, _)]⟩) (passAt tk σ) I2 (h2 X.A X.stack s2 H2 [] [] _ _ Q _ (hr.mono hk) I2.env0 .nil rc hz q2)
end
end Kr

set_option Elab.async false
set_option linter.all false
set_option maxRecDepth 100000
set_option maxHeartbeats 2000000
/-! ### [c for c in text if p c] -/
namespace Kr
open PySem PySem.Spec PyProof.Rows L2
open SX (S)
abbrev oneV (c : Nat) : V := .str (S [c])
theorem filter_tk {p : Nat → Bool} {a : List Nat} {i c : Nat} (h : a[i]? = some c) : (a.take (i + 1)).filter p = (a.take i).filter p ++ if p c then [c] else [] := by
  have e : a.take (i + 1) = a.take i ++ [c] := by rw [List.take_succ, h]; rfl
  rw [e, List.filter_append]
  congr 1
  by_cases q : p c
  · simp [q]
  · simp [q]
theorem lcF {a : List Nat} {p : Nat → Bool} {i : Nat} {tt : TT} {vs : List Nat} {σ : L2.St} {H1 : Hp} {D : Addr} {Qd : Hp → Prop} (hl : a.length ≤ 1000) (hD : H1 D = none)
    (ht : ∀ (c : Nat) (H2 : Hp) (R : Bool → Hp → Prop), c ∈ a → Same H1 H2 → R (p c) H2 → tt ((wipe σ vs).set i (some (oneV c))) H2 R) (hw : ∀ v, wipe ((wipe σ vs).set i v) vs = wipe σ vs) (hv : ∀ v, ((wipe σ vs).set i v)[i]? = some v)
    (hd : ∀ H2, Same H1 H2 → H2 D = some (.lst ((a.filter p).map oneV)) → Qd H2) :
    ∃ W : Nat → Nat → Hp → Prop, (∃ m, W 0 m (upd H1 D (.lst []))) ∧ ∀ j m H, W j m H →
      ((Its (S a)).stop j H ∧ Qd H) ∨ ((Its (S a)).go j H ∧ ∃ Nx : Hp → Prop, (∀ H', Nx H' → ∃ m', m' < m ∧ W (j + 1) m' H') ∧ ∀ x H', (Its (S a)).yld j H x H' → gName i x (wipe σ vs) H' fun σ2 H2 => wipe σ2 vs = wipe σ vs ∧ tt σ2 H2 fun b H3 =>
        if b = true then tVar i σ2 H3 fun y H4 => ∃ acc, H4 D = some (.lst acc) ∧ acc.length < sizeLine ∧ Nx (upd H4 D (.lst (acc ++ [y]))) else Nx H3) := by
  refine lc_it walk_S (fun j H2 => H2 D = some (.lst (((a.take j).filter p).map oneV)) ∧ Same H1 H2) ?_ (fun _ _ _ _ => trivial) ?_ ?_
  · exact ⟨upd_same, sNew (Same.refl _) hD⟩
  · rintro j x H2 H3 hj ⟨h1, s1⟩ ⟨rfl, c, hc, rfl⟩
    have ef := filter_tk (p := p) hc
    have hfl : ((a.take j).filter p).length ≤ 1000 := Nat.le_trans (List.length_filter_le _ _) (by rw [List.length_take]; omega)
    refine ⟨hw _, ht c _ _ (List.mem_of_getElem? hc) s1 ?_⟩
    refine if2 (fun b => ?_) (fun b => ?_)
    · refine ⟨_, hv _, _, h1, ?_, ?_, sMut s1 hD⟩
      · rw [List.length_map]; exact ltSz (by omega)
      · rw [upd_same, ef, b]; simp
    · refine ⟨?_, s1⟩
      rw [ef, b]; simpa using h1
  · rintro H2 ⟨h1, s1⟩
    rw [List.take_length] at h1
    exact hd H2 s1 h1
/-- "".join of one-sign texts -/
theorem ones (a : List Nat) : (a.map fun c => [c]).flatten = a := by
  induction a with
  | nil => rfl
  | cons c a ih => simp [ih]
theorem onesV (a : List Nat) : a.map oneV = (a.map fun c => [c]).map fun y => V.str (S y) := by rw [List.map_map]; rfl
theorem pairAt {α β : Type} {R : α → β → Prop} {a : List α} {b : List β} (h : Paired R a b) : ∀ {i : Nat} {x : α}, a[i]? = some x → ∃ y, b[i]? = some y ∧ R x y := by
  induction h with
  | nil => intro i x e; simp at e
  | cons r _ ih =>
    intro i x e
    cases i with
    | zero => simp at e; subst e; exact ⟨_, rfl, r⟩
    | succ i =>
      obtain ⟨y, h1, h2⟩ := ih (i := i) (x := x) (by simpa using e)
      exact ⟨y, by simpa using h1, h2⟩
theorem sIns {H : Hp} {x dx C : Addr} (hx : H x = none) (hd : H dx = none) (nd : dx ≠ x) : Same H (upd (upd H dx (.own x)) x (.ins C dx [])) := fun b o h => by
  rw [upd_ne (ne_of_none h hx), upd_ne (ne_of_none h hd)]; exact h
theorem sKp {H H1 H2 : Hp} {x : Addr} (s : Same H H1) (k : Kp [x] H1 H2) (hx : H x = none) : Same H H2 := fun b o h => k b o (by simp; exact ne_of_none h hx) (s b o h)
end Kr

set_option Elab.async false
set_option linter.all false
set_option maxRecDepth 100000
set_option maxHeartbeats 2000000
/-! ### reading seen as a machine of brackets; texts cut into parts -/
namespace Kr
open PySem PySem.Spec PyProof.Rows L2
open SX (S)
/-- the place of the first fault from i on, or none; gs: the marks of the open brackets, em: nothing stands in the innermost one yet, pe: the first half of a key that waits for its sign -/
def sc (ca : Bool) : Nat → List Nat → List Nat → Bool → Option Nat → Option Nat
  | i, [], _, _, some _ => some i
  | i, [], gs, _, none => if gs.isEmpty then none else some i
  | i, d :: t, gs, em, some c => if d ∈ (if c = 64 then ltr else sgn) then sc ca (i + 1) t gs false none else some i
  | i, c :: t, gs, em, none =>
    if c ∈ plk then sc ca (i + 1) t gs false none
    else if c ∈ sgk ∨ (ca = true ∧ c = 64) then sc ca (i + 1) t gs em (some c)
    else if c = 40 ∨ c = 91 then (if gs.length = 8 then some i else sc ca (i + 1) t (c :: gs) true none)
    else match gs with
      | [] => some i
      | g :: r => if c = 41 ∧ g = 40 ∧ em = false then sc ca (i + 1) t r false none
        else if c = 124 ∧ g = 91 ∧ em = false then sc ca (i + 1) t (124 :: r) em none
        else if c = 93 ∧ g = 124 then sc ca (i + 1) t r false none else some i
theorem sc_cons (ca : Bool) (i c : Nat) (t gs : List Nat) (em : Bool) : sc ca i (c :: t) gs em none = (
    if c ∈ plk then sc ca (i + 1) t gs false none
    else if c ∈ sgk ∨ (ca = true ∧ c = 64) then sc ca (i + 1) t gs em (some c)
    else if c = 40 ∨ c = 91 then (if gs.length = 8 then some i else sc ca (i + 1) t (c :: gs) true none)
    else match gs with
      | [] => some i
      | g :: r => if c = 41 ∧ g = 40 ∧ em = false then sc ca (i + 1) t r false none
        else if c = 124 ∧ g = 91 ∧ em = false then sc ca (i + 1) t (124 :: r) em none
        else if c = 93 ∧ g = 124 then sc ca (i + 1) t r false none else some i) := by
  cases gs <;> rfl
theorem sc_pend (ca : Bool) (i c d : Nat) (t gs : List Nat) (em : Bool) : sc ca i (d :: t) gs em (some c) = if d ∈ (if c = 64 then ltr else sgn) then sc ca (i + 1) t gs false none else some i := by
  cases gs <;> rfl
theorem plk_not {ca : Bool} {c : Nat} (h : c ∈ plk) : ¬ (c ∈ sgk ∨ (ca = true ∧ c = 64)) := by
  have : ∀ c ∈ plk, c ∉ sgk ∧ c ≠ 64 := by decide
  obtain ⟨a, b⟩ := this c h
  rintro (z | ⟨_, z⟩)
  · exact a z
  · exact b z
theorem sc_two (ca : Bool) (i c d : Nat) (t gs : List Nat) (em : Bool) (h : c ∈ sgk ∨ (ca = true ∧ c = 64)) : sc ca i (c :: d :: t) gs em none = if d ∈ (if c = 64 then ltr else sgn) then sc ca (i + 2) t gs false none else some (i + 1) := by
  rw [sc_cons, if_neg (fun z => plk_not (ca := ca) z h), if_pos h, sc_pend]
theorem sc_end (ca : Bool) (i c : Nat) (gs : List Nat) (em : Bool) (h : c ∈ sgk ∨ (ca = true ∧ c = 64)) : sc ca i [c] gs em none = some (i + 1) := by
  rw [sc_cons, if_neg (fun z => plk_not (ca := ca) z h), if_pos h]
  cases gs <;> rfl
/-- reading tells what the machine tells -/
def EmOk (gs : List Grp) (its : List It) (em : Bool) : Prop := match gs with
  | [] => True
  | g :: _ => g.mk' = 124 ∨ em = its.isEmpty
theorem rd_sc (ca : Bool) : ∀ (f i : Nat) (t : List Nat) (gs : List Grp) (its : List It) (em : Bool), t.length ≤ f → Gw gs → EmOk gs its em →
    (∀ k, rd ca f i t gs its = .inl k → sc ca i t (gs.map Grp.mk') em none = some k) ∧ (∀ r, rd ca f i t gs its = .inr r → sc ca i t (gs.map Grp.mk') em none = none)
  | f, i, [], gs, its, em, _, _, _ => by
    have e : rd ca f i [] gs its = if gs.isEmpty then .inr its else .inl i := by cases f <;> rfl
    rw [e]
    cases gs with
    | nil =>
      refine ⟨fun k h => ?_, fun r h => rfl⟩
      simp at h
    | cons g r =>
      refine ⟨fun k h => ?_, fun r h => ?_⟩
      · simp at h
        subst h
        rfl
      · simp at h
  | f + 1, i, c :: t, gs, its, em, hf, hw, he => by
    have hf' : t.length ≤ f := by simpa using hf
    rw [rd]
    by_cases h1 : c ∈ plk
    · have ek : kl ca (c :: t) = .inr 1 := by simp only [kl]; rw [if_pos h1]
      rw [ek, sc_cons, if_pos h1]
      simp only
      have hk : EmOk gs (its ++ [.key (c :: t.take 0)]) false := by
        cases gs with
        | nil => trivial
        | cons g r => exact .inr (by simp)
      exact rd_sc ca f (i + 1) (t.drop 0) gs _ false (by simpa using hf') hw hk
    · by_cases h2 : c ∈ sgk ∨ (ca = true ∧ c = 64)
      · cases t with
        | nil =>
          have ek : kl ca [c] = .inl 1 := by simp only [kl]; rw [if_neg h1, if_pos h2]
          rw [ek, sc_end _ _ _ _ _ h2]
          exact ⟨fun k h => by cases h; rfl, fun r h => by cases h⟩
        | cons d t =>
          rw [sc_two _ _ _ _ _ _ _ h2]
          by_cases h3 : d ∈ (if c = 64 then ltr else sgn)
          · have ek : kl ca (c :: d :: t) = .inr 2 := by simp only [kl]; rw [if_neg h1, if_pos h2, if_pos h3]
            rw [ek, if_pos h3]
            simp only
            have hk : EmOk gs (its ++ [.key (c :: (d :: t).take 1)]) false := by
              cases gs with
              | nil => trivial
              | cons g r => exact .inr (by simp)
            exact rd_sc ca f (i + 2) ((d :: t).drop 1) gs _ false (by simp at hf' ⊢; omega) hw hk
          · have ek : kl ca (c :: d :: t) = .inl 1 := by simp only [kl]; rw [if_neg h1, if_pos h2, if_neg h3]
            rw [ek, if_neg h3]
            exact ⟨fun k h => by cases h; rfl, fun r h => by cases h⟩
      · rw [sc_cons, if_neg h1, if_neg h2]
        by_cases h3 : c ∈ brs
        · have ek : kl ca (c :: t) = .inr 0 := by simp only [kl]; rw [if_neg h1, if_neg h2, if_pos h3]
          rw [ek]
          simp only
          by_cases h4 : c = 40 ∨ c = 91
          · rw [if_pos h4]
            unfold brk
            rw [if_pos h4, List.length_map]
            by_cases h8 : gs.length = 8
            · rw [if_pos h8, if_pos h8]
              exact ⟨fun k h => by cases h; rfl, fun r h => by cases h⟩
            · rw [if_neg h8, if_neg h8]
              simp only
              have em' : (⟨c, its, none⟩ : Grp).mk' = c := by rcases h4 with rfl | rfl <;> rfl
              have := rd_sc ca f (i + 1) t (⟨c, its, none⟩ :: gs) [] true hf' ⟨by rcases h4 with rfl | rfl; exact .inl ⟨rfl, rfl⟩; exact .inr rfl, hw⟩ (.inr rfl)
              rw [List.map_cons, em'] at this
              exact this
          · rw [if_neg h4]
            unfold brk
            rw [if_neg h4]
            cases gs with
            | nil =>
              simp only [List.map_nil]
              exact ⟨fun k h => by cases h; rfl, fun r h => by cases h⟩
            | cons g r =>
              obtain ⟨hg, hw'⟩ := hw
              simp only [List.map_cons]
              have hem : g.mk' ≠ 124 → em = its.isEmpty := fun z => he.resolve_left z
              have mk40 : g.mk' = 40 ↔ g.c = 40 := by
                rcases hg with ⟨e1, e2⟩ | e1
                · simp [Grp.mk', e1]
                · cases hf : g.f <;> simp [Grp.mk', e1, hf]
              have mk91 : g.mk' = 91 ↔ (g.c = 91 ∧ g.f.isNone = true) := by
                rcases hg with ⟨e1, e2⟩ | e1
                · simp [Grp.mk', e1]
                · cases hf : g.f <;> simp [Grp.mk', e1, hf]
              have mk124 : g.mk' = 124 ↔ (g.c = 91 ∧ g.f.isNone = false) := by
                rcases hg with ⟨e1, e2⟩ | e1
                · simp [Grp.mk', e1]
                · cases hf : g.f <;> simp [Grp.mk', e1, hf]
              by_cases a1 : c = 41 ∧ g.c = 40 ∧ its.isEmpty = false
              · have b1 : c = 41 ∧ g.mk' = 40 ∧ em = false := ⟨a1.1, mk40.mpr a1.2.1, by rw [hem (by rw [mk40.mpr a1.2.1]; decide)]; exact a1.2.2⟩
                rw [if_pos a1, if_pos b1]
                simp only
                have hk : EmOk r (g.o ++ [.rep its]) false := by
                  cases r with
                  | nil => trivial
                  | cons g' r' => exact .inr (by simp)
                exact rd_sc ca f (i + 1) t r _ false hf' hw' hk
              · have b1 : ¬ (c = 41 ∧ g.mk' = 40 ∧ em = false) := fun ⟨z1, z2, z3⟩ => a1 ⟨z1, mk40.mp z2, by rw [← hem (by rw [z2]; decide)]; exact z3⟩
                rw [if_neg a1, if_neg b1]
                by_cases a2 : c = 124 ∧ g.c = 91 ∧ g.f.isNone = true ∧ its.isEmpty = false
                · have m := mk91.mpr ⟨a2.2.1, a2.2.2.1⟩
                  have b2 : c = 124 ∧ g.mk' = 91 ∧ em = false := ⟨a2.1, m, by rw [hem (by rw [m]; decide)]; exact a2.2.2.2⟩
                  rw [if_pos a2, if_pos b2]
                  simp only
                  have em' : (⟨g.c, g.o, some its⟩ : Grp).mk' = 124 := by simp [Grp.mk', a2.2.1]
                  have := rd_sc ca f (i + 1) t (⟨g.c, g.o, some its⟩ :: r) [] em hf' ⟨.inr a2.2.1, hw'⟩ (.inl em')
                  rw [List.map_cons, em'] at this
                  exact this
                · have b2 : ¬ (c = 124 ∧ g.mk' = 91 ∧ em = false) := fun ⟨z1, z2, z3⟩ => a2 ⟨z1, (mk91.mp z2).1, (mk91.mp z2).2, by rw [← hem (by rw [z2]; decide)]; exact z3⟩
                  rw [if_neg a2, if_neg b2]
                  by_cases a3 : c = 93 ∧ g.c = 91
                  · rw [if_pos a3]
                    cases hgf : g.f with
                    | none =>
                      have b3 : ¬ (c = 93 ∧ g.mk' = 124) := fun ⟨_, z⟩ => by have := (mk124.mp z).2; rw [hgf] at this; cases this
                      rw [if_neg b3]
                      exact ⟨fun k h => by cases h; rfl, fun r h => by cases h⟩
                    | some fs =>
                      have b3 : c = 93 ∧ g.mk' = 124 := ⟨a3.1, mk124.mpr ⟨a3.2, by rw [hgf]; rfl⟩⟩
                      rw [if_pos b3]
                      simp only
                      have hk : EmOk r (g.o ++ [.cho fs its]) false := by
                        cases r with
                        | nil => trivial
                        | cons g' r' => exact .inr (by simp)
                      exact rd_sc ca f (i + 1) t r _ false hf' hw' hk
                  · have b3 : ¬ (c = 93 ∧ g.mk' = 124) := fun ⟨z1, z2⟩ => a3 ⟨z1, (mk124.mp z2).1⟩
                    rw [if_neg a3, if_neg b3]
                    exact ⟨fun k h => by cases h; rfl, fun r h => by cases h⟩
        · have ek : kl ca (c :: t) = .inl 0 := by simp only [kl]; rw [if_neg h1, if_neg h2, if_neg h3]
          have n3 : c ≠ 40 ∧ c ≠ 91 ∧ c ≠ 124 ∧ c ≠ 93 ∧ c ≠ 41 := by simpa [brs] using h3
          rw [ek, if_neg (by omega)]
          refine ⟨fun k h => ?_, fun r h => by cases h⟩
          cases h
          cases gs with
          | nil => rfl
          | cons g r =>
            simp only [List.map_cons]
            rw [if_neg (by omega), if_neg (by omega), if_neg (by omega)]
            rfl
def scn (ca : Bool) (t : List Nat) : Option Nat := sc ca 0 t [] true none
theorem read_scn (ca : Bool) (t : List Nat) : (∀ k, read ca t = .inl k → scn ca t = some k) ∧ (∀ r, read ca t = .inr r → scn ca t = none) := rd_sc ca t.length 0 t [] [] true (Nat.le_refl _) trivial trivial
/-! ### parts -/
abbrev fst4 : List Nat := [39, 61, 47, 64]
def spl : List Nat → Option Nat → List (List Nat)
  | [], none => []
  | [], some c => [[c]]
  | d :: t, some c => [c, d] :: spl t none
  | c :: t, none => if c ∈ fst4 then spl t (some c) else [c] :: spl t none
theorem spl_flat : ∀ (t : List Nat) (p : Option Nat), (spl t p).flatten = (match p with | none => t | some c => c :: t)
  | [], none => rfl
  | [], some c => rfl
  | d :: t, some c => by rw [spl, List.flatten_cons, spl_flat t none]; rfl
  | c :: t, none => by
    rw [spl]
    split
    · rw [spl_flat t (some c)]
    · rw [List.flatten_cons, spl_flat t none]; rfl
/-- a bracket or a bar -/
def isBr : List Nat → Bool
  | [c] => decide (c ∈ brs)
  | _ => false
def GK : List Grp → List (List Nat)
  | [] => []
  | g :: r => GK r ++ keysL g.o ++ (match g.f with | some f => keysL f | none => [])
/-- a part of a text that is read -/
def tokOk (ca : Bool) (t : List Nat) : Prop := (∃ c, c ∈ plk ∧ t = [c]) ∨ (∃ c, c ∈ brs ∧ t = [c]) ∨ (∃ c d, c ∈ sgk ∧ d ∈ sgn ∧ t = [c, d]) ∨ (ca = true ∧ ∃ d, d ∈ ltr ∧ t = [64, d])
theorem plk_f {c : Nat} (h : c ∈ plk) : c ∉ fst4 ∧ c ∉ brs := (show ∀ c ∈ plk, c ∉ fst4 ∧ c ∉ brs by decide) c h
theorem brs_f {c : Nat} (h : c ∈ brs) : c ∉ fst4 := (show ∀ c ∈ brs, c ∉ fst4 by decide) c h
theorem sgk_f {ca : Bool} {c : Nat} (h : c ∈ sgk ∨ (ca = true ∧ c = 64)) : c ∈ fst4 := by
  rcases h with h | ⟨_, rfl⟩
  · exact (show ∀ c ∈ sgk, c ∈ fst4 by decide) c h
  · decide
theorem rd_keys (ca : Bool) : ∀ (f i : Nat) (t : List Nat) (gs : List Grp) (its r : List It), t.length ≤ f → Gw gs → rd ca f i t gs its = .inr r →
    keysL r = GK gs ++ keysL its ++ (spl t none).filter (fun x => !isBr x) ∧ ∀ x ∈ spl t none, tokOk ca x
  | f, i, [], gs, its, r, _, _, h => by
    have e : rd ca f i [] gs its = if gs.isEmpty then .inr its else .inl i := by cases f <;> rfl
    rw [e] at h
    cases gs with
    | nil =>
      simp at h
      subst h
      exact ⟨by simp [GK, spl], by simp [spl]⟩
    | cons g q => simp at h
  | f + 1, i, c :: t, gs, its, r, hf, hw, h => by
    have hf' : t.length ≤ f := by simpa using hf
    rw [rd] at h
    by_cases h1 : c ∈ plk
    · have ek : kl ca (c :: t) = .inr 1 := by simp only [kl]; rw [if_pos h1]
      rw [ek] at h
      simp only at h
      obtain ⟨k1, k2⟩ := rd_keys ca f (i + 1) (t.drop 0) gs (its ++ [.key (c :: t.take 0)]) r (by simpa using hf') hw h
      obtain ⟨n1, n2⟩ := plk_f h1
      rw [List.drop_zero] at k1 k2
      have es : spl (c :: t) none = [c] :: spl t none := by rw [spl, if_neg n1]
      have eb : isBr [c] = false := by simp [isBr, n2]
      refine ⟨?_, ?_⟩
      · rw [k1, es, keysL_app, List.filter_cons, eb]
        simp [keysL, It.keys]
      · rw [es]
        intro x hx
        rcases List.mem_cons.mp hx with rfl | hx
        · exact .inl ⟨c, h1, rfl⟩
        · exact k2 x hx
    · by_cases h2 : c ∈ sgk ∨ (ca = true ∧ c = 64)
      · cases t with
        | nil =>
          have ek : kl ca [c] = .inl 1 := by simp only [kl]; rw [if_neg h1, if_pos h2]
          rw [ek] at h
          cases h
        | cons d t =>
          by_cases h3 : d ∈ (if c = 64 then ltr else sgn)
          · have ek : kl ca (c :: d :: t) = .inr 2 := by simp only [kl]; rw [if_neg h1, if_pos h2, if_pos h3]
            rw [ek] at h
            simp only at h
            obtain ⟨k1, k2⟩ := rd_keys ca f (i + 2) ((d :: t).drop 1) gs (its ++ [.key (c :: (d :: t).take 1)]) r (by simp at hf' ⊢; omega) hw h
            have e1 : (d :: t).drop 1 = t := rfl
            have e2 : (d :: t).take 1 = [d] := rfl
            rw [e1] at k1 k2
            rw [e2] at k1
            have es : spl (c :: d :: t) none = [c, d] :: spl t none := by rw [spl, if_pos (sgk_f h2), spl]
            refine ⟨?_, ?_⟩
            · rw [k1, es, keysL_app, List.filter_cons]
              simp [keysL, It.keys, isBr]
            · rw [es]
              intro x hx
              rcases List.mem_cons.mp hx with rfl | hx
              · rcases h2 with z | ⟨z1, z2⟩
                · have : c ≠ 64 := fun e => by rw [e] at z; exact absurd z (by decide)
                  rw [if_neg this] at h3
                  exact .inr (.inr (.inl ⟨c, d, z, h3, rfl⟩))
                · subst z2
                  exact .inr (.inr (.inr ⟨z1, d, h3, rfl⟩))
              · exact k2 x hx
          · have ek : kl ca (c :: d :: t) = .inl 1 := by simp only [kl]; rw [if_neg h1, if_pos h2, if_neg h3]
            rw [ek] at h
            cases h
      · by_cases h3 : c ∈ brs
        · have ek : kl ca (c :: t) = .inr 0 := by simp only [kl]; rw [if_neg h1, if_neg h2, if_pos h3]
          rw [ek] at h
          simp only at h
          have es : spl (c :: t) none = [c] :: spl t none := by rw [spl, if_neg (brs_f h3)]
          have eb : isBr [c] = true := by simp [isBr, h3]
          have fin : ∀ {gs2 : List Grp} {i2 : List It}, rd ca f (i + 1) t gs2 i2 = .inr r → Gw gs2 → GK gs2 ++ keysL i2 = GK gs ++ keysL its →
              keysL r = GK gs ++ keysL its ++ (spl (c :: t) none).filter (fun x => !isBr x) ∧ ∀ x ∈ spl (c :: t) none, tokOk ca x := by
            intro gs2 i2 h' hw2 e2
            obtain ⟨k1, k2⟩ := rd_keys ca f (i + 1) t gs2 i2 r hf' hw2 h'
            refine ⟨?_, ?_⟩
            · rw [k1, e2, es, List.filter_cons, eb]
              simp
            · rw [es]
              intro x hx
              rcases List.mem_cons.mp hx with rfl | hx
              · exact .inr (.inl ⟨c, h3, rfl⟩)
              · exact k2 x hx
          unfold brk at h
          by_cases h4 : c = 40 ∨ c = 91
          · rw [if_pos h4] at h
            by_cases h8 : gs.length = 8
            · rw [if_pos h8] at h; cases h
            · rw [if_neg h8] at h
              simp only at h
              exact fin h ⟨by rcases h4 with rfl | rfl; exact .inl ⟨rfl, rfl⟩; exact .inr rfl, hw⟩ (by simp [GK, keysL])
          · rw [if_neg h4] at h
            cases gs with
            | nil => cases h
            | cons g q =>
              obtain ⟨hg, hw'⟩ := hw
              simp only at h
              by_cases a1 : c = 41 ∧ g.c = 40 ∧ its.isEmpty = false
              · rw [if_pos a1] at h
                simp only at h
                have gf : g.f = none := by
                  rcases hg with ⟨_, e⟩ | e
                  · exact e
                  · rw [a1.2.1] at e; cases e
                exact fin h hw' (by rw [keysL_app]; simp [GK, gf, keysL, It.keys])
              · rw [if_neg a1] at h
                by_cases a2 : c = 124 ∧ g.c = 91 ∧ g.f.isNone = true ∧ its.isEmpty = false
                · rw [if_pos a2] at h
                  simp only at h
                  have gf : g.f = none := by simpa using a2.2.2.1
                  exact fin h ⟨.inr a2.2.1, hw'⟩ (by simp [GK, gf, keysL])
                · rw [if_neg a2] at h
                  by_cases a3 : c = 93 ∧ g.c = 91
                  · rw [if_pos a3] at h
                    cases hgf : g.f with
                    | none => rw [hgf] at h; cases h
                    | some fs =>
                      rw [hgf] at h
                      simp only at h
                      exact fin h hw' (by rw [keysL_app]; simp [GK, hgf, keysL, It.keys])
                  · rw [if_neg a3] at h; cases h
        · have ek : kl ca (c :: t) = .inl 0 := by simp only [kl]; rw [if_neg h1, if_neg h2, if_neg h3]
          rw [ek] at h
          cases h
theorem read_keysT {ca : Bool} {t : List Nat} {r : List It} (h : read ca t = .inr r) : keysL r = (spl t none).filter (fun x => !isBr x) ∧ ∀ x ∈ spl t none, tokOk ca x := by
  obtain ⟨k1, k2⟩ := rd_keys ca t.length 0 t [] [] r (Nat.le_refl _) trivial h
  exact ⟨by rw [k1]; simp [GK, keysL], k2⟩
/-! ### calls made plain -/
def pl1 (t : List Nat) : List Nat := if t.length = 2 ∧ t.head? = some 64 ∧ t.getD 1 0 ∈ ltr then [39, 97] else t
def plM (ps : List (List Nat)) : List Nat := (ps.map pl1).flatten
theorem pl1_one (c : Nat) : pl1 [c] = [c] := by unfold pl1; rw [if_neg (by simp)]
theorem pl1_two {c d : Nat} (h : c ≠ 64) : pl1 [c, d] = [c, d] := by unfold pl1; rw [if_neg (by simp [h])]
theorem plM_cons (x : List Nat) (ps : List (List Nat)) : plM (x :: ps) = pl1 x ++ plM ps := rfl
def SameFault (i : Nat) (pl : List Nat) (a b : Option Nat) : Prop := (a = none → b = none) ∧ ∀ k, a = some k → ∃ p, b = some p ∧ i ≤ p ∧ ((pl[p - i]? ≠ some 64 ∧ k = p) ∨ (pl[p - i]? = some 64 ∧ k = p + 1))
theorem SameFault.none {i : Nat} {pl : List Nat} : SameFault i pl none none := ⟨fun _ => rfl, fun k h => by cases h⟩
theorem SameFault.here {i k : Nat} {pl : List Nat} (h : pl[0]? ≠ some 64) (e : k = i) : SameFault i pl (some k) (some i) := by
  refine ⟨fun z => (by cases z), fun k' z => ?_⟩
  cases z
  exact ⟨i, rfl, Nat.le_refl _, .inl ⟨by rw [Nat.sub_self]; exact h, e⟩⟩
theorem SameFault.on {i n : Nat} {x pl : List Nat} {a b : Option Nat} (h : SameFault (i + n) pl a b) (hn : x.length = n) : SameFault i (x ++ pl) a b := by
  refine ⟨h.1, fun k e => ?_⟩
  obtain ⟨p, e1, e2, e3⟩ := h.2 k e
  refine ⟨p, e1, by omega, ?_⟩
  have e4 : (x ++ pl)[p - i]? = pl[p - (i + n)]? := by
    rw [List.getElem?_append_right (by omega), hn, show p - i - n = p - (i + n) by omega]
  rw [e4]
  exact e3
theorem sc_plain : ∀ (k : Nat) (t : List Nat) (i : Nat) (gs : List Nat) (em : Bool), t.length ≤ k → SameFault i (plM (spl t none)) (sc true i t gs em none) (sc false i (plM (spl t none)) gs em none)
  | _, [], i, gs, em, _ => by
    have e : plM (spl [] none) = [] := rfl
    rw [e]
    show SameFault i [] (if gs.isEmpty then none else some i) (if gs.isEmpty then none else some i)
    split
    · exact .none
    · exact .here (by simp) rfl
  | k + 1, c :: t, i, gs, em, hk => by
    have hk' : t.length ≤ k := by simpa using hk
    by_cases h1 : c ∈ plk
    · have es : spl (c :: t) none = [c] :: spl t none := by rw [spl, if_neg (plk_f h1).1]
      rw [es, plM_cons, pl1_one, List.singleton_append, sc_cons, if_pos h1, sc_cons, if_pos h1]
      exact (sc_plain k t (i + 1) gs false hk').on (x := [c]) rfl
    · by_cases h4 : c = 64
      · subst h4
        rw [sc_cons, if_neg h1, if_pos (.inr ⟨rfl, rfl⟩)]
        have bad : ∀ r : List Nat, sc false i (64 :: r) gs em none = some i := by
          intro r
          rw [sc_cons, if_neg h1, if_neg (by decide), if_neg (by decide)]
          cases gs with
          | nil => rfl
          | cons g r =>
            simp only
            rw [if_neg (by omega), if_neg (by omega), if_neg (by omega)]
        cases t with
        | nil =>
          have es : spl [64] none = [[64]] := rfl
          rw [es, plM_cons, pl1_one]
          have e1 : sc true (i + 1) [] gs em (some 64) = some (i + 1) := by cases gs <;> rfl
          rw [e1]
          show SameFault i ([64] ++ plM []) (some (i + 1)) (sc false i (64 :: plM []) gs em none)
          rw [bad]
          exact ⟨fun z => (by cases z), fun k' z => (by cases z; exact ⟨i, rfl, Nat.le_refl _, .inr ⟨by simp, rfl⟩⟩)⟩
        | cons d t =>
          have es : spl (64 :: d :: t) none = [64, d] :: spl t none := rfl
          rw [es, plM_cons, sc_pend, if_pos rfl]
          by_cases hd : d ∈ ltr
          · have ep : pl1 [64, d] = [39, 97] := by simp [pl1, hd]
            rw [if_pos hd, ep]
            have e2 : sc false i ([39, 97] ++ plM (spl t none)) gs em none = sc false (i + 2) (plM (spl t none)) gs false none := by
              show sc false i (39 :: 97 :: plM (spl t none)) gs em none = _
              rw [sc_two _ _ _ _ _ _ _ (.inl (by decide)), if_pos (by decide)]
            rw [e2]
            exact (sc_plain k t (i + 2) gs false (by simp at hk'; omega)).on (x := [39, 97]) rfl
          · have ep : pl1 [64, d] = [64, d] := by simp [pl1, hd]
            rw [if_neg hd, ep]
            show SameFault i ([64, d] ++ plM (spl t none)) (some (i + 1)) (sc false i (64 :: d :: plM (spl t none)) gs em none)
            rw [bad]
            exact ⟨fun z => (by cases z), fun k' z => (by cases z; exact ⟨i, rfl, Nat.le_refl _, .inr ⟨by simp, rfl⟩⟩)⟩
      · by_cases h2 : c ∈ sgk
        · cases t with
          | nil =>
            have es : spl [c] none = [[c]] := by rw [spl, if_pos (sgk_f (ca := true) (.inl h2)), spl]
            rw [es, plM_cons, pl1_one]
            show SameFault i ([c] ++ plM []) (sc true i [c] gs em none) (sc false i [c] gs em none)
            rw [sc_end _ _ _ _ _ (.inl h2), sc_end _ _ _ _ _ (.inl h2)]
            exact ⟨fun z => (by cases z), fun k' z => (by cases z; exact ⟨i + 1, rfl, by omega, .inl ⟨by simp [plM], rfl⟩⟩)⟩
          | cons d t =>
            have es : spl (c :: d :: t) none = [c, d] :: spl t none := by rw [spl, if_pos (sgk_f (ca := true) (.inl h2)), spl]
            rw [es, plM_cons, pl1_two h4, sc_two _ _ _ _ _ _ _ (.inl h2)]
            show SameFault i ([c, d] ++ plM (spl t none)) _ (sc false i (c :: d :: plM (spl t none)) gs em none)
            rw [sc_two _ _ _ _ _ _ _ (.inl h2), if_neg h4]
            by_cases hd : d ∈ sgn
            · rw [if_pos hd, if_pos hd]
              exact (sc_plain k t (i + 2) gs false (by simp at hk'; omega)).on (x := [c, d]) rfl
            · rw [if_neg hd, if_neg hd]
              have d64 : d ≠ 64 := fun e => hd (by rw [e]; decide)
              exact ⟨fun z => (by cases z), fun k' z => (by cases z; exact ⟨i + 1, rfl, by omega, .inl ⟨by simp [d64], rfl⟩⟩)⟩
        · have n4 : c ∉ fst4 := by
            intro z
            have : c = 39 ∨ c = 61 ∨ c = 47 ∨ c = 64 := by simpa [fst4] using z
            have n2 : c ≠ 39 ∧ c ≠ 61 ∧ c ≠ 47 := by simpa [sgk] using h2
            omega
          have es : spl (c :: t) none = [c] :: spl t none := by rw [spl, if_neg n4]
          have nT : ¬ (c ∈ sgk ∨ (true = true ∧ c = 64)) := fun z => z.elim h2 fun z => h4 z.2
          have nF : ¬ (c ∈ sgk ∨ (false = true ∧ c = 64)) := fun z => z.elim h2 fun z => h4 z.2
          rw [es, plM_cons, pl1_one, List.singleton_append, sc_cons true, if_neg h1, if_neg nT, sc_cons false, if_neg h1, if_neg nF]
          have here : SameFault i (c :: plM (spl t none)) (some i) (some i) := .here (by simp [h4]) rfl
          have go : ∀ gs' em', SameFault i (c :: plM (spl t none)) (sc true (i + 1) t gs' em' none) (sc false (i + 1) (plM (spl t none)) gs' em' none) := fun gs' em' => (sc_plain k t (i + 1) gs' em' hk').on (x := [c]) rfl
          by_cases h5 : c = 40 ∨ c = 91
          · rw [if_pos h5, if_pos h5]
            by_cases h8 : gs.length = 8
            · rw [if_pos h8, if_pos h8]; exact here
            · rw [if_neg h8, if_neg h8]; exact go _ _
          · rw [if_neg h5, if_neg h5]
            cases gs with
            | nil => exact here
            | cons g r =>
              simp only
              by_cases a1 : c = 41 ∧ g = 40 ∧ em = false
              · rw [if_pos a1, if_pos a1]; exact go _ _
              · rw [if_neg a1, if_neg a1]
                by_cases a2 : c = 124 ∧ g = 91 ∧ em = false
                · rw [if_pos a2, if_pos a2]; exact go _ _
                · rw [if_neg a2, if_neg a2]
                  by_cases a3 : c = 93 ∧ g = 124
                  · rw [if_pos a3, if_pos a3]; exact go _ _
                  · rw [if_neg a3, if_neg a3]; exact here
theorem scn_plain (t : List Nat) : SameFault 0 (plM (spl t none)) (scn true t) (scn false (plM (spl t none))) := sc_plain t.length t 0 [] true (Nat.le_refl _)
/-! ### a part in the brackets' text -/
theorem occ_none {a : List Nat} {c d : Nat} (h : c ∉ a) : (Builtin.Str.occurrences (S a) (S [c, d]) 0 (S a).length 1).isEmpty = true := by
  rcases StrLaws.occ_head (S a) (S [c, d]) 1 (Nat.le_refl _) with ⟨h0, _⟩ | ⟨i, r, h0, hi, _⟩
  · rw [h0]; rfl
  · exfalso
    rw [TL.at_iff (by simp [TL.tl])] at hi
    have hi' : TL.pre [c, d] (a.drop i) = true := hi
    unfold TL.pre at hi'
    have e : (a.drop i).take 2 = [c, d] := by simpa using hi'
    have : c ∈ (a.drop i).take 2 := by rw [e]; simp
    exact h (List.mem_of_mem_drop (List.mem_of_mem_take this))
def partOk (t : List Nat) : Prop := (∃ c, t = [c]) ∨ ∃ c d, t = [c, d] ∧ c ∈ fst4
def rInB (neg : Bool) : R2 := fun x y H Q => ∃ t : List Nat, x = .str (S t) ∧ y = .str (S [40, 91, 124, 93, 41]) ∧ partOk t ∧ Q (.bl (if neg then !isBr t else isBr t)) H
theorem op_inB {X : Cx} : OpR X (compareOp .In) (rInB false) := by
  intro pins s σ H x y v u Q I rx ry h
  obtain ⟨t, rfl, rfl, hp, q⟩ := h
  rcases hp with ⟨c, rfl⟩ | ⟨c, d, rfl, hc⟩
  · exact op_inS pins s σ H _ _ v u Q I rx ry ⟨c, _, rfl, rfl, q⟩
  · refine op_in_str pins s σ H _ _ v u Q I rx ry ⟨_, _, rfl, rfl, ?_⟩
    rw [occ_none (fun z => brs_f z hc)]
    exact q
theorem op_notInB {X : Cx} : OpR X (compareOp .NotIn) (rInB true) := by
  intro pins s σ H x y v u Q I rx ry h
  obtain ⟨t, rfl, rfl, hp, q⟩ := h
  rcases hp with ⟨c, rfl⟩ | ⟨c, d, rfl, hc⟩
  · exact op_notInS pins s σ H _ _ v u Q I rx ry ⟨c, _, rfl, rfl, q⟩
  · refine op_notin_str pins s σ H _ _ v u Q I rx ry ⟨_, _, rfl, rfl, ?_⟩
    rw [occ_none (fun z => brs_f z hc)]
    exact q
theorem spl_part : ∀ (t : List Nat) (p : Option Nat), (∀ c, p = some c → c ∈ fst4) → ∀ x ∈ spl t p, partOk x
  | [], none, _ => by intro x hx; simp [spl] at hx
  | [], some c, _ => by intro x hx; simp [spl] at hx; exact .inl ⟨c, hx⟩
  | d :: t, some c, h => by
    intro x hx
    rcases List.mem_cons.mp (show x ∈ [c, d] :: spl t none from hx) with rfl | hx
    · exact .inr ⟨c, d, rfl, h c rfl⟩
    · exact spl_part t none (fun _ z => by cases z) x hx
  | c :: t, none, _ => by
    intro x hx
    rw [spl] at hx
    split at hx
    · rename_i hc
      exact spl_part t (some c) (fun e z => by cases z; exact hc) x hx
    · rcases List.mem_cons.mp hx with rfl | hx
      · exact .inl ⟨c, rfl⟩
      · exact spl_part t none (fun _ z => by cases z) x hx
end Kr

set_option Elab.async false
set_option linter.all false
set_option maxRecDepth 100000
set_option maxHeartbeats 2000000
/-! ### sets of tuples of any form: members are asked for and added (fewer than 64) -/
namespace Kr
open PySem PySem.Spec PyProof.Rows L2
section
variable {P : Program} {w : World}
/-- no class of one's own stands in a key -/
def NoCls (P : Program) (w : World) (n : Nat) (s : Shared) (v : Value) : Prop := ∀ (A : Around) (E : Value → Shared → Prop) (Q : Bool → Shared → Prop), Q false s → wpAny (model P w) A (ofAClassStatement n v) Q E s
def HashAsk (P : Program) (w : World) (n : Nat) (s : Shared) (v : Value) : Prop := ∀ (A : Around) (E : Value → Shared → Prop) (Q : Bool → Shared → Prop), (∀ b, Q b s) → wpAny (model P w) A (hashByValue n v) Q E s
theorem NoCls.tup {n m : Nat} {s : Shared} {a : Addr} {o : Obj} {vs : Array Value} (ho : s.heap.get? a = some o) (hc : o.cls = .type "tuple") (hd : o.data = .seq vs m) (hv : ∀ v ∈ vs.toList, NoCls P w n s v) : NoCls P w (n + 1) s (.ref a) := fun A E Q h => by
  have hT : s.TypeIs (.ref a) "tuple" := ⟨o, ho, hc⟩
  unfold ofAClassStatement
  refine wpAny_bind (wpAny_typeOf hT ?_)
  dsimp only
  have e : (("tuple" : String) == "tuple") = true := by decide
  simp only [e, if_true, Bool.not_true, Bool.false_eq_true, if_false]
  try refine wpAny_bind (wpAny_pure ?_)
  try simp only [Bool.not_true, Bool.false_eq_true, if_false]
  show wpAny _ _ (seqItems? (.ref a) >>= _) _ _ s
  refine wpAny_bind (wpAny_seqItems ho hd ?_)
  dsimp only
  refine wpAny_bind ?_
  show wpAny _ _ (forIn vs _ _) _ _ s
  rw [← Array.forIn_toList]
  refine wpAny_forIn_list _ (fun rest r s' => r.1 = none ∧ s' = s ∧ ∀ v ∈ rest, NoCls P w n s v) _ ?_ ?_ _ _ ⟨rfl, rfl, hv⟩
  · rintro v rest r s' ⟨hr, rfl, hall⟩
    refine wpAny_bind (hall v List.mem_cons_self _ _ _ ?_)
    simp only [Bool.false_eq_true, if_false]
    exact wpAny_pure ⟨rfl, rfl, fun u hu' => hall u (List.mem_cons_of_mem _ hu')⟩
  · rintro ⟨r1, r2⟩ s' ⟨hr, rfl, _⟩
    simp only at hr
    subst hr
    exact wpAny_pure h
theorem HashAsk.tup {n m : Nat} {s : Shared} {a : Addr} {o : Obj} {vs : Array Value} (ho : s.heap.get? a = some o) (hc : o.cls = .type "tuple") (hd : o.data = .seq vs m) (hv : ∀ v ∈ vs.toList, HashAsk P w n s v) : HashAsk P w (n + 1) s (.ref a) := fun A E Q h => by
  have hT : s.TypeIs (.ref a) "tuple" := ⟨o, ho, hc⟩
  unfold hashByValue
  refine wpAny_bind (wpAny_specialOf hT F.slot_tuple_hash.lookup ?_)
  show wpAny _ _ (seqItems? (.ref a) >>= _) _ _ s
  refine wpAny_bind (wpAny_seqItems ho hd ?_)
  refine wpAny_bind ?_
  show wpAny _ _ (forIn vs _ _) _ _ s
  rw [← Array.forIn_toList]
  refine wpAny_forIn_list _ (fun rest r s' => r.1 = none ∧ s' = s ∧ ∀ v ∈ rest, HashAsk P w n s v) _ ?_ ?_ _ _ ⟨rfl, rfl, hv⟩
  · rintro v rest r s' ⟨hr, rfl, hall⟩
    refine wpAny_bind (hall v List.mem_cons_self _ _ _ fun b => ?_)
    cases b with
    | true =>
      simp only [Bool.not_true, Bool.false_eq_true, if_false]
      exact wpAny_pure ⟨rfl, rfl, fun u hu' => hall u (List.mem_cons_of_mem _ hu')⟩
    | false =>
      simp only [Bool.not_false, if_true]
      exact wpAny_pure (wpAny_pure (h false))
  · rintro ⟨r1, r2⟩ s' ⟨hr, rfl, _⟩
    simp only at hr
    subst hr
    exact wpAny_pure (h true)
mutual
theorem noCls_key : ∀ (k : NestedKey) (v : Value) (n : Nat) (s : Shared), NestedIs s.heap k v → k.depth ≤ n → NoCls P w n s v
  | .none, _, n, s, x, _ => by
    cases x
    intro A E Q h
    have e : ofAClassStatement n .none = pure false := by cases n <;> rfl
    rw [e]; exact wpAny_pure h
  | .num i, _, n, s, x, _ => by
    intro A E Q h
    cases x with
    | bool _ =>
      rename_i b _
      have e : ofAClassStatement n (.bool b) = pure false := by cases n <;> rfl
      rw [e]; exact wpAny_pure h
    | int _ t =>
      have e : ofAClassStatement n (.int i t) = pure false := by cases n <;> rfl
      rw [e]; exact wpAny_pure h
  | .text y, _, n, s, x, _ => by
    intro A E Q h
    cases x with
    | text _ t =>
      have e : ofAClassStatement n (.str y t) = pure false := by cases n <;> rfl
      rw [e]; exact wpAny_pure h
  | .tup ks, _, n, s, x, hd => by
    cases x with
    | tup ho hc hdat hk =>
      have hd' : NestedKey.depthAll ks + 1 ≤ n := by simpa [NestedKey.depth] using hd
      obtain ⟨m, rfl⟩ : ∃ m, n = m + 1 := ⟨n - 1, by omega⟩
      exact NoCls.tup ho hc hdat (noCls_keys ks _ m s hk (by omega))
theorem noCls_keys : ∀ (ks : List NestedKey) (vs : List Value) (n : Nat) (s : Shared), NestedAll s.heap ks vs → NestedKey.depthAll ks ≤ n → ∀ v ∈ vs, NoCls P w n s v
  | [], _, n, s, x, _ => by cases x; intro v hv; cases hv
  | k :: ks, _, n, s, x, hd => by
    cases x with
    | cons x1 x2 =>
      have hd' : max k.depth (NestedKey.depthAll ks) ≤ n := by simpa [NestedKey.depthAll] using hd
      intro v hv
      rcases List.mem_cons.mp hv with e | hv
      · rw [e]; exact noCls_key k _ n s x1 (by omega)
      · exact noCls_keys ks _ n s x2 (by omega) v hv
end
mutual
theorem hashAsk_key : ∀ (k : NestedKey) (v : Value) (n : Nat) (s : Shared), NestedIs s.heap k v → k.depth ≤ n → HashAsk P w n s v
  | .none, _, n, s, x, _ => by
    cases x
    intro A E Q h
    have e : hashByValue n .none = pure true := by cases n <;> rfl
    rw [e]; exact wpAny_pure (h _)
  | .num i, _, n, s, x, _ => by
    intro A E Q h
    cases x with
    | bool _ =>
      rename_i b _
      have e : hashByValue n (.bool b) = pure true := by cases n <;> rfl
      rw [e]; exact wpAny_pure (h _)
    | int _ t =>
      have e : hashByValue n (.int i t) = pure true := by cases n <;> rfl
      rw [e]; exact wpAny_pure (h _)
  | .text y, _, n, s, x, _ => by
    intro A E Q h
    cases x with
    | text _ t =>
      have e : hashByValue n (.str y t) = pure false := by cases n <;> rfl
      rw [e]; exact wpAny_pure (h _)
  | .tup ks, _, n, s, x, hd => by
    cases x with
    | tup ho hc hdat hk =>
      have hd' : NestedKey.depthAll ks + 1 ≤ n := by simpa [NestedKey.depth] using hd
      obtain ⟨m, rfl⟩ : ∃ m, n = m + 1 := ⟨n - 1, by omega⟩
      exact HashAsk.tup ho hc hdat (hashAsk_keys ks _ m s hk (by omega))
theorem hashAsk_keys : ∀ (ks : List NestedKey) (vs : List Value) (n : Nat) (s : Shared), NestedAll s.heap ks vs → NestedKey.depthAll ks ≤ n → ∀ v ∈ vs, HashAsk P w n s v
  | [], _, n, s, x, _ => by cases x; intro v hv; cases hv
  | k :: ks, _, n, s, x, hd => by
    cases x with
    | cons x1 x2 =>
      have hd' : max k.depth (NestedKey.depthAll ks) ≤ n := by simpa [NestedKey.depthAll] using hd
      intro v hv
      rcases List.mem_cons.mp hv with e | hv
      · rw [e]; exact hashAsk_key k _ n s x1 (by omega)
      · exact hashAsk_keys ks _ n s x2 (by omega) v hv
end
/-- the tuple at b is the key k -/
def IsN (h : Heap) (k : NestedKey) (b : Addr) : Prop := NestedIs h k (.ref b) ∧ k.depth ≤ 8
theorem IsN.keep {h h' : Heap} {k : NestedKey} {b : Addr} (x : IsN h k b) (hk : ∀ a o vs n, h.get? a = some o → o.data = .seq vs n → h'.get? a = some o) : IsN h' k b := ⟨NestedIs.at hk k _ x.1, x.2⟩
theorem IsN.same {h h' : Heap} {k : NestedKey} {a b : Addr} {o : Obj} {es : Array (Int × Value)} {ep : Nat} {t : SetTable} (x : IsN h k b) (ho : h.get? a = some o) (hd : o.data = .set es ep t) (hs : Heap.SameBut a h h') : IsN h' k b := by
  refine x.keep fun c oc vs n hc hcd => ?_
  refine (hs.2 c ?_).trans hc
  rintro rfl
  rw [ho] at hc
  cases hc
  rw [hd] at hcd
  cases hcd
variable {A : Around} {E : Value → Shared → Prop} {s : Shared}
theorem seenN {k : NestedKey} {b : Addr} {Q : Bool → Shared → Prop} (hk : IsN s.heap k b) {ys : List Value} (hy : ∀ y ∈ ys, ∃ k' c, y = Value.ref c ∧ IsN s.heap k' c) (h : Q false s) : wpAny (model P w) A (searchCouldBeSeen (.ref b) ys) Q E s := by
  unfold searchCouldBeSeen
  refine wpAny_bind ?_
  refine wpAny_forIn_list _ (fun rest r s' => r.1 = none ∧ s' = s ∧ ∀ y ∈ rest, ∃ k' c, y = Value.ref c ∧ IsN s.heap k' c) _ ?_ ?_ _ _ ⟨rfl, rfl, hy⟩
  · rintro v rest r s' ⟨hr, rfl, hall⟩
    obtain ⟨k', c, rfl, hc⟩ := hall v List.mem_cons_self
    have rest' : ∀ y ∈ rest, ∃ k' c, y = Value.ref c ∧ IsN s'.heap k' c := fun u hu' => hall u (List.mem_cons_of_mem _ hu')
    dsimp only
    by_cases hv : (b == c || (carriedByValue (.ref b) && carriedByValue (.ref c))) = true
    · exact wp_if_pos hv (wpAny_pure ⟨rfl, rfl, rest'⟩)
    · refine wp_if_neg hv ?_
      refine wpAny_bind (quiet_key k _ 8 _ hk.1 hk.2 _ _ _ ?_)
      simp only [Bool.not_true, Bool.false_eq_true, if_false]
      refine wpAny_bind (quiet_key k' _ 8 _ hc.1 hc.2 _ _ _ ?_)
      simp only [Bool.not_true, Bool.false_eq_true, if_false]
      refine wpAny_bind (noCls_key k _ 8 _ hk.1 hk.2 _ _ _ ?_)
      simp only [Bool.false_eq_true, if_false]
      refine wpAny_bind (noCls_key k' _ 8 _ hc.1 hc.2 _ _ _ ?_)
      simp only [Bool.false_eq_true, if_false]
      exact wpAny_pure ⟨rfl, rfl, rest'⟩
  · rintro ⟨r1, r2⟩ s' ⟨hr, rfl, _⟩
    simp only at hr
    subst hr
    exact wpAny_pure h
theorem eqN {x y : NestedKey} {a b : Addr} {Q : Bool → Shared → Prop} (hu : A.units + 8 < cLine) (hx : IsN s.heap x a) (hy : IsN s.heap y b) (h : Q (decide (x = y)) s) : wpAny (model P w) A (eqBool (.ref a) (.ref b)) Q E s := (nestedKind P w).eqBool hu hx hy h
/-! ### the set and its table -/
abbrev nh (w : World) (p : Addr × NestedKey) : Int := p.2.hash w
def entN (w : World) (L : List (Addr × NestedKey)) : List (Int × Value) := L.map fun p => (nh w p, Value.ref p.1)
structure SN (w : World) (h : Heap) (a : Addr) (L : List (Addr × NestedKey)) (es : Array (Int × Value)) (ep : Nat) (t : SetTable) : Prop where
  ob : ∃ o, h.get? a = some o ∧ o.ExactSet ∧ o.data = .set es ep t
  rows : es.toList = entN w L
  tab : TabOk t (L.map (nh w))
  nd : (L.map (·.2)).Nodup
  tup : ∀ p ∈ L, IsN h p.2 p.1
  room : L.length * 5 < t.mask * 3
variable {a : Addr} {L : List (Addr × NestedKey)} {es : Array (Int × Value)} {ep : Nat} {t : SetTable}
theorem ent_len {w : World} {L : List (Addr × NestedKey)} {es : Array (Int × Value)} (h : es.toList = entN w L) : es.size = L.length := by
  have h1 := congrArg List.length h
  unfold entN at h1
  rw [Array.length_toList, List.length_map] at h1
  exact h1
theorem ent_at {w : World} {L : List (Addr × NestedKey)} {es : Array (Int × Value)} (h : es.toList = entN w L) {i : Nat} {p : Addr × NestedKey} (hp : L[i]? = some p) : es[i]? = some (nh w p, Value.ref p.1) := by
  rw [← Array.getElem?_toList, h]
  unfold entN
  rw [List.getElem?_map, hp] <;> rfl
theorem fits_of {t : SetTable} {n : Nat} (h1 : t.place.size = n) (h2 : t.dummies = #[]) (h3 : n ≤ t.mask) : t.fits n = true := by
  unfold SetTable.fits SetTable.fill
  rw [h2, Bool.and_eq_true, beq_iff_eq, decide_eq_true_eq]
  show t.place.size = n ∧ t.place.size + 0 ≤ t.mask
  omega
theorem SN.fits (R : SN w s.heap a L es ep t) : t.fits es.size = true := by
  have h1 := R.tab.sz
  rw [List.length_map] at h1
  have h2 := ent_len R.rows
  have h3 := R.room
  exact fits_of (by omega) R.tab.dm (by omega)
theorem SN.gw (R : SN w s.heap a L es ep t) : ¬ t.gaveWay = true := by
  unfold SetTable.gaveWay
  rw [mask_odd R.tab.mok]
  decide
abbrev pr0 (m : Nat) (h : Int) : SetTable.Probe := runAt m (SetTable.bits h % (m + 1)) (SetTable.bits h)
theorem pr_dm (m : Nat) (h : Int) (c : Nat) : (nth m (pr0 m h) c).dummy = none := by
  have key : ∀ (n : Nat) (p : SetTable.Probe), p.dummy = none → (nth m p n).dummy = none := by
    intro n
    induction n with
    | zero => intro p h; exact h
    | succ n ih =>
      intro p h
      refine ih (adv m p) ?_
      unfold adv
      split <;> exact h
  exact key c _ rfl
/-- the search from the c-th step of the way on -/
theorem searchN (R : SN w s.heap a L es ep t) (ad : Bool) {x : Addr} {k : NestedKey} (hx : IsN s.heap k x) (hu : A.units + 8 < cLine) {K : Nat} (hKf : K < 10 * SetTable.turns t.mask)
    (hK : way t.mask (k.hash w) K ∉ t.place.toList) (hKb : ∀ c, c < K → way t.mask (k.hash w) c ∈ t.place.toList) {Q : SetFound → Shared → Prop}
    (hin : k ∈ L.map (·.2) → ∀ r : Option Nat, (ad = false → r.isSome = true) → Q (.there r) s) (hout : k ∉ L.map (·.2) → Q (.free (way t.mask (k.hash w) K) false) s) :
    ∀ (f c : Nat) (stand : Option SetTable.Probe), stand.getD (t.probeStart (k.hash w)) = nth t.mask (pr0 t.mask (k.hash w)) c → c ≤ K → K - c < f →
      (∀ (i : Nat) p, L[i]? = some p → p.2 = k → ∃ c', c ≤ c' ∧ c' < K ∧ t.place.toList[i]? = some (way t.mask (k.hash w) c')) →
      wpAny (model P w) A (setSearchFrom a (.ref x) (k.hash w) ad f stand) Q E s
  | 0, c, stand, _, _, hf, _ => absurd hf (Nat.not_lt_zero _)
  | f + 1, c, stand, hst, hc, hf, hre => by
    obtain ⟨o, ho, hex, hd⟩ := R.ob
    rw [setSearchFrom_succ]
    refine wpAny_bind (wpAny_setState_of ho hd R.fits ?_)
    dsimp only
    refine wp_if_neg R.gw ?_
    try refine wpAny_bind (wpAny_pure ?_)
    have sh : ∀ q, nth t.mask (nth t.mask (pr0 t.mask (k.hash w)) c) q = nth t.mask (pr0 t.mask (k.hash w)) (c + q) := fun q => (nth_add t.mask c _ q).symm
    have e1 : ∀ q, (nth t.mask (nth t.mask (pr0 t.mask (k.hash w)) c) q).j = way t.mask (k.hash w) (c + q) := fun q => congrArg SetTable.Probe.j (sh q)
    have spec := go_spec t R.tab.ris R.tab.dm (fun i => (es[i]?.map (·.1)).getD 0) (k.hash w) (10 * SetTable.turns t.mask) (K - c) _ (pr_dm t.mask (k.hash w) c) (by omega)
      (fun q hq => by rw [e1]; exact hKb (c + q) (by omega)) (by rw [e1, show c + (K - c) = K by omega]; exact hK)
    have hashAt : ∀ (i : Nat) p, L[i]? = some p → (fun i => (es[i]?.map (·.1)).getD 0) i = nh w p := fun i p hp => by
      show (es[i]?.map (·.1)).getD 0 = _
      rw [ent_at R.rows hp] <;> rfl
    rcases spec with ⟨q, i, hq, hi, hh, hno, hpr⟩ | ⟨hno, hpr⟩
    · have hpr' : t.probe (fun i => (es[i]?.map (·.1)).getD 0) (k.hash w) (stand.getD (t.probeStart (k.hash w))) = some (.candidate (way t.mask (k.hash w) (c + q)) i (nth t.mask (pr0 t.mask (k.hash w)) (c + (q + 1)))) := by
        rw [hst, ← e1, ← sh]
        exact hpr
      rw [hpr']
      dsimp only
      rw [e1] at hi
      have hil : i < L.length := by
        have h1 : i < t.place.toList.length := (List.getElem?_eq_some_iff.mp hi).1
        have h2 := R.tab.sz
        rw [List.length_map] at h2
        rw [Array.length_toList] at h1
        omega
      have hp : L[i]? = some L[i] := List.getElem?_eq_getElem hil
      generalize hpe : L[i] = p at hp
      have hmem : p ∈ L := List.mem_of_getElem? hp
      have hpt := R.tup p hmem
      have hent := ent_at R.rows hp
      have rest : wpAny (model P w) A (searchRest a (.ref x) (k.hash w) ad f es t (way t.mask (k.hash w) (c + q)) i (nth t.mask (pr0 t.mask (k.hash w)) (c + (q + 1)))) Q E s := by
        unfold searchRest
        rw [hent]
        dsimp only
        refine wpAny_bind (wpAny_holding (eqN hu hpt hx ?_))
        refine wpAny_bind (wpAny_setState_of ho hd R.fits ?_)
        dsimp only
        have hsl : t.slot (way t.mask (k.hash w) (c + q)) = .live i := slot_live R.tab.ris hi
        by_cases had : (ad && decide (p.2 = k)) = true
        · refine wp_if_pos had ?_
          rw [Bool.and_eq_true] at had
          exact wpAny_pure (hin (List.mem_map.mpr ⟨p, hmem, of_decide_eq_true had.2⟩) none fun z => by rw [had.1] at z; cases z)
        · refine wp_if_neg had ?_
          try refine wpAny_bind (wpAny_pure ?_)
          rw [sameMem]
          dsimp only
          simp only [if_true, hsl, hent]
          refine wpAny_bind (wpAny_isSame_ref_self (wpAny_bind (wpAny_pure ?_)))
          simp only [if_true]
          by_cases hkk : p.2 = k
          · refine wp_if_pos (by simp [hkk]) ?_
            exact wpAny_pure (hin (List.mem_map.mpr ⟨p, hmem, hkk⟩) (some i) fun _ => rfl)
          · refine wp_if_neg (by simp [hkk]) ?_
            refine searchN R ad hx hu hKf hK hKb hin hout f (c + (q + 1)) _ rfl (by omega) (by omega) fun i0 p0 h0 hk0 => ?_
            obtain ⟨c', a1, a2, a3⟩ := hre i0 p0 h0 hk0
            refine ⟨c', ?_, a2, a3⟩
            rcases Nat.lt_or_ge c' (c + q) with z | z
            · exfalso
              refine hno (c' - c) i0 (by omega) (by rw [e1, show c + (c' - c) = c' by omega]; exact a3) ?_
              exact (hashAt i0 p0 h0).trans (by show p0.2.hash w = _; rw [hk0])
            · rcases Nat.lt_or_ge (c + q) c' with y | y
              · omega
              · exfalso
                have ec : c' = c + q := Nat.le_antisymm y z
                rw [ec] at a3
                have s0 := slot_live R.tab.ris a3
                rw [hsl] at s0
                injection s0 with s0
                rw [← s0, hp] at h0
                cases h0
                exact hkk hk0
      by_cases hl : t.led = true
      · refine wp_if_neg (by simp [hl]) ?_
        try refine wpAny_bind (wpAny_pure ?_)
        exact rest
      · refine wp_if_pos (by simp [hl]) ?_
        refine wpAny_bind (seenN hx (fun y hy => ?_) ?_)
        · obtain ⟨e, he, ee⟩ := List.mem_map.mp hy
          have he1 : e ∈ es ∧ e.1 = k.hash w := by simpa using he
          have he2 : e ∈ es.toList := by simpa using he1.1
          rw [R.rows] at he2
          obtain ⟨p2, hp2, e2⟩ := List.mem_map.mp he2
          exact ⟨p2.2, p2.1, by rw [← ee, ← e2], R.tup p2 hp2⟩
        · refine wp_if_neg (by decide) ?_
          try refine wpAny_bind (wpAny_pure ?_)
          exact rest
    · have hpr' : t.probe (fun i => (es[i]?.map (·.1)).getD 0) (k.hash w) (stand.getD (t.probeStart (k.hash w))) = some (.empty (way t.mask (k.hash w) K) none) := by
        have e2 : way t.mask (k.hash w) K = (nth t.mask (nth t.mask (pr0 t.mask (k.hash w)) c) (K - c)).j := by
          rw [e1, show c + (K - c) = K by omega]
        rw [hst, e2]
        exact hpr
      rw [hpr']
      dsimp only
      refine wpAny_pure (hout fun hm => ?_)
      obtain ⟨p0, h0, hk0⟩ := List.mem_map.mp hm
      obtain ⟨i0, hi0, e0⟩ := List.getElem_of_mem h0
      have h00 : L[i0]? = some p0 := by rw [List.getElem?_eq_getElem hi0, e0]
      obtain ⟨c', a1, a2, a3⟩ := hre i0 p0 h00 hk0
      refine hno (c' - c) i0 (by omega) (by rw [e1, show c + (c' - c) = c' by omega]; exact a3) ?_
      exact (hashAt i0 p0 h00).trans (by show p0.2.hash w = _; rw [hk0])
/-- the search from the start -/
theorem searchN0 (R : SN w s.heap a L es ep t) (ad : Bool) {x : Addr} {k : NestedKey} (hx : IsN s.heap k x) (hu : A.units + 8 < cLine) {Q : SetFound → Shared → Prop}
    (hin : k ∈ L.map (·.2) → ∀ r : Option Nat, (ad = false → r.isSome = true) → Q (.there r) s)
    (hout : ∀ K, k ∉ L.map (·.2) → way t.mask (k.hash w) K ∉ t.place.toList → (∀ c, c < K → way t.mask (k.hash w) c ∈ t.place.toList) → Q (.free (way t.mask (k.hash w) K) false) s) :
    wpAny (model P w) A (setSearch a (.ref x) (k.hash w) ad) Q E s := by
  have hroom := R.room
  obtain ⟨K, hKf, hK, hKb⟩ := R.tab.first (by rw [List.length_map]; omega) (k.hash w)
  have hbig : K < 100000 := by
    have : 10 * SetTable.turns t.mask ≤ 1420 := by
      unfold SetTable.turns
      rcases R.tab.mok with e | e | e <;> omega
    omega
  unfold setSearch
  refine searchN R ad hx hu hKf hK hKb hin (fun hn => hout K hn hK hKb) 100000 0 none rfl (Nat.zero_le _) (by omega) fun i p hp hk => ?_
  have hi : (L.map (nh w))[i]? = some (k.hash w) := by rw [List.getElem?_map, hp, ← hk] <;> rfl
  have hil : i < t.place.toList.length := by
    have h1 : i < L.length := (List.getElem?_eq_some_iff.mp hp).1
    have h2 := R.tab.sz
    rw [List.length_map] at h2
    rw [Array.length_toList]
    omega
  have hj := List.getElem?_eq_getElem hil
  obtain ⟨c, hc, e⟩ := R.tab.before hK hi hj
  exact ⟨c, Nat.zero_le _, hc, by rw [hj, e]⟩
/-- x in s -/
theorem containsN (R : SN w s.heap a L es ep t) {x : Addr} {k : NestedKey} (hx : IsN s.heap k x) (hu : A.units + 8 < cLine) {Q : Bool → Shared → Prop}
    (h : Q (decide (k ∈ L.map (·.2))) { s with toks := s.toks + k.draws }) : wpAny (model P w) A (setContains a (.ref x)) Q E s := by
  unfold setContains
  refine wpAny_holding ?_
  refine wpAny_bind ((nestedKind P w).pyHash hu hx ?_)
  obtain ⟨o, ho, hex, hd⟩ := R.ob
  have R' : SN w ({ s with toks := s.toks + k.draws } : Shared).heap a L es ep t := R
  have e0 : ∀ (n : Nat), setFindIn a (.ref x) (k.hash w) (n + 1) = (do
    let (es, _, _) ← setState a
    if byScan (.ref x) es then
      rule "set.find.by-scan"
      match ← setScan a (.ref x) (k.hash w) false es with
      | .found i => return some i
      | .absent => return none
      | .anew => return ← setFindIn a (.ref x) (k.hash w) n
    match ← setSearch a (.ref x) (k.hash w) with
    | .there i => return i
    | .free .. => return none) := fun n => rfl
  show wpAny (model P w) A (do return (← setFind a (.ref x) (k.hash w)).isSome) Q E _
  refine wpAny_bind ?_
  unfold setFind
  rw [show (100000 : Nat) = 99999 + 1 from rfl, e0]
  refine wpAny_bind (wpAny_setState_of (s := { s with toks := s.toks + k.draws }) ho hd R'.fits ?_)
  dsimp only
  refine wp_if_neg (by simp [byScan, Value.scannable]) ?_
  try refine wpAny_bind (wpAny_pure ?_)
  refine wpAny_bind (searchN0 R' false hx hu (fun hm r hr => ?_) fun K hm _ _ => ?_)
  · dsimp only
    refine wpAny_pure (wpAny_pure ?_)
    rw [hr rfl]
    rw [decide_eq_true hm] at h
    exact h
  · dsimp only
    refine wpAny_pure (wpAny_pure ?_)
    rw [decide_eq_false hm] at h
    exact h
/-! ### adding -/
theorem ent_put {w : World} (L : List (Addr × NestedKey)) (p : Nat) (x : Addr × NestedKey) : entN w (L.take p ++ x :: L.drop p) = (entN w L).take p ++ (nh w x, Value.ref x.1) :: (entN w L).drop p := by
  unfold entN
  rw [List.map_append, List.map_cons, List.map_take, List.map_drop]
theorem takes_all {α : Type} (L : List α) : (List.range L.length).filterMap (fun i => L[i]?) = L := by
  have key : ∀ n, n ≤ L.length → (List.range n).filterMap (fun i => L[i]?) = L.take n := by
    intro n
    induction n with
    | zero => intro _; rfl
    | succ n ih =>
      intro hn
      rw [List.range_succ, List.filterMap_append, ih (by omega), List.take_succ, List.getElem?_eq_getElem (show n < L.length by omega)]
      rw [List.filterMap_cons_some (List.getElem?_eq_getElem (show n < L.length by omega))] <;> rfl
  rw [key L.length (Nat.le_refl _), List.take_length]
theorem ent_order {w : World} {L : List (Addr × NestedKey)} {es : Array (Int × Value)} {order : Array Nat} (hr : es.toList = entN w L) (hp : order.toList.Perm (List.range L.length)) :
    ∃ L2, (order.filterMap (es[·]?)).toList = entN w L2 ∧ L2.Perm L ∧ L2.map (nh w) = order.toList.map fun i => (es.map (·.1)).getD i 0 := by
  have hall : ∀ i ∈ order.toList, i < L.length := fun i hi => List.mem_range.mp (hp.mem_iff.mp hi)
  have key : ∀ l : List Nat, (∀ i ∈ l, i < L.length) → l.filterMap (fun i => es[i]?) = entN w (l.filterMap fun i => L[i]?) ∧ (l.filterMap fun i => L[i]?).map (nh w) = l.map fun i => (es.map (·.1)).getD i 0 := by
    intro l
    induction l with
    | nil => intro _; exact ⟨rfl, rfl⟩
    | cons i l ih =>
      intro hl
      have hi := hl i List.mem_cons_self
      obtain ⟨e1, e2⟩ := ih fun j hj => hl j (List.mem_cons_of_mem _ hj)
      have hL := List.getElem?_eq_getElem hi
      have hE := ent_at hr hL
      refine ⟨?_, ?_⟩
      · rw [List.filterMap_cons_some hE, List.filterMap_cons_some hL, e1]; rfl
      · rw [List.filterMap_cons_some hL, List.map_cons, List.map_cons, e2]
        congr 1
        have e5 : (es.map (·.1))[i]? = some (nh w L[i]) := by rw [Array.getElem?_map, hE] <;> rfl
        simp [Array.getD_eq_getD_getElem?, e5]
  obtain ⟨e1, e2⟩ := key order.toList hall
  refine ⟨order.toList.filterMap fun i => L[i]?, by first | (rw [Array.toList_filterMap]; exact e1) | simpa using e1, ?_, e2⟩
  have h1 := hp.filterMap fun i => L[i]?
  rw [takes_all] at h1
  exact h1
theorem relayN {o : Obj} (ho : s.heap.get? a = some o) (hex : o.ExactSet) (hd : o.data = .set es ep t) (hrows : es.toList = entN w L) (hsz : t.place.size = es.size) (hdm : t.dummies = #[]) (hfl : es.size ≤ t.mask)
    (nd : (L.map (·.2)).Nodup) (tup : ∀ p ∈ L, IsN s.heap p.2 p.1) (few : L.length < 64) {wanted M : Nat} (hw : SetTable.sizeAbove wanted - 1 = M) (hM : MaskOk M) (hw2 : SetTable.sizeAbove wanted ≤ 128) (hn : L.length * 5 < M * 3) {Q : Unit → Shared → Prop}
    (hQ : ∀ h' L' es' ep' t', Heap.SameBut a s.heap h' → SN w h' a L' es' ep' t' → L'.Perm L → Q () { s with heap := h' }) : wpAny (model P w) A (setRelay a wanted) Q E s := by
  have hsl := ent_len hrows
  obtain ⟨t', order, e, hp, T, em, el, ep', ed⟩ := relaid_ok t (hs := es.map (·.1)) (wanted := wanted) hw hM (by rw [Array.size_map, hsl]; omega)
  rw [Array.size_map, hsl] at hp
  obtain ⟨L2, r1, r2, r3⟩ := ent_order hrows hp
  rw [← r3] at T
  have hs2 : (order.filterMap (es[·]?)).size = es.size := by rw [ent_len r1, r2.length_eq, hsl]
  rw [setRelay_eq]
  refine wpAny_bind (wpAny_setState_of ho hd (fits_of hsz hdm hfl) ?_)
  dsimp only
  refine wp_if_neg (by rw [sizeLine_eq]; omega) ?_
  try refine wpAny_bind (wpAny_pure ?_)
  rw [e]
  dsimp only
  refine wpAny_bind ?_
  refine wp_if_neg (by rw [hs2]; simp) ?_
  try refine wpAny_bind (wpAny_pure ?_)
  refine wpAny_pure ?_
  dsimp only
  refine wpAny_storeSet_of ho hd ?_ (by rw [hs2, hsl, sizeLine_eq]; omega)
  have sb : Heap.SameBut a s.heap (s.heap.update a (Obj.putSet (order.filterMap (es[·]?)) t')) := Heap.SameBut.update ..
  refine hQ _ L2 (order.filterMap (es[·]?)) (ep + 1) t' sb ?_ r2
  refine ⟨⟨_, store_at ho hd, ⟨hex.1, hex.2.1, hex.2.2⟩, rfl⟩, r1, T, (r2.map (·.2)).nodup_iff.mpr nd, fun p hpm => (tup p (r2.mem_iff.mp hpm)).same ho hd sb, ?_⟩
  rw [r2.length_eq, em]
  exact hn
theorem addN (R : SN w s.heap a L es ep t) {x : Addr} {k : NestedKey} (hx : IsN s.heap k x) (hu : A.units + 8 < cLine) (hfew : L.length + 1 < 64) {Q : Bool → Shared → Prop}
    (hQ : ∀ b h' L' es' ep' t', Heap.SameBut a s.heap h' → SN w h' a L' es' ep' t' → (k ∈ L.map (·.2) → L' = L) → (k ∉ L.map (·.2) → L'.Perm ((x, k) :: L)) → Q b { s with heap := h' }) :
    wpAny (model P w) A (setAddHashed a (.ref x) (k.hash w)) Q E s := by
  obtain ⟨o, ho, hex, hd⟩ := R.ob
  have hsl := ent_len R.rows
  have hroom := R.room
  unfold setAddHashed
  refine wpAny_holding ?_
  rw [show (100000 : Nat) = 99999 + 1 from rfl, setAddHashedIn_succ]
  refine wpAny_bind (wpAny_setState_of ho hd R.fits ?_)
  dsimp only
  refine wp_if_neg (by simp [byScan, Value.scannable]) ?_
  try refine wpAny_bind (wpAny_pure ?_)
  refine wpAny_bind (searchN0 R true hx hu (fun hm r _ => ?_) fun K hm hK hb => ?_)
  · dsimp only
    exact wpAny_pure (hQ false s.heap L es ep t (Heap.SameBut.refl a s.heap) R (fun _ => rfl) fun z => absurd hm z)
  · dsimp only
    refine wpAny_bind (wpAny_setState_of ho hd R.fits ?_)
    dsimp only
    obtain ⟨q1, q2, q3, q4, q5, q6, q7, q8, q9⟩ := R.tab.put hK hb
    generalize hpt : t.put (way t.mask (k.hash w) K) = pt at q1 q3 q4 q5 q6 q7 q8 q9 ⊢
    obtain ⟨t1, p⟩ := pt
    dsimp only at q1 q3 q4 q5 q6 q7 q8 q9 ⊢
    subst q1
    have hin : (SetTable.insertAt es (SetTable.below t.place (way t.mask (k.hash w) K)) (k.hash w, Value.ref x)).toList = entN w (L.take (SetTable.below t.place (way t.mask (k.hash w) K)) ++ (x, k) :: L.drop (SetTable.below t.place (way t.mask (k.hash w) K))) := by
      rw [SetTable.toList_insertAt, ent_put, R.rows]
    generalize hpp : SetTable.below t.place (way t.mask (k.hash w) K) = p at q2 q3 hin ⊢
    have pm := put_perm L p (x, k)
    have hlen : (L.take p ++ (x, k) :: L.drop p).length = L.length + 1 := pm.length_eq
    have hhs : (L.take p ++ (x, k) :: L.drop p).map (nh w) = (L.map (nh w)).take p ++ k.hash w :: (L.map (nh w)).drop p := by
      rw [List.map_append, List.map_cons, List.map_take, List.map_drop]
    rw [← hhs] at q3
    have nd1 : ((L.take p ++ (x, k) :: L.drop p).map (·.2)).Nodup := by
      refine (pm.map (·.2)).nodup_iff.mpr ?_
      rw [List.map_cons]
      exact List.nodup_cons.mpr ⟨hm, R.nd⟩
    have hes : (SetTable.insertAt es p (k.hash w, Value.ref x)).size = L.length + 1 := by rw [ent_len hin, hlen]
    generalize SetTable.insertAt es p (k.hash w, Value.ref x) = es1 at hin hes ⊢
    generalize L.take p ++ (x, k) :: L.drop p = L1 at pm hlen q3 nd1 hin
    -- the table may be marked as one whose order depends on texts
    have go : ∀ byv : Bool, ∀ t2 : SetTable, t2 = (if byv = true then t1 else { t1 with plain := false }) → wpAny (model P w) A (do
        storeSet a es1 t2
        if !false && t2.tooFull then setRelay a (SetTable.grown (es.size + 1))
        return true) Q E s := fun byv t2 ht2 => by
      have m2 : t2.mask = t1.mask := by rw [ht2]; cases byv <;> rfl
      have p2 : t2.place = t1.place := by rw [ht2]; cases byv <;> rfl
      have d2 : t2.dummies = t1.dummies := by rw [ht2]; cases byv <;> rfl
      have T2 : TabOk t2 (L1.map (nh w)) := ⟨by rw [p2]; exact q3.ris, by rw [d2]; exact q3.dm, by rw [p2]; exact q3.sz, by rw [m2]; exact q3.mok, by rw [p2, m2]; exact q3.bd, by rw [p2, m2]; exact q3.reach⟩
      have f2 : t2.fill = L.length + 1 := by
        have : t2.fill = t1.fill := by rw [ht2]; cases byv <;> rfl
        rw [this, q9, List.length_map]
      refine wpAny_bind (wpAny_storeSet_of ho hd ?_ (by rw [hes, sizeLine_eq]; omega))
      have sb : Heap.SameBut a s.heap (s.heap.update a (Obj.putSet es1 t2)) := Heap.SameBut.update ..
      have ho1 := store_at (es' := es1) (t' := t2) ho hd
      generalize s.heap.update a (Obj.putSet es1 t2) = h1 at sb ho1 ⊢
      have tup1 : ∀ p ∈ L1, IsN h1 p.2 p.1 := fun p hp => by
        rcases List.mem_cons.mp (pm.mem_iff.mp hp) with e | hp
        · rw [e]; exact hx.same ho hd sb
        · exact (R.tup p hp).same ho hd sb
      by_cases hf : t2.tooFull = true
      · first
          | (refine wpAny_bind ?_; refine wp_if_pos (by simp [hf]) ?_)
          | (refine wp_if_pos (by simp [hf]) ?_; refine wpAny_bind ?_)
        have hfull : (L.length + 1) * 5 ≥ t2.mask * 3 := by
          have h := hf
          unfold SetTable.tooFull at h
          rw [decide_eq_true_eq, f2] at h
          exact h
        rw [hsl]
        have hsz1 : t2.place.size = es1.size := by
          have h := T2.sz
          rw [List.length_map, hlen] at h
          rw [h, hes]
        have cases2 : (t.mask = 7 ∧ L.length = 4) ∨ (t.mask = 31 ∧ L.length = 18) := by
          rcases R.tab.mok with e | e | e
          · left; rw [m2, q4, e] at hfull; rw [e] at hroom; exact ⟨e, by omega⟩
          · right; rw [m2, q4, e] at hfull; rw [e] at hroom; exact ⟨e, by omega⟩
          · exfalso; rw [m2, q4, e] at hfull; omega
        have go : ∀ M, SetTable.sizeAbove (SetTable.grown (L.length + 1)) - 1 = M → MaskOk M → SetTable.sizeAbove (SetTable.grown (L.length + 1)) ≤ 128 → (L.length + 1) * 5 < M * 3 →
            wpAny (model P w) A (setRelay a (SetTable.grown (L.length + 1))) (fun _ s' => wpAny (model P w) A (pure true) Q E s') E { s with heap := h1 } := fun M h1' h2' h3' h4' => by
          refine relayN (s := { s with heap := h1 }) ho1 ⟨hex.1, hex.2.1, hex.2.2⟩ rfl hin hsz1 T2.dm (by rw [hes, m2, q4]; rcases cases2 with ⟨e, e2⟩ | ⟨e, e2⟩ <;> omega) nd1 tup1 (by rw [hlen]; exact hfew) h1' h2' h3' (by rw [hlen]; exact h4') ?_
          intro h2 L2 es2 ep2 t3 sb2 R2 pm2
          exact wpAny_pure (hQ true h2 L2 es2 ep2 t3 (sb.trans sb2) R2 (fun z => absurd z hm) fun _ => pm2.trans pm)
        rcases cases2 with ⟨_, e2⟩ | ⟨_, e2⟩
        · exact go 31 (by rw [e2, size_20]) (.inr (.inl rfl)) (by rw [e2, size_20]; decide) (by omega)
        · exact go 127 (by rw [e2, size_76]) (.inr (.inr rfl)) (by rw [e2, size_76]; decide) (by omega)
      · first
          | refine wp_if_neg (by simp [hf]) ?_
          | (refine wpAny_bind ?_; refine wp_if_neg (by simp [hf]) ?_; refine wpAny_pure ?_)
        refine wpAny_pure (hQ true h1 L1 es1 (ep + 1) t2 sb ⟨⟨_, ho1, ⟨hex.1, hex.2.1, hex.2.2⟩, rfl⟩, hin, T2, nd1, tup1, ?_⟩ (fun z => absurd z hm) fun _ => pm)
        have h := hf
        unfold SetTable.tooFull at h
        rw [decide_eq_true_eq, f2] at h
        rw [hlen]
        omega
    by_cases hp1 : t1.plain = true
    · first
        | (refine wpAny_bind ?_; refine wp_if_pos hp1 ?_; refine hashAsk_key k _ 8 _ hx.1 hx.2 _ _ _ fun b => ?_)
        | refine wp_if_pos hp1 (wpAny_bind (hashAsk_key k _ 8 _ hx.1 hx.2 _ _ _ fun b => ?_))
      exact go b _ rfl
    · first
        | (refine wpAny_bind ?_; refine wp_if_neg hp1 ?_; refine wpAny_pure ?_)
        | refine wp_if_neg hp1 (wpAny_bind (wpAny_pure ?_))
      exact go true _ rfl
theorem setN_type {h : Heap} (R : SN w h a L es ep t) (hs : s.heap = h) : s.TypeIs (.ref a) "set" := by
  obtain ⟨o, ho, hex, _⟩ := R.ob
  exact ⟨o, by rw [hs]; exact ho, hex.1⟩
theorem in_setN (R : SN w s.heap a L es ep t) {x : Addr} {k : NestedKey} (hx : IsN s.heap k x) (hu : A.units + 16 < cLine) {Q : Value → Shared → Prop}
    (h : Q (.bool (decide (k ∈ L.map (·.2)))) { s with toks := s.toks + k.draws }) : wpAny (model P w) A (compareOp .In (.ref x) (.ref a)) Q E s := by
  have hT := setN_type R rfl
  have hu1 : A.in1.units + 8 < cLine := by show (A.units + 1) + 8 < cLine; omega
  show wpAny _ _ (do return .bool (← contains (.ref a) (.ref x))) Q E s
  refine wpAny_bind ?_
  unfold contains
  try with_reducible refine wpAny_holding ?_
  refine wpAny_bind (wpAny_specialOf hT F.slot_set_contains.lookup ?_)
  show wpAny _ _ (if (some (Value.builtin "set.__contains__") == some Value.none) = true then _ else _) _ E s
  rw [if_neg (by rw [beq_builtin_none]; exact Bool.false_ne_true)]
  refine wpAny_bind (wpAny_callSpecialUnlessNone?_slot (name := Str.ofString "__contains__") hT F.slot_set_contains
    (wpAny_call_entry F.slot_set_contains hT entry_set_contains ?_ (F.args_set_contains_2 _ _)))
  unfold Builtin.«frozenset.__contains__» Builtin.Frozenset.oneOther
  simp only [List.isEmpty_nil, bind_assoc]
  unfold Builtin.Frozenset.addrOf Builtin.Frozenset.withSetAsKey
  refine wpAny_bind (wpAny_pure ?_)
  try dsimp only
  refine wpAny_bind (wpAny_pure ?_)
  try dsimp only
  refine wpAny_bind (wpAny_tryCatch ?_)
  refine containsN R hx hu1 ?_
  exact wpAny_pure ⟨_, rfl, wpAny_truthy_bool (wpAny_pure h)⟩
theorem add_setN (R : SN w s.heap a L es ep t) {x : Addr} {k : NestedKey} (hx : IsN s.heap k x) (hu : A.units + 16 < cLine) (hfew : L.length + 1 < 64) {Q : Value → Shared → Prop}
    (hQ : ∀ h' L' es' ep' t', Heap.SameBut a s.heap h' → SN w h' a L' es' ep' t' → (k ∈ L.map (·.2) → L' = L) → (k ∉ L.map (·.2) → L'.Perm ((x, k) :: L)) → Q .none { s with heap := h', toks := s.toks + k.draws }) :
    wpAny (model P w) A (call (.builtin "set.add") [.ref a, .ref x]) Q E s := by
  have hT := setN_type R rfl
  have hu1 : A.in1.units + 8 < cLine := by show (A.units + 1) + 8 < cLine; omega
  refine wpAny_call_entry F.slot_set_add hT F.entry_set_add ?_ (F.args_set_add_2 _ _)
  unfold Builtin.«set.add» Builtin.Frozenset.oneOther
  simp only [List.isEmpty_nil, bind_assoc]
  unfold Builtin.Frozenset.addrOf setAdd
  refine wpAny_bind (wpAny_pure ?_)
  try dsimp only
  refine wpAny_bind (wpAny_pure ?_)
  try dsimp only
  refine wpAny_bind ?_
  refine wpAny_holding ?_
  refine wpAny_bind ((nestedKind P w).pyHash hu1 hx ?_)
  refine addN (s := { s with toks := s.toks + k.draws }) R hx hu1 hfew fun b h' L' es' ep' t' sb R' h1 h2 => ?_
  show wpAny _ _ (ret Value.none) _ _ _
  exact wpAny_pure ⟨_, rfl, hQ h' L' es' ep' t' sb R' h1 h2⟩
end
/-! ### in the hand layer -/
mutual
/-- the data as a key -/
def kyO : PyData → NestedKey
  | .none => .none
  | .bool b => .num (if b = true then 1 else 0)
  | .int i => .num i
  | .str x => .text x
  | .tuple l => .tup (kyL l)
  | .list _ => .none
  | .dict _ => .none
def kyL : List PyData → List NestedKey
  | [] => []
  | d :: l => kyO d :: kyL l
end
mutual
def hbl : PyData → Bool
  | .tuple l => hblL l
  | .list _ => false
  | .dict _ => false
  | _ => true
def hblL : List PyData → Bool
  | [] => true
  | d :: l => hbl d && hblL l
end
mutual
theorem reads_key {h : Heap} : ∀ (d : PyData) (u : Value) (as : List Addr), hbl d = true → Reads h u d as → NestedIs h (kyO d) u
  | .none, _, _, _, r => by cases r; exact .none
  | .bool b, _, _, _, r => by cases r; exact .bool rfl
  | .int i, _, _, _, r => by cases r; exact .int _ _
  | .str x, _, _, _, r => by cases r; exact .text _ _
  | .tuple l, _, _, hb, r => by
    cases r with
    | tuple ho hc hd ha => exact .tup ho hc hd (reads_keys l _ _ (by simpa [hbl] using hb) ha)
  | .list _, _, _, hb, _ => by simp [hbl] at hb
  | .dict _, _, _, hb, _ => by simp [hbl] at hb
theorem reads_keys {h : Heap} : ∀ (l : List PyData) (us : List Value) (as : List Addr), hblL l = true → ReadsAll h us l as → NestedAll h (kyL l) us
  | [], _, _, _, r => by cases r; exact .nil
  | d :: l, _, _, hb, r => by
    have hb' : hbl d = true ∧ hblL l = true := by simpa [hblL] using hb
    cases r with
    | cons r1 r2 => exact .cons (reads_key d _ _ hb'.1 r1) (reads_keys l _ _ hb'.2 r2)
end
mutual
/-- data made of tuples that stand in the heap -/
inductive Dt (H : Hp) : V → PyData → Prop
  | non : Dt H .non .none
  | bl (b : Bool) : Dt H (.bl b) (.bool b)
  | int (i : Int) : Dt H (.int i) (.int i)
  | str (x : Str) : Dt H (.str x) (.str x)
  | tup {a : Addr} {xs : List V} {ds : List PyData} : H a = some (.tup xs) → DtAll H xs ds → Dt H (.ref a) (.tuple ds)
inductive DtAll (H : Hp) : List V → List PyData → Prop
  | nil : DtAll H [] []
  | cons {v : V} {vs : List V} {d : PyData} {ds : List PyData} : Dt H v d → DtAll H vs ds → DtAll H (v :: vs) (d :: ds)
end
mutual
theorem Dt.keep {H H' : Hp} (k : Tk H H') : ∀ (d : PyData) (v : V), Dt H v d → Dt H' v d
  | .none, _, h => by cases h; exact .non
  | .bool b, _, h => by cases h; exact .bl b
  | .int i, _, h => by cases h; exact .int i
  | .str x, _, h => by cases h; exact .str x
  | .tuple ds, _, h => by
    cases h with
    | tup e ha => exact .tup (k _ _ e) (DtAll.keep k ds _ ha)
  | .list _, _, h => by cases h
  | .dict _, _, h => by cases h
theorem DtAll.keep {H H' : Hp} (k : Tk H H') : ∀ (ds : List PyData) (vs : List V), DtAll H vs ds → DtAll H' vs ds
  | [], _, h => by cases h; exact .nil
  | d :: ds, _, h => by
    cases h with
    | cons h1 h2 => exact .cons (Dt.keep k d _ h1) (DtAll.keep k ds _ h2)
end
mutual
theorem Dt.dp {K : PySem.W.Frag} {H : Hp} : ∀ (d : PyData) (v : V), Dt H v d → Dp K H v d ∧ hbl d = true
  | .none, _, h => by cases h; exact ⟨.non, rfl⟩
  | .bool b, _, h => by cases h; exact ⟨.bl b, rfl⟩
  | .int i, _, h => by cases h; exact ⟨.int i, rfl⟩
  | .str x, _, h => by cases h; exact ⟨.str x, rfl⟩
  | .tuple ds, _, h => by
    cases h with
    | tup e ha =>
      obtain ⟨a1, a2⟩ := DtAll.dp (K := K) ds _ ha
      exact ⟨.tup (SqT.of e) a1, by simpa [hbl] using a2⟩
  | .list _, _, h => by cases h
  | .dict _, _, h => by cases h
theorem DtAll.dp {K : PySem.W.Frag} {H : Hp} : ∀ (ds : List PyData) (vs : List V), DtAll H vs ds → DpAll K H vs ds ∧ hblL ds = true
  | [], _, h => by cases h; exact ⟨.nil, rfl⟩
  | d :: ds, _, h => by
    cases h with
    | cons h1 h2 =>
      obtain ⟨a1, a2⟩ := Dt.dp (K := K) d _ h1
      obtain ⟨b1, b2⟩ := DtAll.dp (K := K) ds _ h2
      exact ⟨.cons a1 b1, by rw [hblL, a2, b2]; rfl⟩
end
/-- the tuple at p.1 is the key p.2 -/
def MemN (H : Hp) (p : Addr × NestedKey) : Prop := ∃ d, Dt H (.ref p.1) d ∧ kyO d = p.2 ∧ p.2.depth ≤ 8
theorem MemN.keep {H H' : Hp} (k : Tk H H') {p : Addr × NestedKey} (h : MemN H p) : MemN H' p := by
  obtain ⟨d, a, b, c⟩ := h
  exact ⟨d, a.keep k, b, c⟩
structure SN0 (w : World) (h : Heap) (a : Addr) (L : List (Addr × NestedKey)) : Prop where
  ex : ∃ (es : Array (Int × Value)) (ep : Nat) (t : SetTable), (∃ o, h.get? a = some o ∧ o.ExactSet ∧ o.data = .set es ep t) ∧ es.toList = entN w L ∧ TabOk t (L.map (nh w)) ∧ (L.map (·.2)).Nodup ∧ L.length * 5 < t.mask * 3
/-- the set of the keys L at a -/
def SetNO (w : World) (a : Addr) (L : List (Addr × NestedKey)) : HO := .ext fun h => SN0 w h a L
section
variable {X : Cx} {pins : List (Addr × Obj)} {σ : L2.St} {H : Hp} {s : Shared}
theorem MemN.is (I : Inv X pins σ H s) {p : Addr × NestedKey} (h : MemN H p) : IsN s.heap p.2 p.1 := by
  obtain ⟨d, hd', e, hk⟩ := h
  obtain ⟨hd, hb⟩ := Dt.dp (K := X.K) d _ hd'
  obtain ⟨as, r⟩ := Dp.reads I d _ (.ref p.1) hd rfl
  rw [← e]
  exact ⟨reads_key d _ _ hb r, by rw [e]; exact hk⟩
theorem setNO_new {w : World} {P : Program} {h : Heap} {a : Addr} {L : List (Addr × NestedKey)} (R : SN0 w h a L) : ObjOk P w H h a (SetNO w a L) := by
  have ⟨es, ep, t, ⟨o, ho, r⟩, q⟩ := R.ex
  refine ⟨R, ⟨o, ho⟩, fun h1 h2 p k => ?_⟩
  have ⟨es', ep', t', ⟨o', ho', r'⟩, q'⟩ := SN0.ex p
  exact ⟨es', ep', t', ⟨o', k o' ho', r'⟩, q'⟩
theorem setNO_get (I : Inv X pins σ H s) {a : Addr} {L : List (Addr × NestedKey)} (ha : H a = some (SetNO X.w a L)) (hm : ∀ p ∈ L, MemN H p) : ∃ es ep t, SN X.w s.heap a L es ep t := by
  obtain ⟨es, ep, t, h1, h2, h3, h4, h5⟩ := SN0.ex (I.hok a _ ha).1
  exact ⟨es, ep, t, h1, h2, h3, h4, fun p hp => (hm p hp).is I, h5⟩
theorem SN.o {w : World} {h : Heap} {a : Addr} {L : List (Addr × NestedKey)} {es : Array (Int × Value)} {ep : Nat} {t : SetTable} (R : SN w h a L es ep t) : SN0 w h a L := ⟨es, ep, t, R.ob, R.rows, R.tab, R.nd, R.room⟩
/-- set() -/
def rSet0N (w : World) : List V → Hp → VK → Prop := fun xs H Q => xs = [] ∧ ∀ p, H p = none → Q (.ref p) (upd H p (SetNO w p []))
theorem cr_set0N : CallR X (.type "set") (rSet0N X.w) := by
  intro pins s σ H xs us Q I r h
  obtain ⟨rfl, q⟩ := h
  cases r
  refine setR_new fun _ => ?_
  have new : SN0 X.w (s.heap.push { cls := .type "set", dict := none, data := .set #[] 0 (.fresh 0 0 (!X.w.params.followText "set-order")) }) s.heap.objs.size [] :=
    ⟨#[], 0, _, ⟨_, Heap.get?_push_size _ rfl, ⟨rfl, rfl, rfl⟩, rfl⟩, rfl, ⟨List.Pairwise.nil, rfl, rfl, .inl rfl, fun x hx => (by cases hx), fun i h j hi => (by simp at hi)⟩, List.nodup_nil, (by show 0 * 5 < 7 * 3; decide)⟩
  exact ⟨.ref _, upd H s.heap.objs.size (SetNO X.w s.heap.objs.size []), I.laid (t' := s.toks) (fun b u e => Heap.get?_push_of_some _ e) (Nat.le_refl _) (setNO_new new), rfl, q _ (I.hok.fresh (Nat.le_refl _))⟩
/-- x in s -/
def rInN (w : World) : R2 := fun x y H Q => ∃ (b a : Addr) (k : NestedKey) (L : List (Addr × NestedKey)), x = .ref b ∧ y = .ref a ∧ H a = some (SetNO w a L) ∧ (∀ p ∈ L, MemN H p) ∧ MemN H (b, k) ∧ Q (.bl (decide (k ∈ L.map (·.2)))) H
theorem op_inN (hu : X.A.units + 64 < cLine) : OpR X (compareOp .In) (rInN X.w) := by
  intro pins s σ H x y v u Q I rx ry h
  obtain ⟨b, a, k, L, rfl, rfl, ha, hm, hk, q⟩ := h
  cases rx
  cases ry
  obtain ⟨es, ep, t, R⟩ := setNO_get I ha hm
  exact in_setN R (MemN.is I hk) (by omega) ⟨.bl _, H, I.tok _, rfl, q⟩
/-- s.add(x) -/
def rAddN (w : World) : V → List V → Hp → VK → Prop := fun x xs H Q => ∃ (a b : Addr) (k : NestedKey) (L : List (Addr × NestedKey)), x = .ref a ∧ xs = [.ref b] ∧ H a = some (SetNO w a L) ∧ (∀ p ∈ L, MemN H p) ∧ MemN H (b, k) ∧ L.length + 1 < 64 ∧
  ∀ L', (k ∈ L.map (·.2) → L' = L) → (k ∉ L.map (·.2) → L'.Perm ((b, k) :: L)) → Q .non (upd H a (SetNO w a L'))
theorem mt_addN (hu : X.A.units + 64 < cLine) : MtR X "set.add" (rAddN X.w) := by
  intro pins s σ H x xs v us Q I rx rxs h
  obtain ⟨a, b, k, L, rfl, rfl, ha, hm, hk, hf, q⟩ := h
  cases rx
  cases rxs with
  | cons ry rt =>
    cases rt
    cases ry
    obtain ⟨es, ep, t, R⟩ := setNO_get I ha hm
    refine add_setN R (MemN.is I hk) (by omega) hf fun h' L' es' ep' t' sb R' h1 h2 => ?_
    have he : ∃ u, h'.get? a = some u := by
      obtain ⟨o, ho, _⟩ := R'.ob
      exact ⟨o, ho⟩
    exact ⟨.non, upd H a (SetNO X.w a L'), I.write (e := a) (t' := s.toks + k.draws) (by rw [ha]; trivial) (.inl rfl) (fun b u hb hu => (sb.2 b hb).trans hu) he (setNO_new R'.o), rfl, q L' h1 h2⟩
def tAddN (w : World) (to : TE) (t : TA) : TE := fun σ H Q => to σ H fun x H1 => (∃ a L, x = V.ref a ∧ H1 a = some (SetNO w a L)) ∧ t σ H1 fun xs H2 => rAddN w x xs H2 Q
variable {o e : Expr} {es : List Expr} {to : TE} {t : TA} {apos cpos : Pos}
theorem pe_addN (hu : X.A.units + 64 < cLine) (ho : PE X o to) (ha : PA X (e :: es) t)
    (hbase : attributeBase o "add" X.env (eval o X.env) = eval o X.env := by rfl)
    (hfew : ((backTo cpos (starEach (e :: es) X.env)).all (fun x => !x.1) && (backToKw cpos (keywordEach [] X.env)).all (fun x => x.1.isSome)
      && decide ((e :: es).length + ([] : List Keyword).length + (if ([] : List Keyword).isEmpty then 0 else 1) < 30)) = true := by rfl)
    (hline : (apos.endLine == cpos.line) = true := by rfl) (hs : starEach (e :: es) X.env = (false, eval e X.env) :: starEach es X.env := by rfl) (hplain : (backTo cpos (starEach es X.env)).any (·.1) = false := by rfl) :
    PE X (.Call (.Attribute o "add" apos) (e :: es) [] cpos) (tAddN X.w to t) := by
  refine ⟨fun pins s σ H Q I h => ?_⟩
  refine wpAny_Call_method_late hbase hfew hline rfl (thn (ho.run pins s σ H _ I h) fun v s1 ⟨x, H1, I1, r1, ty, q1⟩ => ?_)
  obtain ⟨a, L, rfl, hka⟩ := ty
  cases r1
  obtain ⟨_, _, _, ⟨ob, hob, hex, _⟩, _⟩ := SN0.ex (I1.hok a _ hka).1
  refine ⟨"set", "set.add", F.plainAttrs_set, F.slot_set_add, F.type_set_add, ⟨ob, hob, hex.1⟩, ?_, ?_⟩
  · intro b e
    injection e with e
    subst e
    exact ⟨ob, hob, hex.2.1⟩
  have hA := ha.run cpos pins s1 σ H1 _ I1 q1
  rw [hs] at hA ⊢
  refine Calls.callWith_builtin (by show (false || (backTo cpos (starEach es X.env)).any (·.1)) = false; rw [hplain] <;> rfl) (Calls.evalArgs_plain ?_)
  exact thn hA fun us s2 ⟨vs, H2, I2, r2, q2⟩ => mt_addN hu pins s2 σ H2 (.ref a) vs (.ref a) us Q I2 rfl r2 q2
/-- o[i] of a list where it is changed -/
def rGetL (K : PySem.W.Frag) : V → V → Hp → VK → Prop := fun x y H Q => ∃ (p : Addr) (xs : List V) (i : Nat) (v : V), x = .ref p ∧ y = .int (i : Nat) ∧ SqL K H p xs ∧ xs[i]? = some v ∧ Q v H
theorem get_list : PGet X (rGetL X.K) := by
  intro pins s σ H x y v u Q I rx ry h
  obtain ⟨p, xs, i, z, rfl, rfl, hq, he, q⟩ := h
  cases rx
  obtain ⟨t, rfl⟩ := ry
  obtain ⟨its, r, pl, hz⟩ := I.list hq
  obtain ⟨w', ew, rw'⟩ := r.get he
  have fin : EP X pins σ Q w' s := ⟨z, H, I, rw', q⟩
  have hlt := (List.getElem?_eq_some_iff.mp ew).1
  have hn := line63
  have hl := r.length
  exact getItem_listL pl.isList (by omega) (by omega) (by simpa using ew) fin
end
end Kr

set_option Elab.async false
set_option linter.all false
set_option maxRecDepth 100000
set_option maxHeartbeats 2000000
/-! ### calls and makes with keywords that may raise -/
namespace Kr
open PySem PySem.Spec PyProof.Rows L2
structure KCn (P : Program) (w : World) (K : PySem.W.Frag) (mg : Str → Option Value) (base : Heap) (k : Nat) (x : Str) (n : Nat) (ks : List Str) (sp : Sp) (gV : List V → List V → List V) : Prop where
  ex : ∃ (f : Addr) (fd : FuncData) (ps : List Str) (g : List Value → List Value → List Value), FnOk P w K mg base (CX P w) k f fd ps sp ∧ mg x = some (.ref f) ∧ PySem.W.keepIn K (.ref f) = true ∧ KBn K fd ps n ks g gV
section
variable {X : Cx} {k j n : Nat} {x : Str} {C : Addr} {ks : List Str} {sp : Sp} {gV : List V → List V → List V} {e : Expr} {es : List Expr} {kws : List Keyword} {t tw : TA} {p pos : Pos} {W : WX}
def tCN (n m : Nat) (sp : Sp) (gV : List V → List V → List V) (E : L2.St → XK) (t tk : TA) : TE := fun σ H Q => t σ H fun vs H1 => tk σ H1 fun zs H2 => vs.length = n ∧ zs.length = m ∧ sp (gV vs zs) H2 Q (E σ)
/-- f(e, .., k = v, ..) -/
theorem kxN (c : KCn X.prog X.w X.K X.mg X.base k x n ks sp gV) (tk : Takes X W) (hr : Room j X.A) (hk : k ≤ j) (hg : Gl X x) (ha : PA X (e :: es) t) (hkw : PK X kws tw)
    (hall : (backToKw pos (keywordEach kws X.env)).all (·.1.isSome) = true := by rfl) (hks : (backToKw pos (keywordEach kws X.env)).filterMap (·.1) = ks := by rfl) (hdb : (x == ("__debug__" : Str)) = false := by decide)
    (he : starEach (e :: es) X.env = (false, eval e X.env) :: starEach es X.env := by rfl) (hpl : ((backTo pos (starEach (e :: es) X.env)).any (·.1) || (backToKw pos (keywordEach kws X.env)).any (·.1.isNone)) = false := by rfl) :
    PE X (.Call (.Name x p) (e :: es) kws pos) (tCN n ks.length sp gV (WE W) t tw) := by
  obtain ⟨f, fd, ps, g, F, hm, kp, hb⟩ := c.ex
  refine ⟨fun pins s σ H Q I h => ?_⟩
  refine wpAny_Call_Name_kw (ld_glob I hg hm ?_ hdb)
  refine PySem.W.callWith_KW (h₀ := X.base) I.ok.mod.kin kp hall (thn (ha.run pos pins s σ H _ I h) fun us s1 ⟨vs, H1, I1, r, q⟩ => ?_) hpl he
  refine thn (hkw.run pos pins s1 σ H1 _ I1 q) fun ws s2 ⟨zs, H2, I2, rz, l1, l2, q2⟩ => ⟨I2.kIn, ?_⟩
  rw [hks]
  have r2 := hb.rel r rz
  exact runSt (args := ⟨us, ks.zip ws⟩) (passAt tk σ) I2 (F.run X.A X.stack s2 H2 ⟨us, ks.zip ws⟩ (g us ws) (gV vs zs) Q _ (hr.mono hk) I2.env0 (hb.to s2 us ws I2.kIn (r.length.symm.trans l1) (rz.length.symm.trans l2)) r2 q2)
theorem mkAtK {CX : CXT} {f : Addr} {fd : FuncData} {ps : List Str} {g : List Value → List Value → List Value} {E : XK} {pins : List (Addr × Obj)} {σ : L2.St} {H : Hp} {s : Shared} {Q : VK} {us ws : List Value} {vs zs : List V} (M : L2.Mk X.K C f) (F : FnOk X.prog X.w X.K X.mg X.base CX k f fd ps sp) (hr : Room (k + 1) X.A) (hb : KBn X.K fd ps (n + 1) ks g gV)
    (hx : PassesAt CX X σ E) (I : Inv X pins σ H s) (r : Vals vs us) (rz : Vals zs ws) (l1 : vs.length = n) (l2 : zs.length = ks.length)
    (h : ∀ x dx, H x = none → H dx = none → dx ≠ x → sp (gV (.ref x :: vs) zs) (upd (upd H dx (.own x)) x (.ins C dx [])) (fun v H2 => v = .non ∧ Q (.ref x) H2) E) :
    wpAny (model X.prog X.w) X.A (call (.ref C) us (ks.zip ws)) (EP X pins σ Q) X.xe s := by
  have hq := h (s.heap.objs.size + 1) s.heap.objs.size (I.hok.fresh (Nat.le_succ _)) (I.hok.fresh (Nat.le_refl _)) (Nat.ne_of_lt (Nat.lt_succ_self _))
  have I2 := Inv.made (C := C) I
  have r1 : Vals (V.ref (s.heap.objs.size + 1) :: vs) (Value.ref (s.heap.objs.size + 1) :: us) := .cons rfl r
  have r2 := hb.rel r1 rz
  have n1 : (Value.ref (s.heap.objs.size + 1) :: us).length = n + 1 := by rw [List.length_cons, ← r.length, l1]
  refine wpAny_call (make_map (f := f) I.kIn M.makes M.init (beq_iff_eq.mp M.fn) (codeAny_mono (F.run _ X.stack _ _ ⟨Value.ref (s.heap.objs.size + 1) :: us, ks.zip ws⟩ (g (Value.ref (s.heap.objs.size + 1) :: us) ws) _ _ E (hr.make C us (ks.zip ws))
    (I2.env0.make C us (ks.zip ws)) (hb.to _ (Value.ref (s.heap.objs.size + 1) :: us) ws I2.kIn n1 (rz.length.symm.trans l2)) r2 hq) fun r s' hq' => ?_))
  cases r with
  | error e => exact hx pins _ _ e s' I2 hq'
  | ok fl =>
    cases fl with
    | ret u =>
      obtain ⟨v, H', I3, rv, ev, q3⟩ := I2.after hq'
      subst ev
      exact ⟨rv, ⟨V.ref (s.heap.objs.size + 1), H', I3, rfl, q3⟩⟩
    | next => exact False.elim hq'
    | brk => exact False.elim hq'
    | cont => exact False.elim hq'
def tMakeKX (C : Addr) (n m : Nat) (sp : Sp) (gV : List V → List V → List V) (E : L2.St → XK) (t tk : TA) : TE := fun σ H Q => t σ H fun vs H1 => tk σ H1 fun zs H2 => vs.length = n ∧ zs.length = m ∧ ∀ x dx, H2 x = none → H2 dx = none → dx ≠ x →
  sp (gV (.ref x :: vs) zs) (upd (upd H2 dx (.own x)) x (.ins C dx [])) (fun v H3 => v = .non ∧ Q (.ref x) H3) (E σ)
/-- C(e, .., k = v, ..) -/
theorem kmakx (c : KMak X.prog X.w X.K X.mg X.base k x C n ks sp gV) (tk : Takes X W) (hr : Room j X.A) (hk : k + 1 ≤ j) (hg : Gl X x) (ha : PA X (e :: es) t) (hkw : PK X kws tw)
    (hall : (backToKw pos (keywordEach kws X.env)).all (·.1.isSome) = true := by rfl) (hks : (backToKw pos (keywordEach kws X.env)).filterMap (·.1) = ks := by rfl) (hdb : (x == ("__debug__" : Str)) = false := by decide)
    (he : starEach (e :: es) X.env = (false, eval e X.env) :: starEach es X.env := by rfl) (hpl : ((backTo pos (starEach (e :: es) X.env)).any (·.1) || (backToKw pos (keywordEach kws X.env)).any (·.1.isNone)) = false := by rfl) :
    PE X (.Call (.Name x p) (e :: es) kws pos) (tMakeKX C n ks.length sp gV (WE W) t tw) := by
  obtain ⟨f, fd, ps, g, M, F, hm, hb⟩ := c.ex
  refine ⟨fun pins s σ H Q I h => ?_⟩
  refine wpAny_Call_Name_kw (ld_glob I hg hm ?_ hdb)
  refine PySem.W.callWith_KW (h₀ := X.base) I.ok.mod.kin M.kp hall (thn (ha.run pos pins s σ H _ I h) fun us s1 ⟨vs, H1, I1, r, q⟩ => ?_) hpl he
  refine thn (hkw.run pos pins s1 σ H1 _ I1 q) fun ws s2 ⟨zs, H2, I2, rz, l1, l2, q2⟩ => ⟨I2.kIn, ?_⟩
  rw [hks]
  exact mkAtK M F (hr.mono hk) hb (passAt tk σ) I2 r rz l1 l2 q2
end
end Kr

set_option Elab.async false
set_option linter.all false
set_option maxRecDepth 100000
set_option maxHeartbeats 2000000
/-! ### lstrip of one sign, startswith -/
namespace Kr
open PySem PySem.Spec PyProof.Rows L2
open SX (S)
theorem starts_S (a b : List Nat) : Txt.startswith (S a) (S b) = decide (a.take b.length = b) := by
  unfold Txt.startswith
  rw [StrLaws.subAt_eq]
  have e1 : (S a).length = a.length := SX.S_len a
  have e2 : (S b).length = b.length := SX.S_len b
  rw [e1, e2]
  have e3 : (S a).cps.toList = a := by simp [S]
  have e4 : (S b).cps.toList = b := by simp [S]
  rw [e3, e4, List.drop_zero]
  by_cases h : a.take b.length = b
  · have hl : b.length ≤ a.length := by
      have := congrArg List.length h
      rw [List.length_take] at this
      omega
    rw [decide_eq_true h, h]
    simp [hl]
  · rw [decide_eq_false h]
    have : (a.take b.length == b) = false := by simpa using h
    rw [this]; simp
def rStartsS : V → List V → Hp → VK → Prop := fun x xs H Q => ∃ a b : List Nat, x = .str (S a) ∧ xs = [.str (S b)] ∧ Q (.bl (decide (a.take b.length = b))) H
theorem mt_startsS {X : Cx} : MtR X "str.startswith" rStartsS := mtImp mt_startswith fun x xs H Q ⟨a, b, e1, e2, q⟩ => ⟨S a, S b, e1, e2, by rw [starts_S]; exact q⟩
theorem dropW {a : List Nat} {c : Nat} : ∀ (lo : Nat), lo ≤ a.length → (∀ k, k < lo → a.getD k 0 = c) → (lo = a.length ∨ a.getD lo 0 ≠ c) → a.dropWhile (· == c) = a.drop lo := by
  induction a with
  | nil => intro lo h _ _; simp at h; subst h; rfl
  | cons x a ih =>
    intro lo h1 h2 h3
    cases lo with
    | zero =>
      rcases h3 with h3 | h3
      · simp at h3
      · have hx : (x == c) = false := by simpa using h3
        show (match x == c with | true => _ | false => x :: a) = x :: a
        rw [hx]
    | succ lo =>
      have hx : (x == c) = true := by simpa using h2 0 (by omega)
      show (match x == c with | true => a.dropWhile (· == c) | false => x :: a) = _
      rw [hx]
      show a.dropWhile (· == c) = a.drop lo
      refine ih lo (by simpa using h1) (fun k hk => by simpa using h2 (k + 1) (by omega)) ?_
      rcases h3 with h3 | h3
      · exact .inl (by simpa using h3)
      · exact .inr (by simpa using h3)
theorem lstrip_S (a : List Nat) (c : Nat) : Txt.lstripChars (S a) (S [c]) = S (a.dropWhile (· == c)) := by
  unfold Txt.lstripChars
  obtain ⟨h0, h1, h2⟩ := lo_facts (S [c]).cps.contains (S a)
  rw [stripBy_eq]
  generalize stripLo (S [c]).cps.contains true (S a) = lo at *
  have el : (S a).length = a.length := SX.S_len a
  have eg : ∀ k, (S a).cps.getD k 0 = a.getD k 0 := fun k => by simp [S]
  have ec : ∀ x, (S [c]).cps.contains x = (x == c) := fun x => by
    have e : (S [c]).cps.contains x = decide (x = c) := by simp [S]
    rw [e]; rfl
  rw [el] at h0 h2
  rw [dropW lo h0 (fun k hk => by have := h1 k hk; rw [eg, ec] at this; simpa using this) (by
    rcases h2 with h | h
    · exact .inl h
    · rw [eg, ec] at h
      exact .inr (by simpa using h))]
  show Builtin.Str.strSub (S a) lo (S a).length = _
  rw [el]
  unfold Builtin.Str.strSub
  congr 1
  simp [S]
  exact List.take_of_length_le (by simp)
def rLstripS : V → List V → Hp → VK → Prop := fun x xs H Q => ∃ (a : List Nat) (c : Nat), x = .str (S a) ∧ xs = [.str (S [c])] ∧ a.length ≤ 100000 ∧ Q (.str (S (a.dropWhile (· == c)))) H
theorem mt_lstripS {X : Cx} : MtR X "str.lstrip" rLstripS := mtImp mt_lstripChars fun x xs H Q ⟨a, c, e1, e2, hl, q⟩ => ⟨S a, S [c], e1, e2, by rw [SX.S_len]; exact leSz hl, by rw [lstrip_S]; exact q⟩
/-- text[-1] -/
def rIxTn : R2 := fun x y H Q => ∃ (a : List Nat) (c : Nat), x = .str (S a) ∧ y = .int (-1) ∧ a.length ≤ 100000 ∧ a.getLast? = some c ∧ Q (.str (S [c])) H
theorem ix_Sn {X : Cx} : IxR X rIxTn := ixImp ix_str fun x y H Q ⟨a, c, h1, h2, h3, h5, q⟩ => ⟨S a, -1, c, h1, h2, by rw [SX.S_len]; exact leSz h3, by
  have hl : a.length ≠ 0 := fun z => by rw [List.length_eq_zero_iff.mp z] at h5; cases h5
  have e : ixN a.length (-1) = some (a.length - 1) := by
    unfold ixN
    rw [if_neg (by omega), if_pos (by omega)]
    congr 1
    omega
  show atI a (-1) = some c
  unfold atI
  rw [e]
  show a[a.length - 1]? = some c
  rw [← List.getLast?_eq_getElem?, h5], q⟩
end Kr

set_option Elab.async false
set_option linter.all false
set_option maxRecDepth 100000
set_option maxHeartbeats 2000000
/-! ### for inside a generator -/
namespace Kr
open PySem PySem.Spec PyProof.Rows L2 GenW
section
variable {M : Model} {A : Around} {R : GenEnd} {Y : Protocol} {n : Nat} {s₀ : Shared} {c : Code} {fs : List Frame} {s : Shared} {env : Env}
  {K : Flow → Sem PySem.Fin} {J : Value → Sem PySem.Fin} {gd : Bool → Bool} {lv : List Value → List Value}
theorem seg_For {tg iter : Expr} {body : List Stmt} {pos : Pos} (hs : ∀ x, foldedSetIterable iter env x = pure x)
    (h : wpAny M (A.over c fs) (eval iter env) (fun x s1 => wpAny M (A.over c fs) (pyIter x) (fun it s2 => ∀ p, Seg M A R Y n s₀ (.forLoop tg it body [] env) (M.den (.forLoop tg it body [] env))
        (.ret (fun r => ((match r with | .ok f => (.pure f : Sem Flow) | .error e => .raise e).onRaise (cameBack env)).wrap K J gd lv) none (gd false) (lv []) c p [] :: fs) s2) (fun e s' => Seg M A R Y n s₀ c (J e) fs s') s1) (fun e s' => Seg M A R Y n s₀ c (J e) fs s') s) :
    Seg M A R Y n s₀ c ((exec (.For tg iter body [] pos) env).wrap K J gd lv) fs s := by
  have e : exec (.For tg iter body [] pos) env = ((do
      standAt pos
      let x ← foldedSetIterable iter env (← eval iter env)
      standAt iter.pos
      holding [x] (pyIter x) : Sem Value) >>= fun it => runOwn (.forLoop tg it body [] env) env) := by
    rw [exec_For]
    simp only [bind_assoc]
  rw [e, Sem.bind_eq_wrap', Sem.wrap_wrap]
  refine seg_wrap ?_
  refine wpAny_bind (wpAny_standAt (wpAny_bind (wpAny_mono h (fun x s₁ h₁ => wpAny_bind (wpAny_of_eq (hs x) (wpAny_bind (wpAny_standAt (wpAny_holding
    (wpAny_mono h₁ (fun it s₂ h₂ => ?_) fun _ _ h' => h')))))) fun _ _ h' => h')))
  exact seg_call h₂
end
section
variable {prog : Program} {w : World} {A : Around} {R : GenEnd} {Y : Protocol} {n : Nat} {s₀ : Shared} {fs : List Frame} {s : Shared} {env : Env}
abbrev noted (x : Value) (env : Env) : Sem PySem.Fin := (do noteFrame x env; theTreesLotGoes x : Sem Unit).wrap (fun _ => .raise x) .raise id id
theorem forTurn_eq (tg : Expr) (it : Value) (body : List Stmt) (env : Env) : forTurn tg it body [] env = ((do
    standAt tg.pos
    match ← (pyNext it).onRaise (fun _ => standAt { tg.pos with line := 0 }) with
    | none => pure none
    | some v => do
      letOwnedTupleGo tg it v
      assign tg env v
      pure (some v) : Sem (Option Value)) >>= fun o => match o with
      | none => .pure (.again (.block [] env))
      | some _ => execs body env >>= fun f => match f with
        | .next | .cont => .pure (.again (.forLoop tg it body [] env))
        | .brk => .pure (.done .next)
        | .ret v => .pure (.done (.ret v))) := by
  unfold forTurn
  simp only [bind_assoc]
  congr 1
  funext _
  congr 1
  funext o
  cases o with
  | none => rfl
  | some v =>
    simp only [bind_assoc]
    congr 1
theorem seg_forLoop {tg : Expr} {it : Value} {body : List Stmt}
    (h : wpAny (model prog w) (A.over (.forLoop tg it body [] env) fs) (pyNext it) (fun r s1 => match r with
      | none => Seg (model prog w) A R Y n s₀ (.block [] env) (.pure (.done .next)) fs s1
      | some v => wpAny (model prog w) (A.over (.forLoop tg it body [] env) fs) (letOwnedTupleGo tg it v) (fun _ s2 => wpAny (model prog w) (A.over (.forLoop tg it body [] env) fs) (assign tg env v) (fun _ s3 =>
          Seg (model prog w) A R Y n s₀ (.forLoop tg it body [] env) ((execs body env).wrap (fun f => match f with
            | .next | .cont => .pure (.again (.forLoop tg it body [] env))
            | .brk => .pure (.done .next)
            | .ret v => .pure (.done (.ret v))) (fun e => noted e env) id id) fs s3)
          (fun x s' => Seg (model prog w) A R Y n s₀ (.forLoop tg it body [] env) (noted x env) fs s') s2) (fun x s' => Seg (model prog w) A R Y n s₀ (.forLoop tg it body [] env) (noted x env) fs s') s1)
      (fun x s' => Seg (model prog w) A R Y n s₀ (.forLoop tg it body [] env) (noted x env) fs s') s) :
    Seg (model prog w) A R Y n s₀ (.forLoop tg it body [] env) ((model prog w).den (.forLoop tg it body [] env)) fs s := by
  show Seg _ A R Y n s₀ _ ((forTurn tg it body [] env).onRaise (fun x => do noteFrame x env; theTreesLotGoes x)) fs s
  rw [forTurn_eq, Sem.onRaise_eq_wrap, Sem.bind_eq_wrap', Sem.wrap_wrap]
  have ee : ∀ (x : Value) (s' : Shared), Seg (model prog w) A R Y n s₀ (.forLoop tg it body [] env) (noted x env) fs s' → Seg (model prog w) A R Y n s₀ (.forLoop tg it body [] env) ((do noteFrame x env; theTreesLotGoes x : Sem Unit).bind fun _ => .raise x) fs s' := fun x s' hx => by
    rw [Sem.bind_eq_wrap]; exact hx
  refine seg_wrap ?_
  refine wpAny_bind (wpAny_standAt (wpAny_bind (wpAny_onRaise (wpAny_mono h (fun r s₁ h₁ => ?_) fun x s' h' => wpAny_standAt ?_))))
  · cases r with
    | none =>
      refine wpAny_pure ?_
      exact seg_again rfl h₁
    | some v =>
      refine wpAny_bind (wpAny_mono h₁ (fun _ s₂ h₂ => wpAny_bind (wpAny_mono h₂ (fun _ s₃ h₃ => wpAny_pure ?_) fun x s' h' => ?_)) fun x s' h' => ?_)
      · show Seg _ A R Y n s₀ _ (Sem.wrap _ _ _ _ (execs body env >>= _)) fs s₃
        rw [Sem.bind_eq_wrap', Sem.wrap_wrap]
        rw [Sem.wrap_congr (execs body env) _ _ (K' := fun f => match f with
            | .next | .cont => .pure (.again (.forLoop tg it body [] env))
            | .brk => .pure (.done .next)
            | .ret v => .pure (.done (.ret v))) (H' := fun e => noted e env)
          (fun f => by cases f <;> rfl)
          (fun e => by first | exact Sem.bind_eq_wrap _ _ | (show (do noteFrame e env; theTreesLotGoes e : Sem Unit).bind (fun _ => .raise e) = _; rw [Sem.bind_eq_wrap]))]
        exact h₃
      · exact ee x s' h'
      · exact ee x s' h'
  · exact ee x s' h'
end
section
variable {X : Cx} {tg : Expr}
/-- for inside a generator: W: the invariant by the turn and a measure, with what is out -/
def tGFor (wi : TI) (g : TG) (tb : TGn) : TGn := fun D ys σ H => wi σ H fun J H1 => ∃ W : Nat → Nat → List V → L2.St → Hp → Prop, (∃ m, W 0 m ys σ H1) ∧ ∀ i m ys σ H, W i m ys σ H →
  (J.stop i H ∧ D.nx ys σ H) ∨ (J.go i H ∧ ∃ N : List V → L2.St → Hp → Prop, (∀ ys' σ' H', N ys' σ' H' → ∃ m', m' < m ∧ W (i + 1) m' ys' σ' H') ∧ ∀ x H', J.yld i H x H' → g x σ H' fun σ2 H2 => tb { D with nx := N, ct := N, bk := D.nx } ys σ2 H2)
theorem gs_for {iter : Expr} {body : List Stmt} {wi : TI} {g : TG} {tb : TGn} {pos : Pos} (hp : PassesOwn (model X.prog X.w) X.A X.env X.xe) (hc : X.calm = true) (hi : PI X tg iter wi) (hg : PG X tg g) (hb : GSs X body tb)
    (hs : ∀ x, foldedSetIterable iter X.env x = pure x := by intro _; rfl) : GS X (.For tg iter body [] pos) (tGFor wi g tb) := by
  refine ⟨fun A S ip R n ys s₀ c fs K J gd lv s σ H D gC hn k hI ht => ?_⟩
  refine seg_For hs ?_
  rw [gC.over]
  obtain ⟨acc0, cc0, r0, I0⟩ := hI
  refine wpAny_mono (hi.run _ s σ H _ I0 ht) (fun x s1 h1 => wpAny_mono h1 (fun itv s2 h2 => ?_) fun e s' hx => k.exc n s₀ e s' hx) fun e s' hx => k.exc n s₀ e s' hx
  obtain ⟨it, fp, tn, JJ, H2, e, I2, T, st2, f2, W, ⟨m0, w0⟩, turn⟩ := h2
  subst e
  intro p
  have gl := fun (kk : Result → Sem PySem.Fin) => gc_loop (k := kk) (c' := .forLoop tg (.ref it) body [] X.env) (l := lv []) (kp := []) (p := p) gC rfl rfl
  -- what stays true of the iterator's objects
  have stat : ∀ {H' : Hp} {acc : Array Value} {cc : Nat}, (∀ b ∈ fp, H' b = none) → ∀ b ∈ fp, FpOk X ((S, lstObj acc cc) :: ip) H' b := fun hn b hb => by
    obtain ⟨z0, z1, z2, z3, z4, z5⟩ := f2 b hb
    refine ⟨hn b hb, z1, z2, z3, z4, fun q hq => ?_⟩
    rcases List.mem_append.mp hq with y | y
    · exact z5 q (List.mem_append_left _ y)
    · rcases List.mem_cons.mp y with y | y
      · rw [y]; exact z5 (S, lstObj acc0 cc0) (List.mem_append_right _ List.mem_cons_self)
      · exact z5 q (List.mem_append_right _ (List.mem_cons_of_mem _ y))
  have hSfp : ∀ b ∈ fp, b ≠ S := fun b hb z => (f2 b hb).2.2.2.2.2 (S, lstObj acc0 cc0) (List.mem_append_right _ List.mem_cons_self) z.symm
  have loop : ∀ (m i n : Nat) (ys : List V) (s₀ s : Shared) (σ : L2.St) (H : Hp), n + ys.length = sizeLine → W i m ys σ H → GI X S ip ys σ H s → tn i s.heap → (∀ b ∈ fp, H b = none) →
      Seg (model X.prog X.w) A R (GY X S) n s₀ (.forLoop tg (.ref it) body [] X.env) ((model X.prog X.w).den (.forLoop tg (.ref it) body [] X.env))
        (.ret (fun r => ((match r with | .ok f => (.pure f : Sem Flow) | .error e => .raise e).onRaise (cameBack X.env)).wrap K J gd lv) none (gd false) (lv []) c p [] :: fs) s := by
    intro m
    induction m using Nat.strongRecOn with
    | ind m ih =>
      intro i n ys s₀ s σ H hn w hI hst hfr
      have ee : ∀ (n : Nat) (s₀ : Shared) (x : Value) (s' : Shared), X.xe x s' → Seg (model X.prog X.w) A R (GY X S) n s₀ (.forLoop tg (.ref it) body [] X.env)
          (noted x X.env)
          (.ret (fun r => ((match r with | .ok f => (.pure f : Sem Flow) | .error e => .raise e).onRaise (cameBack X.env)).wrap K J gd lv) none (gd false) (lv []) c p [] :: fs) s' := fun n s₀ x s' hx => by
        refine seg_wrap ?_
        rw [(gl _).over]
        refine wpAny_bind (wpAny_mono (hp x s' hx) (fun _ s'' hcb => wpAny_theTreesLotGoes ?_) fun y s'' hcb => ?_)
        · exact seg_leaf (.error x) (seg_cameBack gC k hcb)
        · exact seg_leaf (.error y) (seg_cameBack gC k hcb)
      refine seg_forLoop ?_
      rw [(gl _).over]
      obtain ⟨acc, cc, r, I⟩ := hI
      rcases turn i m ys σ H w with ⟨stop, qn⟩ | ⟨go, N, hN, step⟩
      · refine wpAny_mono (T.done X rfl rfl rfl hc i _ s σ H X.xe I (stat hfr) hst stop) (fun r1 s4 ⟨hr, I4⟩ => ?_) fun x s' hx => ee n s₀ x s' hx
        subst hr
        exact seg_leaf (.ok .next) (k.ok n ys s₀ s4 .next hn ⟨σ, H, ⟨acc, cc, r, I4⟩, qn⟩)
      · refine wpAny_mono (T.item X rfl rfl rfl hc i _ s σ H X.xe I (stat hfr) hst go) (fun r1 s4 ⟨u, hr, h4⟩ => ?_) fun x s' hx => ee n s₀ x s' hx
        subst hr
        refine wpAny_mono h4 (fun _ s5 ⟨x, H5, I5, r5, y5, st5, fr5⟩ => ?_) fun x s' hx => ee n s₀ x s' hx
        have I5' := I5.pinned (stat fr5) (T.obj _ _ st5)
        refine wpAny_mono (hg.run _ s5 σ H5 x u _ I5' r5 (step x H5 y5)) (fun _ s6 ⟨σ6, H6, I6, q6⟩ => ?_) fun x s' hx => ee n s₀ x s' hx
        have gl2 : GC X S (ip ++ pinsAt fp s5.heap) A (.forLoop tg (.ref it) body [] X.env) (.ret (fun r => ((match r with | .ok f => (.pure f : Sem Flow) | .error e => .raise e).onRaise (cameBack X.env)).wrap K J gd lv) none (gd false) (lv []) c p [] :: fs) id :=
          ⟨gC.pn, fun q hq => (List.mem_append.mp hq).elim (fun y => gC.ip q y) fun y => hSfp q.1 (of_pinsAt y).1, gC.apart, (gl _).over, (gl _).split, (gl _).guard, rfl⟩
        have un : ∀ {ys7 : List V} {σ7 : L2.St} {H7 : Hp} {s7 : Shared}, GI X S (ip ++ pinsAt fp s5.heap) ys7 σ7 H7 s7 → GI X S ip ys7 σ7 H7 s7 ∧ tn (i + 1) s7.heap ∧ ∀ b ∈ fp, H7 b = none := fun {ys7 σ7 H7 s7} h7 => by
          obtain ⟨acc7, cc7, r7, I7⟩ := h7
          have I7' : Inv X (((S, lstObj acc7 cc7) :: ip) ++ pinsAt fp s5.heap) σ7 H7 s7 := I7
          refine ⟨⟨acc7, cc7, r7, I7'.unpinned⟩, T.keep _ _ _ st5 fun b hb o e => (I7'.pin (b, o) (List.mem_append_right _ (List.mem_append_right _ (mem_pinsAt hb e)))).1, fun b hb => ?_⟩
          obtain ⟨o, e, d⟩ := T.obj _ _ st5 b hb
          exact (I7'.pin (b, o) (List.mem_append_right _ (List.mem_append_right _ (mem_pinsAt hb e)))).2.1
        refine hb.run A S (ip ++ pinsAt fp s5.heap) R n ys s₀ _ _ _ _ id id s6 σ6 H6 { D with nx := N, ct := N, bk := D.nx } gl2 hn ⟨fun n' ys' s₀' s7 f hn' hs7 => ?_, fun n' s₀' x s7 hx => ee n' s₀' x s7 hx⟩ ⟨acc, cc, r, I6⟩ q6
        cases f with
        | next =>
          obtain ⟨σ7, H7, I7, n7⟩ := hs7
          obtain ⟨m', hm, w7⟩ := hN ys' σ7 H7 n7
          obtain ⟨a1, a2, a3⟩ := un I7
          exact seg_again rfl (ih m' hm (i + 1) n' ys' s₀' s7 σ7 H7 hn' w7 a1 a2 a3)
        | cont =>
          obtain ⟨σ7, H7, I7, n7⟩ := hs7
          obtain ⟨m', hm, w7⟩ := hN ys' σ7 H7 n7
          obtain ⟨a1, a2, a3⟩ := un I7
          exact seg_again rfl (ih m' hm (i + 1) n' ys' s₀' s7 σ7 H7 hn' w7 a1 a2 a3)
        | brk =>
          obtain ⟨σ7, H7, I7, q7⟩ := hs7
          exact seg_leaf (.ok .next) (k.ok n' ys' s₀' s7 .next hn' ⟨σ7, H7, (un I7).1, q7⟩)
        | ret v =>
          obtain ⟨x7, σ7, H7, I7, r7, q7⟩ := hs7
          exact seg_leaf (.ok (.ret v)) (k.ok n' ys' s₀' s7 (.ret v) hn' ⟨x7, σ7, H7, (un I7).1, r7, q7⟩)
  exact loop m0 0 n ys s₀ s2 σ H2 hn w0 ⟨acc0, cc0, r0, I2⟩ st2 fun b hb => (f2 b hb).1
end
/-! ### code that is not reached -/
section
variable {X : Cx}
def tNo : TS := fun _ _ _ => False
theorem ps_no {st : Stmt} : PS X st tNo := ⟨fun _ _ _ _ _ _ h => h.elim⟩
theorem pss_no {l : List Stmt} : PSs X l tNo := ⟨fun _ _ _ _ _ _ h => h.elim⟩
end
/-! ### generators called with keywords -/
structure KGn (P : Program) (w : World) (K : PySem.W.Frag) (mg : Str → Option Value) (base : Heap) (k : Nat) (x : Str) (n : Nat) (ks : List Str) (sp : SpG) (gV : List V → List V → List V) : Prop where
  ex : ∃ (f : Addr) (fd : FuncData) (ps : List Str) (g : List Value → List Value → List Value), GFn P w K mg base k f fd ps sp ∧ mg x = some (.ref f) ∧ PySem.W.keepIn K (.ref f) = true ∧ KBn K fd ps n ks g gV
section
variable {X : Cx} {k j n : Nat} {x : Str} {ks : List Str} {sp : SpG} {gV : List V → List V → List V} {e : Expr} {es : List Expr} {kws : List Keyword} {t tw : TA} {p pos : Pos}
def tGN (n m : Nat) (sp : SpG) (gV : List V → List V → List V) (E : XK) (t tk : TA) : TGen := fun σ H cont => t σ H fun vs H1 => tk σ H1 fun zs H2 => vs.length = n ∧ zs.length = m ∧ sp (gV vs zs) H2 cont E
/-- f(e, .., k = v, ..) of a generator def -/
theorem pgen_callN {E : XK} (c : KGn X.prog X.w X.K X.mg X.base k x n ks sp gV) (hr : Room k X.A) (hg : Gl X x) (ha : PA X (e :: es) t) (hkw : PK X kws tw)
    (hall : (backToKw pos (keywordEach kws X.env)).all (·.1.isSome) = true := by rfl) (hks : (backToKw pos (keywordEach kws X.env)).filterMap (·.1) = ks := by rfl) (hdb : (x == ("__debug__" : Str)) = false := by decide)
    (he : starEach (e :: es) X.env = (false, eval e X.env) :: starEach es X.env := by rfl) (hpl : ((backTo pos (starEach (e :: es) X.env)).any (·.1) || (backToKw pos (keywordEach kws X.env)).any (·.1.isNone)) = false := by rfl) :
    PGen X k (.Call (.Name x p) (e :: es) kws pos) (tGN n ks.length sp gV E t tw) E := by
  obtain ⟨f, fd, ps, g, F, hm, kp, hb⟩ := c.ex
  refine ⟨fun pins s σ H cont I h => ?_⟩
  refine wpAny_Call_Name_kw (ld_glob I hg hm ?_ hdb)
  refine PySem.W.callWith_KW (h₀ := X.base) I.ok.mod.kin kp hall (thn (ha.run pos pins s σ H _ I h) fun us s1 ⟨vs, H1, I1, r, q⟩ => ?_) hpl he
  refine thn (hkw.run pos pins s1 σ H1 _ I1 q) fun ws s2 ⟨zs, H2, I2, rz, l1, l2, q2⟩ => ⟨I2.kIn, ?_⟩
  rw [hks]
  have r2 := hb.rel r rz
  refine wpAny_call (codeAny_mono (F.run X.A X.stack s2 H2 ⟨us, ks.zip ws⟩ (g us ws) (gV vs zs) cont E hr I2.env0 (hb.to s2 us ws I2.kIn (r.length.symm.trans l1) (rz.length.symm.trans l2)) r2 q2) fun r s' hq => ?_)
  cases r with
  | error e => exact False.elim hq
  | ok fl =>
    cases fl with
    | ret u => exact ⟨H2, s2, [], I2, .nil, hq⟩
    | next => exact False.elim hq
    | brk => exact False.elim hq
    | cont => exact False.elim hq
/-- an exception that ends no iterator -/
abbrev NS (K : PySem.W.Frag) (E : XK) : XK := fun cls d H => E cls d H ∧ PySem.W.subIn K cls (.type "StopIteration") = some false
theorem noStop_ns {K : PySem.W.Frag} {E : XK} : NoStop K (NS K E) := fun _ _ _ h => h.2
end
/-! ### xs.extend(tuple) -/
set_option maxRecDepth 8000 in
theorem list_extend_tupG (l : Addr) (items : Array Value) (n : Nat) (b : Addr) (items2 : Array Value) (n2 : Nat) (d2 : Option Addr) (sl2 : Array (Option Value)) (hs0 : ¬(!items.isEmpty && Builtin.List.listTooLong (items.size + items2.size)) = true) (hs1 : items.size ≤ sizeLine) (hs2 : items.size + items2.size ≤ sizeLine + 1) :
    Meets (Builtin.«list.extend» ⟨[.ref l, .ref b], []⟩) (fun _ R s => s.heap.get? l = some { cls := .type "list", dict := none, data := .seq items n, slots := #[] } ∧ s.heap.get? b = some { cls := .type "tuple", dict := d2, data := .seq items2 n2, slots := sl2 } ∧ R (.ok (.ret Value.none)) { s with heap := s.heap.update l (Obj.mapSeq fun x => x ++ items2), toks := s.toks }) :=
  .of_wp fun prog w A R s h => by
    obtain ⟨hp, g, d, tk, os⟩ := s; obtain ⟨hl, hb, h⟩ := h; have f1 := AutoSeq1.idx_int; have f2 := AutoSeq1.sub_tuple_tuple; have f3 := AutoSeq1.sub_list_list; have f4 := AutoSeq1.sub_tuple_list; have f5 := AutoSeq1.sub_list_tuple;
    have hz' : (items ++ items2).size ≤ sizeLine + 1 := by rw [Array.size_append]; exact hs2
    wp_walk using (wpAny_updateSeq hl rfl (hz := hs1) (_hz' := hz')), AutoSeq1.wpAny_loadPart' hl, AutoSeq1.wpAny_loadPart' hb; exact ⟨_, rfl, h⟩
section
variable {X : Cx}
def rExtendT : V → List V → Hp → VK → Prop := fun x vs H Q => ∃ l b xs zs, x = .ref l ∧ vs = [.ref b] ∧ H l = some (.lst xs) ∧ H b = some (.tup zs) ∧ xs.length + zs.length ≤ sizeLine ∧ Q .non (upd H l (.lst (xs ++ zs)))
theorem mt_extendT : MtM X "list.extend" rExtendT := by
  intro pins s σ H x vs v us Q I rx rv h
  obtain ⟨l, b, xs, zs, rfl, rfl, hH, hB, hz, q⟩ := h
  cases rx
  obtain ⟨u, rfl, ru⟩ := rv.one
  cases ru
  obtain ⟨z, its, n, r, hl, e⟩ := I.lstM hH
  obtain ⟨its2, r2, ⟨o2, e2, hc2, n2, hd2⟩, z2⟩ := I.tuple (SqT.of hB)
  have hl2 := r2.length
  obtain ⟨cls, d2, data, sl2⟩ := o2
  subst hc2 hd2
  have hsz : its.toArray.size + its2.toArray.size ≤ sizeLine := by rw [List.size_toArray, List.size_toArray]; omega
  have hlong : ¬ (!its.toArray.isEmpty && Builtin.List.listTooLong (its.toArray.size + its2.toArray.size)) = true := by
    rw [notLongL hsz, Bool.and_false]
    exact Bool.false_ne_true
  refine call_meets F.slot_list_extend ⟨_, e, rfl⟩ F.entry_list_extend (F.args_list_extend_2 _ _)
    (list_extend_tupG l its.toArray n b its2.toArray n2 d2 sl2 hlong (by rw [List.size_toArray]; omega) (by omega)) ⟨e, e2, ?_⟩
  refine ⟨.non, _, I.lset (its' := its ++ its2) hH e (by simp) (r.append r2) ?_, rfl, q⟩
  rw [List.length_append]
  omega
end
/-! ### x in xs inside a comprehension -/
theorem op_in_seqK {X : Cx} {K : PySem.W.Frag} (h : X.K = K) : OpR X (compareOp .In) (rIn K false) := by
  subst h
  exact op_in_seq
theorem op_notIn_seqK {X : Cx} {K : PySem.W.Frag} (h : X.K = K) : OpR X (compareOp .NotIn) (rIn K true) := by
  subst h
  exact op_notIn_seq
end Kr

set_option Elab.async false
set_option linter.all false
set_option maxRecDepth 100000
set_option maxHeartbeats 2000000
namespace Kr
open PySem PySem.Spec PyProof.Rows L2
open SX (S)
open He (ga ma)
def top (i : Nat) : Stmt := PySem.Challenge.pw_keyreel_k19_first_error_of_a_play.main.body.getD i (.Pass ⟨0, 0, 0, 0⟩)
abbrev FnP (K : PySem.W.Frag) (x : Str) (st : Stmt) (f : Addr) (fd : FuncData) : Prop := FunD K x x (defArgs st) (defBody st) (defScope st) [] [] f fd
local macro_rules | `(tactic| bv_omega) => `(tactic| focus (first | assumption | exact upd_same | exact isSu0 | (apply isS; assumption; done) | (apply Box.isB; assumption; done) | (apply Box.isL; assumption; done) | (apply Box.new; bv_omega; bv_omega; done) | (apply Box.k1; assumption; bv_omega; bv_omega; bv_omega; done) | (apply Box.mt; bv_omega; bv_omega; bv_omega; done) | (apply Box.sm; assumption; bv_omega; done) | (refine Ne.symm ?_; assumption) | (apply isSs; assumption; bv_omega; done) | (apply isSu; bv_omega; done) | (apply updNon; bv_omega; bv_omega; done) | (apply updGet; bv_omega; bv_omega; done) | (apply Same.get; assumption; bv_omega; done) | (apply Kp.get1; assumption; bv_omega; bv_omega; done) | (apply Kp.get2; assumption; bv_omega; bv_omega; bv_omega; done) | exact Same.refl _ | (apply Same.nw; bv_omega; bv_omega; done) | (apply Same.mu; bv_omega; bv_omega; done) | (apply Same.tr; assumption; bv_omega; done) | exact Kp.refl | (apply Kp.up1; bv_omega; done) | (apply Kp.nw1; bv_omega; bv_omega; done) | (apply Kp.sm1; assumption; bv_omega; done) | (apply Kp.tr1; assumption; bv_omega; done) | exact Tk.refl | (apply Tk.kpl; assumption; assumption; bv_omega; done) | (apply ItsAt.kp; assumption; bv_omega; done) | (apply ItsAt.one; bv_omega; bv_omega; done) | (apply Tr.kp; assumption; bv_omega; done) | (apply Tk.sm; assumption; bv_omega; done) | (apply Tk.nw; bv_omega; bv_omega; done) | (apply Tk.ls; bv_omega; bv_omega; done) | (apply Tk.k1; assumption; bv_omega; bv_omega; done) | (apply Tk.bx; assumption; assumption; bv_omega; done) | (apply neTL; assumption; assumption; done) | (apply neLT; assumption; assumption; done) | (apply neTI; assumption; assumption; done) | (apply neLI; assumption; assumption; done) | (apply neIT; assumption; assumption; done) | (apply neIL; assumption; assumption; done) | (apply neSN; assumption; bv_omega; done) | (apply neNS; assumption; bv_omega; done)))
local macro_rules | `(tactic| ac_rfl) => `(tactic| focus (first | exact rfl | (with_reducible assumption) | omega | assumption | (apply SqL.of; bv_omega; done) | (apply SqT.of; bv_omega; done) | (apply Or.inl; apply SqL.of; bv_omega; done) | (apply Or.inr; apply SqT.of; bv_omega; done) | exact atIz (by assumption) | exact atIn (by assumption) | exact ClsV.ty _ | exact TyX.base (.str _) | exact TyX.base (.int _) | exact TyX.base (.bl _) | (apply TyX.base; apply TyOf.lst; bv_omega; done) | (apply TyX.base; apply TyOf.tup; bv_omega; done) | (apply tyL; bv_omega; done) | (apply ltSz; (try simp); (try omega); done) | (apply leSz; (try simp); (try omega); done) | (apply Exists.intro; apply SqT.of; bv_omega; done) | (apply Exists.intro; apply SqL.of; bv_omega; done) | (simp only [List.length_append, List.length_cons, List.length_nil, List.length_map, List.length_reverse]; omega; done) | exact fun _ h => h | exact Or.inl rfl | decide | (with_reducible bv_omega) | trivial))
local macro_rules | `(tactic| and_intros) => `(tactic| repeat (first | (apply And.intro; focus (first | done | ac_rfl; done)) | apply @Exists.intro V | apply @Exists.intro Nat | apply @Exists.intro Int | apply @Exists.intro Bool | apply @Exists.intro Value | apply @Exists.intro Str | apply @Exists.intro (List V) | apply @Exists.intro (List Nat) | apply @Exists.intro HO | apply @Exists.intro (List (Str × V)) | apply @Exists.intro (List Int) | apply @Exists.intro (List It) | apply @Exists.intro It | apply @Exists.intro (List Row) | apply @Exists.intro Row | apply @Exists.intro (List (List Nat)) | refine ift rfl ?_ | refine iff' rfl ?_))
structure TX (K : PySem.W.Frag) (mg : Str → Option Value) : Prop where
  b_len : mg "len" = none
  b_int : mg "int" = none
  b_list : mg "list" = none
  b_range : mg "range" = none
  b_max : mg "max" = none
  b_enumerate : mg "enumerate" = none
  b_isinstance : mg "isinstance" = none
  b_str : mg "str" = none
  b_tuple : mg "tuple" = none
  b_repr : mg "repr" = none
  b_bool : mg "bool" = none
  b_min : mg "min" = none
  b_ValueError : mg "ValueError" = none
  b_set : mg "set" = none
  g_SIGNS : ∃ t, mg "SIGNS" = some (.str (S sgn) t)
  g_WORD_SIGNS : ∃ t, mg "WORD_SIGNS" = some (.str (S wsg) t)
  g_PLAIN_KEYS : ∃ t, mg "PLAIN_KEYS" = some (.str (S [62, 120, 119, 110, 36, 94, 109, 98, 107, 99, 112]) t)
  g_SIGN_KEYS : ∃ t, mg "SIGN_KEYS" = some (.str (S [39, 61, 47]) t)
  g_LETTERS : ∃ t, mg "LETTERS" = some (.str (S ltr) t)
  g_MOST_KEYS : ∃ t, mg "MOST_KEYS" = some (.int 60 t)
  g_MOST_DEPTH : ∃ t, mg "MOST_DEPTH" = some (.int 8 t)
  g_HOLD : ∃ t, mg "HOLD" = some (.int 2 t)
  g_MOST_HOLD : ∃ t, mg "MOST_HOLD" = some (.int 4 t)
  g_MOST_TIMES : ∃ t, mg "MOST_TIMES" = some (.int 1000 t)
section
variable {P : Program} {w : World} {K : PySem.W.Frag} {mg : Str → Option Value} {base : Heap}
abbrev s_InvalidRecording : Stmt := inClass (top 5) 0
theorem sc_InvalidRecording : FnScope ["self", "place"] ["self", "place"] (defScope s_InvalidRecording) := ⟨rfl, rfl, rfl, by decide +kernel, rfl, by decide +kernel, by decide +kernel⟩
theorem ok_InvalidRecording {C : Addr} (T : OexC K C) (no : PySem.W.findIn K (.ref C) "place" = some none) {f : Addr} {fd : FuncData} (F : FunD K "__init__" "InvalidRecording.__init__" (defArgs s_InvalidRecording) (defBody s_InvalidRecording) (defScope s_InvalidRecording) [] [] f fd) : FnOk P w K mg base (CX P w) 1 f fd ["self", "place"] (spEx1 C "place") := by
  refine F.ok sc_InvalidRecording (fun vs H Q E h => ?_) (fun cdv A outer s H vs Q E hr h => ?_)
  · obtain ⟨a, v, rfl, _⟩ := h
    rfl
  · obtain ⟨a, v, rfl, ha, k⟩ := h
    refine ⟨_, pss_one (ps_ost (pv 0) (pv 1)), ?_⟩
    exact ⟨_, rfl, _, rfl, a, C, rfl, T, no, .inl ⟨ha, fun dx h1 h2 => k dx h1 h2⟩⟩
abbrev s_TooManyKeys : Stmt := inClass (top 6) 0
theorem sc_TooManyKeys : FnScope ["self", "limit"] ["self", "limit"] (defScope s_TooManyKeys) := ⟨rfl, rfl, rfl, by decide +kernel, rfl, by decide +kernel, by decide +kernel⟩
theorem ok_TooManyKeys {C : Addr} (T : OexC K C) (no : PySem.W.findIn K (.ref C) "limit" = some none) {f : Addr} {fd : FuncData} (F : FunD K "__init__" "TooManyKeys.__init__" (defArgs s_TooManyKeys) (defBody s_TooManyKeys) (defScope s_TooManyKeys) [] [] f fd) : FnOk P w K mg base (CX P w) 1 f fd ["self", "limit"] (spEx1 C "limit") := by
  refine F.ok sc_TooManyKeys (fun vs H Q E h => ?_) (fun cdv A outer s H vs Q E hr h => ?_)
  · obtain ⟨a, v, rfl, _⟩ := h
    rfl
  · obtain ⟨a, v, rfl, ha, k⟩ := h
    refine ⟨_, pss_one (ps_ost (pv 0) (pv 1)), ?_⟩
    exact ⟨_, rfl, _, rfl, a, C, rfl, T, no, .inl ⟨ha, fun dx h1 h2 => k dx h1 h2⟩⟩
abbrev s_InvalidText : Stmt := inClass (top 3) 0
theorem sc_InvalidText : FnScope ["self", "place"] ["self", "place"] (defScope s_InvalidText) := ⟨rfl, rfl, rfl, by decide +kernel, rfl, by decide +kernel, by decide +kernel⟩
theorem ok_InvalidText {C : Addr} (T : OexC K C) (no : PySem.W.findIn K (.ref C) "place" = some none) {f : Addr} {fd : FuncData} (F : FunD K "__init__" "InvalidText.__init__" (defArgs s_InvalidText) (defBody s_InvalidText) (defScope s_InvalidText) [] [] f fd) : FnOk P w K mg base (CX P w) 1 f fd ["self", "place"] (spEx1 C "place") := by
  refine F.ok sc_InvalidText (fun vs H Q E h => ?_) (fun cdv A outer s H vs Q E hr h => ?_)
  · obtain ⟨a, v, rfl, _⟩ := h
    rfl
  · obtain ⟨a, v, rfl, ha, k⟩ := h
    refine ⟨_, pss_one (ps_ost (pv 0) (pv 1)), ?_⟩
    exact ⟨_, rfl, _, rfl, a, C, rfl, T, no, .inl ⟨ha, fun dx h1 h2 => k dx h1 h2⟩⟩
abbrev s_InvalidPlace : Stmt := inClass (top 4) 0
theorem sc_InvalidPlace : FnScope ["self", "place"] ["self", "place"] (defScope s_InvalidPlace) := ⟨rfl, rfl, rfl, by decide +kernel, rfl, by decide +kernel, by decide +kernel⟩
theorem ok_InvalidPlace {C : Addr} (T : OexC K C) (no : PySem.W.findIn K (.ref C) "place" = some none) {f : Addr} {fd : FuncData} (F : FunD K "__init__" "InvalidPlace.__init__" (defArgs s_InvalidPlace) (defBody s_InvalidPlace) (defScope s_InvalidPlace) [] [] f fd) : FnOk P w K mg base (CX P w) 1 f fd ["self", "place"] (spEx1 C "place") := by
  refine F.ok sc_InvalidPlace (fun vs H Q E h => ?_) (fun cdv A outer s H vs Q E hr h => ?_)
  · obtain ⟨a, v, rfl, _⟩ := h
    rfl
  · obtain ⟨a, v, rfl, ha, k⟩ := h
    refine ⟨_, pss_one (ps_ost (pv 0) (pv 1)), ?_⟩
    exact ⟨_, rfl, _, rfl, a, C, rfl, T, no, .inl ⟨ha, fun dx h1 h2 => k dx h1 h2⟩⟩
abbrev s_InvalidHold : Stmt := inClass (top 8) 0
theorem sc_InvalidHold : FnScope ["self", "hold"] ["self", "hold"] (defScope s_InvalidHold) := ⟨rfl, rfl, rfl, by decide +kernel, rfl, by decide +kernel, by decide +kernel⟩
theorem ok_InvalidHold {C : Addr} (T : OexC K C) (no : PySem.W.findIn K (.ref C) "hold" = some none) {f : Addr} {fd : FuncData} (F : FunD K "__init__" "InvalidHold.__init__" (defArgs s_InvalidHold) (defBody s_InvalidHold) (defScope s_InvalidHold) [] [] f fd) : FnOk P w K mg base (CX P w) 1 f fd ["self", "hold"] (spEx1 C "hold") := by
  refine F.ok sc_InvalidHold (fun vs H Q E h => ?_) (fun cdv A outer s H vs Q E hr h => ?_)
  · obtain ⟨a, v, rfl, _⟩ := h
    rfl
  · obtain ⟨a, v, rfl, ha, k⟩ := h
    refine ⟨_, pss_one (ps_ost (pv 0) (pv 1)), ?_⟩
    exact ⟨_, rfl, _, rfl, a, C, rfl, T, no, .inl ⟨ha, fun dx h1 h2 => k dx h1 h2⟩⟩
abbrev s_InvalidTimes : Stmt := inClass (top 9) 0
theorem sc_InvalidTimes : FnScope ["self", "times"] ["self", "times"] (defScope s_InvalidTimes) := ⟨rfl, rfl, rfl, by decide +kernel, rfl, by decide +kernel, by decide +kernel⟩
theorem ok_InvalidTimes {C : Addr} (T : OexC K C) (no : PySem.W.findIn K (.ref C) "times" = some none) {f : Addr} {fd : FuncData} (F : FunD K "__init__" "InvalidTimes.__init__" (defArgs s_InvalidTimes) (defBody s_InvalidTimes) (defScope s_InvalidTimes) [] [] f fd) : FnOk P w K mg base (CX P w) 1 f fd ["self", "times"] (spEx1 C "times") := by
  refine F.ok sc_InvalidTimes (fun vs H Q E h => ?_) (fun cdv A outer s H vs Q E hr h => ?_)
  · obtain ⟨a, v, rfl, _⟩ := h
    rfl
  · obtain ⟨a, v, rfl, ha, k⟩ := h
    refine ⟨_, pss_one (ps_ost (pv 0) (pv 1)), ?_⟩
    exact ⟨_, rfl, _, rfl, a, C, rfl, T, no, .inl ⟨ha, fun dx h1 h2 => k dx h1 h2⟩⟩
/-! ### keyreel.signs -/
def spIsWord : Sp := fun vs H Q _ => ∃ c : Nat, vs = [.str (S [c])] ∧ Q (.bl (decide (c ∈ wsg))) H
abbrev s_is_word_sign : Stmt := top 17
theorem sc_is_word_sign : FnScope ["sign"] ["sign"] (defScope s_is_word_sign) := ⟨rfl, rfl, rfl, by decide +kernel, rfl, by decide +kernel, by decide +kernel⟩
theorem ok_is_word_sign (T : TX K mg) {f : Addr} {fd : FuncData} (F : FunD K "is_word_sign" "is_word_sign" (defArgs s_is_word_sign) (defBody s_is_word_sign) (defScope s_is_word_sign) [] [] f fd) : FnOk P w K mg base (CX P w) 1 f fd ["sign"] spIsWord := by
  refine F.ok sc_is_word_sign (fun vs H Q E h => ?_) (fun cdv A outer s H vs Q E hr h => ?_)
  · obtain ⟨c, rfl, _⟩ := h
    rfl
  · obtain ⟨c, rfl, k⟩ := h
    refine ⟨_, (pss_one (ps_ret (pe_and (pe_cmpR op_eq (pe_callB call_lenS (by rfl) T.b_len PySem.boot_len (pa_cons (pv 0) pa_nil)) pe_int (nomark _)) (pe_one (pe_cmpR op_inS (pv 0) (pe_gS T.g_WORD_SIGNS rfl) rfl))))), ?_⟩
    exact ⟨_, rfl, _, rfl, by simp, rfl, _, rfl, iteT ⟨_, rfl, _, _, rfl, rfl, k⟩⟩
/-- the first place that is no sign -/
def badAt (a : List Nat) : Option Nat := a.findIdx? fun c => !decide (c ∈ sgn)
/-- X(place = i) leaves, X at C -/
def Rz (C : Addr) (f : Str) (v : V) (H : Hp) (E : XK) : Prop := ∀ H' d, Same H H' → H' d = none → E (.ref C) (some d) (upd H' d (.xd [(f, v)]))
def spCheckText (K : PySem.W.Frag) : Sp := fun vs H Q E => ∃ a : List Nat, vs = [.str (S a)] ∧ (badAt a = none → ∀ H', Same H H' → Q .non H') ∧ (∀ i, badAt a = some i → Rz (ga K "InvalidText") "place" (.int (i : Nat)) H E)
theorem Same.new {H H' : Hp} {p : Addr} {o : HO} (a : Same H H') (h : H' p = none) : Same H (upd H' p o) := fun x u q => by
  have q' := a x u q
  rw [upd_ne (ne_of_none q' h)]; exact q'
abbrev s_check_text : Stmt := top 18
theorem sc_check_text : FnScope ["text", "place", "sign"] ["text"] (defScope s_check_text) := ⟨rfl, rfl, rfl, by decide +kernel, rfl, by decide +kernel, by decide +kernel⟩
theorem ok_check_text (T : TX K mg) (x_InvalidText : Ex1 P w K mg base "InvalidText" "place" (ga K "InvalidText")) {f : Addr} {fd : FuncData} (F : FunD K "check_text" "check_text" (defArgs s_check_text) (defBody s_check_text) (defScope s_check_text) [] [] f fd) : FnOk P w K mg base (CX P w) 3 f fd ["text"] (spCheckText K) := by
  refine F.ok sc_check_text (fun vs H Q E h => ?_) (fun cdv A outer s H vs Q E hr h => ?_)
  · obtain ⟨a, rfl, _⟩ := h
    rfl
  · obtain ⟨a, rfl, kN, kE⟩ := h
    refine ⟨_, (pss_one (ps_for (passes_of rfl) rfl (pi_enumS (by rfl) T.b_enumerate (pa_cons (pv 0) pa_nil)) (pg_tup rfl (pgs_cons (pg_name (i := 1) sc_check_text.nd rfl (Or.inl rfl)) (pgs_cons (pg_name (i := 2) sc_check_text.nd rfl (Or.inl rfl)) pgs_nil))) (pss_one (ps_if (pt_cmpR op_notInS (pv 2) (pe_gS T.g_SIGNS rfl) rfl) (pss_one (ps_raise1 rfl (takes_of rfl rfl rfl rfl) x_InvalidText hr (by decide) rfl (pv 1))) pss_nil)))), ?_⟩
    refine ⟨_, rfl, _, rfl, for_it walk_enumS (fun i σ H' => ∃ u v, σ = [some (.str (S a)), u, v] ∧ Same H H' ∧ ∀ j c, j < i → a[j]? = some c → c ∈ sgn) ?_ (fun _ _ _ _ _ => trivial) ?_ ?_⟩
    · exact ⟨none, none, rfl, Same.refl H, fun j c h => absurd h (Nat.not_lt_zero _)⟩
    · rintro i x σ H1 H2 hi ⟨u, v, rfl, s1, ok⟩ ⟨tt, y, z, rfl, h1, rfl, e1, e2⟩
      cases Option.some.inj e1
      have hi' : i < a.length := by simpa [S] using hi
      have e3 : a[i]? = some a[i] := List.getElem?_eq_getElem hi'
      have e4 : z = .str (S [a[i]]) := by
        have q : ((S a).cps[i]?.map fun c => V.str ⟨#[c]⟩) = some z := e2
        have q2 : (S a).cps[i]? = some a[i] := by simpa [S] using e3
        rw [q2] at q
        exact (Option.some.inj q).symm
      subst e4
      have s2 : Same H (upd H1 tt (.tup [.int (i : Nat), .str (S [a[i]])])) := Same.new s1 h1
      refine ⟨tt, _, rfl, SqT.of upd_same, rfl, ?_⟩
      refine ⟨_, _, rfl, _, _, rfl, rfl, ?_⟩
      refine ⟨_, rfl, _, _, rfl, rfl, _, rfl, ?_⟩
      refine if2 (fun c => ?_) (fun c => ?_)
      · have hc : a[i] ∉ sgn := by simpa using c
        refine ⟨_, rfl, mk1_end fun d hd => ?_⟩
        refine kE i ?_ _ d s2 hd
        unfold badAt
        rw [List.findIdx?_eq_some_iff_getElem]
        refine ⟨hi', by simpa using hc, fun j hj => ?_⟩
        have := ok j a[j] hj (List.getElem?_eq_getElem (by omega))
        simpa using this
      · have hc : a[i] ∈ sgn := by simpa using c
        refine ⟨_, _, rfl, s2, fun j c hj e => ?_⟩
        by_cases hj' : j = i
        · subst hj'
          rw [e3] at e
          cases e
          exact hc
        · exact ok j c (by omega) e
    · rintro σ H1 ⟨u, v, rfl, s1, ok⟩
      refine kN ?_ H1 s1
      unfold badAt
      rw [List.findIdx?_eq_none_iff]
      intro c hc
      obtain ⟨j, hj, e⟩ := List.mem_iff_getElem.mp hc
      have := ok j c (by simpa [S] using hj) (by rw [List.getElem?_eq_getElem hj, e])
      simpa using this
def spCheckPlace (K : PySem.W.Frag) : Sp := fun vs H Q E => ∃ (a : List Nat) (i : Int), vs = [.str (S a), .int i] ∧ a.length ≤ 100000 ∧ (0 ≤ i ∧ i ≤ a.length → Q .non H) ∧ (¬ (0 ≤ i ∧ i ≤ a.length) → Rz (ga K "InvalidPlace") "place" (.int i) H E)
abbrev s_check_place : Stmt := top 19
theorem sc_check_place : FnScope ["text", "place"] ["text", "place"] (defScope s_check_place) := ⟨rfl, rfl, rfl, by decide +kernel, rfl, by decide +kernel, by decide +kernel⟩
theorem ok_check_place (T : TX K mg) (x_InvalidPlace : Ex1 P w K mg base "InvalidPlace" "place" (ga K "InvalidPlace")) {f : Addr} {fd : FuncData} (F : FunD K "check_place" "check_place" (defArgs s_check_place) (defBody s_check_place) (defScope s_check_place) [] [] f fd) : FnOk P w K mg base (CX P w) 3 f fd ["text", "place"] (spCheckPlace K) := by
  refine F.ok sc_check_place (fun vs H Q E h => ?_) (fun cdv A outer s H vs Q E hr h => ?_)
  · obtain ⟨a, i, rfl, _⟩ := h
    rfl
  · obtain ⟨a, i, rfl, hl, kN, kE⟩ := h
    refine ⟨_, (pss_one (ps_if (PW.pt (pw_or (pt_cmpR op_lt (pv 1) pe_int (nomark _)) (pw_or1 (pt_cmpR op_gt (pv 1) (pe_callB call_lenS (by rfl) T.b_len PySem.boot_len (pa_cons (pv 0) pa_nil)) (nomark _))))) (pss_one (ps_raise1 rfl (takes_of rfl rfl rfl rfl) x_InvalidPlace hr (by decide) rfl (pv 1))) pss_nil)), ?_⟩
    refine ⟨_, rfl, _, _, rfl, rfl, _, rfl, ?_⟩
    refine if2 (fun c => ?_) (fun c => ?_)
    · have hc : i < 0 := of_decide_eq_true c
      refine ift rfl ?_
      exact ⟨_, rfl, mk1_end fun d hd => kE (by omega) _ d (Same.refl H) hd⟩
    · have hc : ¬ i < 0 := of_decide_eq_false c
      refine ⟨_, rfl, _, rfl, _, rfl, hl, _, _, rfl, rfl, _, rfl, ?_⟩
      refine if2 (fun c => ?_) (fun c => ?_)
      · have hc2 : (a.length : Int) < i := of_decide_eq_true c
        exact ⟨_, rfl, mk1_end fun d hd => kE (by omega) _ d (Same.refl H) hd⟩
      · have hc2 : ¬ (a.length : Int) < i := of_decide_eq_false c
        exact kN (by omega)
/-! ### keyreel.notation, keyreel.page -/
def pk : List Nat := [62, 120, 119, 110, 36, 94, 109, 98, 107, 99, 112]
def sk : List Nat := [39, 61, 47]
def isKey : List Nat → Bool
  | [a] => decide (a ∈ pk)
  | [a, b] => decide (a ∈ sk) && decide (b ∈ sgn)
  | _ => false
theorem isKey_vk {kk : List Nat} (h : isKey kk = true) : ∃ key s, kk = key :: s ∧ vk key s := by
  match kk, h with
  | [a], h => exact ⟨a, [], rfl, .inl ⟨of_decide_eq_true h, rfl⟩⟩
  | [a, b], h =>
    have h' : (decide (a ∈ sk) && decide (b ∈ sgn)) = true := h
    rw [Bool.and_eq_true] at h'
    exact ⟨a, [b], rfl, .inr ⟨of_decide_eq_true h'.1, b, of_decide_eq_true h'.2, rfl⟩⟩
theorem vk_isKey {key : Nat} {s : List Nat} (h : vk key s) : isKey (key :: s) = true := by
  rcases h with ⟨h1, rfl⟩ | ⟨h1, a, h2, rfl⟩
  · exact decide_eq_true h1
  · show (decide (key ∈ sk) && decide (a ∈ sgn)) = true
    rw [Bool.and_eq_true]
    exact ⟨decide_eq_true h1, decide_eq_true h2⟩
def spIsKey : Sp := fun vs H Q _ => ∃ kk : List Nat, vs = [.str (S kk)] ∧ kk.length ≤ 1000 ∧ Q (.bl (isKey kk)) H
abbrev s_is_key : Stmt := top 26
theorem sc_is_key : FnScope ["key"] ["key"] (defScope s_is_key) := ⟨rfl, rfl, rfl, by decide +kernel, rfl, by decide +kernel, by decide +kernel⟩
theorem ok_is_key (T : TX K mg) {f : Addr} {fd : FuncData} (F : FunD K "is_key" "is_key" (defArgs s_is_key) (defBody s_is_key) (defScope s_is_key) [] [] f fd) : FnOk P w K mg base (CX P w) 1 f fd ["key"] spIsKey := by
  refine F.ok sc_is_key (fun vs H Q E h => ?_) (fun cdv A outer s H vs Q E hr h => ?_)
  · obtain ⟨kk, rfl, _⟩ := h
    rfl
  · obtain ⟨kk, rfl, hl, k⟩ := h
    refine ⟨_, (pss_cons (ps_if (pt_cmpR op_eq (pe_callB call_lenS (by rfl) T.b_len PySem.boot_len (pa_cons (pv 0) pa_nil)) pe_int (nomark _)) (pss_one (ps_ret (pe_cmpR op_inS (pv 0) (pe_gS T.g_PLAIN_KEYS rfl) rfl))) pss_nil) (pss_one (ps_ret (pe_and (pe_cmpR op_eq (pe_callB call_lenS (by rfl) T.b_len PySem.boot_len (pa_cons (pv 0) pa_nil)) pe_int (nomark _)) (pe_and (pe_cmpR op_inS (pe_ix ix_S (pv 0) pe_int (fun _ _ => rfl)) (pe_gS T.g_SIGN_KEYS rfl) rfl) (pe_one (pe_cmpR op_inS (pe_ix ix_S (pv 0) pe_int (fun _ _ => rfl)) (pe_gS T.g_SIGNS rfl) rfl))))))), ?_⟩
    refine ⟨_, rfl, _, rfl, by omega, rfl, _, rfl, ?_⟩
    match kk, hl, k with
    | [], hl, k =>
      refine iff' (by rfl) ?_
      exact ⟨_, rfl, _, rfl, by omega, rfl, _, rfl, k⟩
    | [a], hl, k =>
      refine ift (by rfl) ?_
      exact ⟨_, rfl, _, _, rfl, rfl, k⟩
    | [a, b], hl, k =>
      refine iff' (by rfl) ?_
      refine ⟨_, rfl, _, rfl, by omega, rfl, _, rfl, ?_⟩
      refine ift (by rfl) ?_
      refine ⟨_, rfl, _, 0, a, rfl, rfl, (by simp), (by decide), rfl, _, _, rfl, rfl, _, rfl, ?_⟩
      have k' : Q (.bl (decide (a ∈ sk) && decide (b ∈ sgn))) H := k
      refine if2 (fun c => ?_) (fun c => ?_)
      · have c' : decide (a ∈ sk) = true := c
        rw [c'] at k'
        exact ⟨_, rfl, _, 1, b, rfl, rfl, (by simp), (by decide), rfl, _, _, rfl, rfl, k'⟩
      · have c' : decide (a ∈ sk) = false := c
        rw [c'] at k'
        exact k'
    | a :: b :: d :: r, hl, k =>
      refine iff' ?_ ?_
      · rw [dI]; simp; omega
      refine ⟨_, rfl, _, rfl, by omega, rfl, _, rfl, ?_⟩
      refine iff' ?_ k
      rw [dI]; simp; omega
def spCheckHold (K : PySem.W.Frag) : Sp := fun vs H Q E => ∃ i : Int, vs = [.int i] ∧ (0 ≤ i ∧ i ≤ 4 → Q .non H) ∧ (¬ (0 ≤ i ∧ i ≤ 4) → Rz (ga K "InvalidHold") "hold" (.int i) H E)
abbrev s_check_hold : Stmt := top 37
theorem sc_check_hold : FnScope ["hold"] ["hold"] (defScope s_check_hold) := ⟨rfl, rfl, rfl, by decide +kernel, rfl, by decide +kernel, by decide +kernel⟩
theorem ok_check_hold (T : TX K mg) (x_InvalidHold : Ex1 P w K mg base "InvalidHold" "hold" (ga K "InvalidHold")) {f : Addr} {fd : FuncData} (F : FunD K "check_hold" "check_hold" (defArgs s_check_hold) (defBody s_check_hold) (defScope s_check_hold) [] [] f fd) : FnOk P w K mg base (CX P w) 3 f fd ["hold"] (spCheckHold K) := by
  refine F.ok sc_check_hold (fun vs H Q E h => ?_) (fun cdv A outer s H vs Q E hr h => ?_)
  · obtain ⟨i, rfl, _⟩ := h
    rfl
  · obtain ⟨i, rfl, kN, kE⟩ := h
    refine ⟨_, (pss_one (ps_if (PW.pt (pw_or (pt_cmpR op_lt (pv 0) pe_int (nomark _)) (pw_or1 (pt_cmpR op_gt (pv 0) (pe_gI T.g_MOST_HOLD rfl) (nomark _))))) (pss_one (ps_raise1 rfl (takes_of rfl rfl rfl rfl) x_InvalidHold hr (by decide) rfl (pv 0))) pss_nil)), ?_⟩
    refine ⟨_, rfl, _, _, rfl, rfl, _, rfl, ?_⟩
    refine if2 (fun c => ?_) (fun c => ?_)
    · have hc : i < 0 := of_decide_eq_true c
      refine ift rfl ?_
      exact ⟨_, rfl, mk1_end fun d hd => kE (by omega) _ d (Same.refl H) hd⟩
    · have hc : ¬ i < 0 := of_decide_eq_false c
      refine ⟨_, rfl, _, _, rfl, rfl, _, rfl, ?_⟩
      refine if2 (fun c => ?_) (fun c => ?_)
      · have hc2 : (4 : Int) < i := of_decide_eq_true c
        exact ⟨_, rfl, mk1_end fun d hd => kE (by omega) _ d (Same.refl H) hd⟩
      · have hc2 : ¬ (4 : Int) < i := of_decide_eq_false c
        exact kN (by omega)
/-- Page.__init__: the first error that is due, else a new page -/
def spInit (K : PySem.W.Frag) : Sp := fun vs H Q E => ∃ (p dx : Addr) (t : List Nat) (i h : Int), vs = [.ref p, .str (S t), .int i, .int h] ∧ t.length ≤ 50000 ∧ H p = some (.ins (ga K "Page") dx []) ∧
  (∀ j, badAt t = some j → Rz (ga K "InvalidText") "place" (.int (j : Nat)) H E) ∧
  (badAt t = none → ¬ (0 ≤ i ∧ i ≤ t.length) → Rz (ga K "InvalidPlace") "place" (.int i) H E) ∧
  (badAt t = none → 0 ≤ i ∧ i ≤ t.length → ¬ (0 ≤ h ∧ h ≤ 4) → Rz (ga K "InvalidHold") "hold" (.int h) H E) ∧
  (badAt t = none → 0 ≤ i ∧ i ≤ t.length → 0 ≤ h ∧ h ≤ 4 → ∀ H', Kp [p] H H' → H' p = some (.ins (ga K "Page") dx (pgf ⟨t, i.toNat, none, [], 0⟩ h.toNat)) → Q .non H')
theorem Rz.same {C : Addr} {f : Str} {v : V} {H H1 : Hp} {E : XK} (r : Rz C f v H E) (s : Same H H1) : Rz C f v H1 E := fun H' d s' hd => r H' d (Same.trans s s') hd
abbrev s_Page___init__ : Stmt := inClass (top 38) 0
theorem sc_Page___init__ : FnScope ["self", "text", "place", "hold"] ["self", "text", "place", "hold"] (defScope s_Page___init__) := ⟨rfl, rfl, rfl, by decide +kernel, rfl, by decide +kernel, by decide +kernel⟩
theorem ok_Page___init__ (T : TX K mg) (Z : TP K) (c_check_text : KCal P w K mg base 3 "check_text" (spCheckText K) []) (c_check_place : KCal P w K mg base 3 "check_place" (spCheckPlace K) []) (c_check_hold : KCal P w K mg base 3 "check_hold" (spCheckHold K) []) {f : Addr} {fd : FuncData} (F : FunD K "__init__" "Page.__init__" (defArgs s_Page___init__) (defBody s_Page___init__) (defScope s_Page___init__) [.str (S []), .int 0] [("hold", .int 2)] f fd) : FnOk P w K mg base (CX P w) 4 f fd ["self", "text", "place", "hold"] (spInit K) := by
  refine F.ok sc_Page___init__ (fun vs H Q E h => ?_) (fun cdv A outer s H vs Q E hr h => ?_)
  · obtain ⟨p, dx, t, i, h, rfl, _⟩ := h
    rfl
  · obtain ⟨p, dx, t, i, h, rfl, hl, hp, k1, k2, k3, k4⟩ := h
    refine ⟨_, (pss_cons (ps_expr (kx c_check_text (takes_of rfl rfl rfl rfl) hr (by decide) rfl (pa_cons (pv 1) pa_nil))) (pss_cons (ps_expr (kx c_check_place (takes_of rfl rfl rfl rfl) hr (by decide) rfl (pa_cons (pv 1) (pa_cons (pv 2) pa_nil)))) (pss_cons (ps_expr (kx c_check_hold (takes_of rfl rfl rfl rfl) hr (by decide) rfl (pa_cons (pv 3) pa_nil))) (pss_cons (ps_fld (pv 0) (pv 1) rfl) (pss_cons (ps_fld (pv 0) (pv 2) rfl) (pss_cons (ps_fld (pv 0) pe_non rfl) (pss_cons (ps_fld (pv 0) (pe_strS [] (by decide +kernel)) rfl) (pss_cons (ps_fld (pv 0) pe_int rfl) (pss_one (ps_fld (pv 0) (pv 3) rfl)))))))))), ?_⟩
    refine ⟨_, rfl, t, rfl, fun hN H1 s1 => ?_, fun j hj => k1 j hj⟩
    refine ⟨_, rfl, _, rfl, t, i, rfl, by omega, fun hi => ?_, fun hi => (k2 hN hi).same s1⟩
    refine ⟨_, rfl, h, rfl, fun hh => ?_, fun hh => (k3 hN hi hh).same s1⟩
    have hp1 := s1 _ _ hp
    refine ⟨_, rfl, _, rfl, p, _, dx, _, rfl, hp1, Z.cl, Z.n_text, by decide, ?_⟩
    refine ⟨_, rfl, _, rfl, p, _, dx, _, rfl, upd_same, Z.cl, Z.n_caret, by show 1 < 1000; decide, ?_⟩
    refine ⟨_, rfl, p, _, dx, _, rfl, upd_same, Z.cl, Z.n_mark, by show 2 < 1000; decide, ?_⟩
    refine ⟨_, rfl, p, _, dx, _, rfl, upd_same, Z.cl, Z.n_kept, by show 3 < 1000; decide, ?_⟩
    refine ⟨_, rfl, p, _, dx, _, rfl, upd_same, Z.cl, Z.n_returned, by show 4 < 1000; decide, ?_⟩
    refine ⟨_, rfl, _, rfl, p, _, dx, _, rfl, upd_same, Z.cl, Z.n_hold, by show 5 < 1000; decide, ?_⟩
    refine k4 hN hi hh _ ?_ ?_
    · exact ((((((Kp.of_same s1).upd (by simp)).upd (by simp)).upd (by simp)).upd (by simp)).upd (by simp)).upd (by simp)
    · rw [upd_same, pt_new]
      have e1 : ((i.toNat : Nat) : Int) = i := by omega
      have e2 : ((h.toNat : Nat) : Int) = h := by omega
      show _ = some (HO.ins _ _ (pgR _ (V.int (i.toNat : Nat)) _ _ _ (V.int (h.toNat : Nat))))
      rw [e1, e2]
      rfl
def spAhead (K : PySem.W.Frag) : Sp := fun vs H Q _ => ∃ (p : Addr) (g : Pg) (h : Nat), vs = [.ref p] ∧ PageAt K H p g h ∧ g.t.length ≤ 50000 ∧ Q (.str (S g.ahead)) H
theorem ahead_eq (g : Pg) : cutL g.t (some ((g.c : Nat) : Int)) (some (((g.c : Nat) : Int) + 1)) = g.ahead := by
  have e : ((g.c : Nat) : Int) + 1 = ((g.c + 1 : Nat) : Int) := by omega
  rw [e, cutL_mid]
  unfold Pg.ahead
  rw [List.drop_take]
  congr 1
  omega
abbrev s_Page_ahead : Stmt := inClass (top 38) 9
theorem sc_Page_ahead : FnScope ["self"] ["self"] (defScope s_Page_ahead) := ⟨rfl, rfl, rfl, by decide +kernel, rfl, by decide +kernel, by decide +kernel⟩
theorem ok_Page_ahead (Z : TP K) {f : Addr} {fd : FuncData} (F : FunD K "ahead" "Page.ahead" (defArgs s_Page_ahead) (defBody s_Page_ahead) (defScope s_Page_ahead) [] [] f fd) : FnOk P w K mg base (CX P w) 1 f fd ["self"] (spAhead K) := by
  refine F.ok sc_Page_ahead (fun vs H Q E h => ?_) (fun cdv A outer s H vs Q E hr h => ?_)
  · obtain ⟨p, g, h, rfl, _⟩ := h
    rfl
  · obtain ⟨p, g, h, rfl, ⟨dx, hp⟩, hl, k⟩ := h
    refine ⟨_, (pss_one (ps_ret (pe_slice sl_S (pe_fld (pv 0) rfl) (po_some (pe_fld (pv 0) rfl)) (po_some (pe_op op_add (pe_fld (pv 0) rfl) pe_int))))), ?_⟩
    refine ⟨_, rfl, p, _, _, _, _, rfl, hp, Z.cl, Z.n_text, lk_text, _, rfl, p, _, _, _, _, rfl, hp, Z.cl, Z.n_caret, lk_caret, _, rfl, _, rfl, p, _, _, _, _, rfl, hp, Z.cl, Z.n_caret, lk_caret, _, _, rfl, rfl, _, rfl, _, rfl, by omega, Int.natCast_nonneg _, (by show (0 : Int) ≤ _; omega), ?_⟩
    rw [ahead_eq]
    exact k
def lst (t : List Nat) (i : Nat) : Bool := decide (i = 0) || t[i - 1]? == some 10
def spLineStart (K : PySem.W.Frag) : Sp := fun vs H Q _ => ∃ (p : Addr) (g : Pg) (h i : Nat), vs = [.ref p, .int (i : Nat)] ∧ PageAt K H p g h ∧ g.t.length ≤ 50000 ∧ i ≤ g.t.length ∧ Q (.bl (lst g.t i)) H
abbrev s_Page_line_start_at : Stmt := inClass (top 38) 5
theorem sc_Page_line_start_at : FnScope ["self", "place"] ["self", "place"] (defScope s_Page_line_start_at) := ⟨rfl, rfl, rfl, by decide +kernel, rfl, by decide +kernel, by decide +kernel⟩
theorem ok_Page_line_start_at (Z : TP K) {f : Addr} {fd : FuncData} (F : FunD K "line_start_at" "Page.line_start_at" (defArgs s_Page_line_start_at) (defBody s_Page_line_start_at) (defScope s_Page_line_start_at) [] [] f fd) : FnOk P w K mg base (CX P w) 1 f fd ["self", "place"] (spLineStart K) := by
  refine F.ok sc_Page_line_start_at (fun vs H Q E h => ?_) (fun cdv A outer s H vs Q E hr h => ?_)
  · obtain ⟨p, g, h, i, rfl, _⟩ := h
    rfl
  · obtain ⟨p, g, h, i, rfl, ⟨dx, hp⟩, hl, hi, k⟩ := h
    refine ⟨_, (pss_one (ps_ret (pe_or (pe_cmpR op_eq (pv 1) pe_int (nomark _)) (pe_one (pe_cmpR op_eqS (pe_ix ix_S (pe_fld (pv 0) rfl) (pe_op op_sub (pv 1) pe_int) (fun _ _ => rfl)) (pe_strS [10] (by decide +kernel)) (nomark _)))))), ?_⟩
    refine ⟨_, rfl, rfl, _, rfl, ?_⟩
    unfold lst at k
    cases i with
    | zero => exact k
    | succ i =>
      refine iff' (by rw [dI]; simp; omega) ?_
      have hi2 : i < g.t.length := by omega
      have e : (((i + 1 : Nat) : Int) - 1).toNat = i := by omega
      refine ⟨_, rfl, p, _, _, _, _, rfl, hp, Z.cl, Z.n_text, lk_text, _, rfl, _, _, rfl, rfl, _, _, g.t[i], rfl, rfl, by omega, by omega, ?_, _, _, rfl, rfl, ?_⟩
      · rw [e]; exact List.getElem?_eq_getElem hi2
      · have e2 : (decide (i + 1 = 0) || g.t[i + 1 - 1]? == some 10) = decide ([g.t[i]] = [10]) := by
          simp [List.getElem?_eq_getElem hi2]
          by_cases q : g.t[i] = 10 <;> simp [q]
        rw [e2] at k
        exact k
def spFresh (K : PySem.W.Frag) : Sp := fun vs H Q _ => ∃ (p : Addr) (g : Pg) (h : Nat), vs = [.ref p] ∧ PageAt K H p g h ∧ g.t.length ≤ 50000 ∧ g.c ≤ g.t.length ∧ Q (.bl g.fresh) H
abbrev s_Page_fresh : Stmt := inClass (top 38) 1
theorem sc_Page_fresh : FnScope ["self"] ["self"] (defScope s_Page_fresh) := ⟨rfl, rfl, rfl, by decide +kernel, rfl, by decide +kernel, by decide +kernel⟩
theorem ok_Page_fresh (Z : TP K) (m_Page_line_start_at : KMet P w K mg base 1 (ga K "Page") "line_start_at" (spLineStart K)) {f : Addr} {fd : FuncData} (F : FunD K "fresh" "Page.fresh" (defArgs s_Page_fresh) (defBody s_Page_fresh) (defScope s_Page_fresh) [] [] f fd) : FnOk P w K mg base (CX P w) 2 f fd ["self"] (spFresh K) := by
  refine F.ok sc_Page_fresh (fun vs H Q E h => ?_) (fun cdv A outer s H vs Q E hr h => ?_)
  · obtain ⟨p, g, h, rfl, _⟩ := h
    rfl
  · obtain ⟨p, g, h, rfl, ⟨dx, hp⟩, hl, hc, k⟩ := h
    refine ⟨_, (pss_one (ps_ret (km m_Page_line_start_at hr (by decide) (pv 0) (pa_cons (pe_fld (pv 0) rfl) pa_nil)))), ?_⟩
    exact ⟨_, rfl, p, _, _, rfl, hp, nm_line_start_at, _, rfl, p, _, _, _, _, rfl, hp, Z.cl, Z.n_caret, lk_caret, p, g, h, g.c, rfl, ⟨dx, hp⟩, hl, hc, k⟩
def hV : Option (List Nat) → V
  | none => .non
  | some s => .str (S s)
def spHeld (K : PySem.W.Frag) : Sp := fun vs H Q _ => ∃ (p : Addr) (g : Pg) (h : Nat), vs = [.ref p] ∧ PageAt K H p g h ∧ g.t.length ≤ 50000 ∧ Q (hV g.held) H
abbrev s_Page_held : Stmt := inClass (top 38) 2
theorem sc_Page_held : FnScope ["self"] ["self"] (defScope s_Page_held) := ⟨rfl, rfl, rfl, by decide +kernel, rfl, by decide +kernel, by decide +kernel⟩
theorem ok_Page_held (Z : TP K) {f : Addr} {fd : FuncData} (F : FunD K "held" "Page.held" (defArgs s_Page_held) (defBody s_Page_held) (defScope s_Page_held) [] [] f fd) : FnOk P w K mg base (CX P w) 1 f fd ["self"] (spHeld K) := by
  refine F.ok sc_Page_held (fun vs H Q E h => ?_) (fun cdv A outer s H vs Q E hr h => ?_)
  · obtain ⟨p, g, h, rfl, _⟩ := h
    rfl
  · obtain ⟨p, g, h, rfl, ⟨dx, hp⟩, hl, k⟩ := h
    refine ⟨_, (pss_cons (ps_if (pt_cmpR op_isN (pe_fld (pv 0) rfl) pe_non (nomark _)) (pss_one (ps_ret pe_non)) pss_nil) (pss_one (ps_ret (pe_slice sl_S (pe_fld (pv 0) rfl) (po_some (pe_fld (pv 0) rfl)) (po_some (pe_fld (pv 0) rfl)))))), ?_⟩
    refine ⟨_, rfl, p, _, _, _, _, rfl, hp, Z.cl, Z.n_mark, lk_mark, rfl, _, rfl, ?_⟩
    cases hm : g.m with
    | none =>
      refine ift (by rfl) ?_
      unfold Pg.held at k
      rw [hm] at k
      exact k
    | some x =>
      refine iff' (by rfl) ?_
      unfold Pg.held at k
      rw [hm] at k
      unfold pgf at hp
      rw [hm] at hp
      refine ⟨_, rfl, p, _, _, _, _, rfl, hp, Z.cl, Z.n_text, lk_text, _, rfl, p, _, _, _, _, rfl, hp, Z.cl, Z.n_mark, lk_mark, (x : Nat), rfl, _, rfl, p, _, _, _, _, rfl, hp, Z.cl, Z.n_caret, lk_caret, _, rfl, _, rfl, by omega, Int.natCast_nonneg _, Int.natCast_nonneg _, ?_⟩
      rw [cutL_mid]
      exact k
def spSpot (K : PySem.W.Frag) : Sp := fun vs H Q _ => ∃ (p : Addr) (g : Pg) (h : Nat), vs = [.ref p] ∧ PageAt K H p g h ∧ Q (.int (g.c : Nat)) H
abbrev s_Page_spot : Stmt := inClass (top 38) 3
theorem sc_Page_spot : FnScope ["self"] ["self"] (defScope s_Page_spot) := ⟨rfl, rfl, rfl, by decide +kernel, rfl, by decide +kernel, by decide +kernel⟩
theorem ok_Page_spot (Z : TP K) {f : Addr} {fd : FuncData} (F : FunD K "spot" "Page.spot" (defArgs s_Page_spot) (defBody s_Page_spot) (defScope s_Page_spot) [] [] f fd) : FnOk P w K mg base (CX P w) 1 f fd ["self"] (spSpot K) := by
  refine F.ok sc_Page_spot (fun vs H Q E h => ?_) (fun cdv A outer s H vs Q E hr h => ?_)
  · obtain ⟨p, g, h, rfl, _⟩ := h
    rfl
  · obtain ⟨p, g, h, rfl, ⟨dx, hp⟩, k⟩ := h
    refine ⟨_, (pss_one (ps_ret (pe_fld (pv 0) rfl))), ?_⟩
    exact ⟨_, rfl, p, _, _, _, _, rfl, hp, Z.cl, Z.n_caret, lk_caret, k⟩
/-- a method that turns the page g into F g -/
def spTurn (K : PySem.W.Frag) (F : Nat → Pg → Pg) : Sp := fun vs H Q _ => ∃ (p : Addr) (g : Pg) (h : Nat), vs = [.ref p] ∧ PageAt K H p g h ∧ ∀ H', Kp [p] H H' → PageAt K H' p (F h g) h → Q .non H'
abbrev s_Page_advance_caret : Stmt := inClass (top 38) 10
theorem sc_Page_advance_caret : FnScope ["self"] ["self"] (defScope s_Page_advance_caret) := ⟨rfl, rfl, rfl, by decide +kernel, rfl, by decide +kernel, by decide +kernel⟩
theorem ok_Page_advance_caret (Z : TP K) {f : Addr} {fd : FuncData} (F : FunD K "advance_caret" "Page.advance_caret" (defArgs s_Page_advance_caret) (defBody s_Page_advance_caret) (defScope s_Page_advance_caret) [] [] f fd) : FnOk P w K mg base (CX P w) 1 f fd ["self"] (spTurn K Pg.adv) := by
  refine F.ok sc_Page_advance_caret (fun vs H Q E h => ?_) (fun cdv A outer s H vs Q E hr h => ?_)
  · obtain ⟨p, g, h, rfl, _⟩ := h
    rfl
  · obtain ⟨p, g, h, rfl, ⟨dx, hp⟩, k⟩ := h
    refine ⟨_, (pss_cons (ps_fldaug (pv 0) pe_int in_add) (pss_one (ps_if (PW.pt (pw_and (pt_cmpR op_notN (pe_fld (pv 0) rfl) pe_non (nomark _)) (pw_and1 (pt_cmpR op_gt (pe_op op_sub (pe_fld (pv 0) rfl) (pe_fld (pv 0) rfl)) (pe_fld (pv 0) rfl) (nomark _))))) (pss_one (ps_fld (pv 0) pe_non rfl)) pss_nil))), ?_⟩
    refine ⟨_, rfl, p, _, _, _, _, rfl, hp, Z.cl, Z.n_caret, lk_caret, _, _, rfl, rfl, dx, _, hp, ln_pg, ?_⟩
    rw [pt_caret]
    have hp1 : upd H p (.ins (ga K "Page") dx (pgR (.str (S g.t)) (.int ((g.c : Nat) + 1)) (mV g.m) (.str (S g.k)) (.int (g.r : Nat)) (.int (h : Nat)))) p = some (.ins (ga K "Page") dx (pgR (.str (S g.t)) (.int ((g.c : Nat) + 1)) (mV g.m) (.str (S g.k)) (.int (g.r : Nat)) (.int (h : Nat)))) := upd_same
    refine ⟨_, rfl, p, _, _, _, _, rfl, hp1, Z.cl, Z.n_mark, lk_mark, rfl, _, rfl, ?_⟩
    have kp1 : Kp [p] H (upd H p (.ins (ga K "Page") dx (pgR (.str (S g.t)) (.int ((g.c : Nat) + 1)) (mV g.m) (.str (S g.k)) (.int (g.r : Nat)) (.int (h : Nat))))) := Kp.refl.upd (by simp)
    cases hm : g.m with
    | none =>
      rw [hm] at hp1 kp1
      refine iff' (by rfl) ?_
      refine iff' rfl ?_
      refine k _ kp1 ⟨dx, ?_⟩
      rw [hp1]
      unfold Pg.adv pgf
      rw [hm]
      rfl
    | some x =>
      rw [hm] at hp1 kp1
      refine ift (by rfl) ?_
      refine ⟨_, rfl, p, _, _, _, _, rfl, hp1, Z.cl, Z.n_caret, lk_caret, _, rfl, p, _, _, _, _, rfl, hp1, Z.cl, Z.n_mark, lk_mark, _, (x : Nat), rfl, rfl, _, rfl, p, _, _, _, _, rfl, hp1, Z.cl, Z.n_hold, lk_hold, _, _, rfl, rfl, _, rfl, ?_⟩
      refine if2 (fun c => ?_) (fun c => ?_)
      · have hc : ((h : Nat) : Int) < ((g.c : Nat) : Int) + 1 - (x : Nat) := of_decide_eq_true c
        refine ⟨_, rfl, p, _, dx, _, rfl, hp1, Z.cl, Z.n_mark, ln_pg, ?_⟩
        rw [pt_mark]
        refine k _ (kp1.upd (by simp)) ⟨dx, ?_⟩
        rw [upd_same]
        unfold Pg.adv pgf
        rw [hm]
        have : x + h < g.c + 1 := by omega
        simp only [Option.bind_some, if_pos this]
        rfl
      · have hc : ¬ ((h : Nat) : Int) < ((g.c : Nat) : Int) + 1 - (x : Nat) := of_decide_eq_false c
        refine k _ kp1 ⟨dx, ?_⟩
        rw [hp1]
        unfold Pg.adv pgf
        rw [hm]
        have : ¬ x + h < g.c + 1 := by omega
        simp only [Option.bind_some, if_neg this]
        rfl
theorem max0 (r : Nat) : (if (((r : Nat) : Int) - 1) > 0 then (((r : Nat) : Int) - 1) else 0) = ((r - 1 : Nat) : Int) := by
  split <;> omega
abbrev s_Page_pass_sign : Stmt := inClass (top 38) 11
theorem sc_Page_pass_sign : FnScope ["self"] ["self"] (defScope s_Page_pass_sign) := ⟨rfl, rfl, rfl, by decide +kernel, rfl, by decide +kernel, by decide +kernel⟩
theorem ok_Page_pass_sign (T : TX K mg) (Z : TP K) (m_Page_advance_caret : KMet P w K mg base 1 (ga K "Page") "advance_caret" (spTurn K Pg.adv)) {f : Addr} {fd : FuncData} (F : FunD K "pass_sign" "Page.pass_sign" (defArgs s_Page_pass_sign) (defBody s_Page_pass_sign) (defScope s_Page_pass_sign) [] [] f fd) : FnOk P w K mg base (CX P w) 2 f fd ["self"] (spTurn K Pg.pass) := by
  refine F.ok sc_Page_pass_sign (fun vs H Q E h => ?_) (fun cdv A outer s H vs Q E hr h => ?_)
  · obtain ⟨p, g, h, rfl, _⟩ := h
    rfl
  · obtain ⟨p, g, h, rfl, ⟨dx, hp⟩, k⟩ := h
    refine ⟨_, (pss_cons (ps_fld (pv 0) (pe_callB (call_max2 rfl) (by rfl) T.b_max (by decide +kernel) (pa_cons pe_int (pa_cons (pe_op op_sub (pe_fld (pv 0) rfl) pe_int) pa_nil))) rfl) (pss_one (ps_expr (km0 m_Page_advance_caret hr (by decide) (pv 0))))), ?_⟩
    refine ⟨_, rfl, p, _, _, _, _, rfl, hp, Z.cl, Z.n_returned, lk_returned, _, _, rfl, rfl, _, _, rfl, _, rfl, p, _, dx, _, rfl, hp, Z.cl, Z.n_returned, ln_pg, ?_⟩
    rw [max0, pt_returned]
    refine ⟨_, rfl, p, dx, _, rfl, upd_same, nm_advance_caret, p, ⟨g.t, g.c, g.m, g.k, g.r - 1⟩, h, rfl, ⟨dx, upd_same⟩, fun H1 k1 P1 => ?_⟩
    exact k H1 ((Kp.refl.upd (by simp)).trans k1) P1
def spIns (K : PySem.W.Frag) : Sp := fun vs H Q _ => ∃ (p : Addr) (g : Pg) (h : Nat) (xs : List Nat), vs = [.ref p, .str (S xs)] ∧ PageAt K H p g h ∧ g.t.length + xs.length ≤ 50000 ∧ g.c ≤ g.t.length ∧ ∀ H', Kp [p] H H' → PageAt K H' p (g.inss h xs) h → Q .non H'
theorem inss_snoc (h : Nat) (g : Pg) (xs : List Nat) (x : Nat) : g.inss h (xs ++ [x]) = (g.inss h xs).ins h x := by
  unfold Pg.inss
  rw [List.foldl_append]
  rfl
theorem inss_len {h : Nat} : ∀ {xs : List Nat} {g : Pg}, g.c ≤ g.t.length → (g.inss h xs).t.length = g.t.length + xs.length ∧ (g.inss h xs).c = g.c + xs.length
  | [], g, _ => ⟨rfl, rfl⟩
  | x :: xs, g, hc => by
    have e1 : (g.ins h x).t.length = g.t.length + 1 := by simp [Pg.ins, Pg.adv]; omega
    have e2 : (g.ins h x).c = g.c + 1 := rfl
    obtain ⟨h1, h2⟩ := inss_len (h := h) (xs := xs) (g := g.ins h x) (by omega)
    have e3 : g.inss h (x :: xs) = (g.ins h x).inss h xs := rfl
    rw [e3, h1, h2]
    simp
    omega
theorem take_sn {α : Type} {l : List α} {i : Nat} {x : α} (h : l[i]? = some x) : l.take (i + 1) = l.take i ++ [x] := by
  rw [List.take_add_one, h]
  rfl
abbrev s_Page_insert : Stmt := inClass (top 38) 12
theorem sc_Page_insert : FnScope ["self", "signs", "sign"] ["self", "signs"] (defScope s_Page_insert) := ⟨rfl, rfl, rfl, by decide +kernel, rfl, by decide +kernel, by decide +kernel⟩
theorem ok_Page_insert (Z : TP K) (m_Page_advance_caret : KMet P w K mg base 1 (ga K "Page") "advance_caret" (spTurn K Pg.adv)) {f : Addr} {fd : FuncData} (F : FunD K "insert" "Page.insert" (defArgs s_Page_insert) (defBody s_Page_insert) (defScope s_Page_insert) [] [] f fd) : FnOk P w K mg base (CX P w) 2 f fd ["self", "signs"] (spIns K) := by
  refine F.ok sc_Page_insert (fun vs H Q E h => ?_) (fun cdv A outer s H vs Q E hr h => ?_)
  · obtain ⟨p, g, h, xs, rfl, _⟩ := h
    rfl
  · obtain ⟨p, g, h, xs, rfl, P0, hl, hc, k⟩ := h
    refine ⟨_, (pss_one (ps_for (passes_of rfl) rfl (pi_str (pv 1)) (pg_name (i := 2) sc_Page_insert.nd rfl (Or.inl rfl)) (pss_cons (ps_fld (pv 0) (pe_op op_addS (pe_op op_addS (pe_slice sl_S (pe_fld (pv 0) rfl) po_none (po_some (pe_fld (pv 0) rfl))) (pv 2)) (pe_slice sl_S (pe_fld (pv 0) rfl) (po_some (pe_fld (pv 0) rfl)) po_none)) rfl) (pss_one (ps_expr (km0 m_Page_advance_caret hr (by decide) (pv 0))))))), ?_⟩
    refine ⟨_, rfl, _, rfl, for_it walk_str (fun i σ H' => ∃ u, σ = [some (.ref p), some (.str (S xs)), u] ∧ Kp [p] H H' ∧ PageAt K H' p (g.inss h (xs.take i)) h) ?_ (fun _ _ _ _ _ => trivial) ?_ ?_⟩
    · exact ⟨none, rfl, Kp.refl, P0⟩
    · rintro i x σ H1 H2 hi ⟨u, rfl, k1, ⟨dx, hp⟩⟩ ⟨rfl, c, hc1, rfl⟩
      have hx : xs[i]? = some c := by simpa [S] using hc1
      have hil := (List.getElem?_eq_some_iff.mp hx).1
      obtain ⟨l1, l2⟩ := inss_len (h := h) (xs := xs.take i) hc
      have tl : (xs.take i).length = i := by simp; omega
      generalize hg : g.inss h (xs.take i) = g1 at hp l1 l2
      refine ⟨_, rfl, p, _, _, _, _, rfl, hp, Z.cl, Z.n_text, lk_text, _, rfl, p, _, _, _, _, rfl, hp, Z.cl, Z.n_caret, lk_caret, _, rfl, _, rfl, by omega, trivial, Int.natCast_nonneg _, _, rfl, ?_⟩
      rw [cutL_to]
      refine ⟨_, _, rfl, rfl, by simp; omega, _, rfl, p, _, _, _, _, rfl, hp, Z.cl, Z.n_text, lk_text, _, rfl, p, _, _, _, _, rfl, hp, Z.cl, Z.n_caret, lk_caret, _, rfl, _, rfl, by omega, Int.natCast_nonneg _, trivial, ?_⟩
      rw [cutL_from]
      refine ⟨_, _, rfl, rfl, by simp; omega, _, rfl, p, _, dx, _, rfl, hp, Z.cl, Z.n_text, ln_pg, ?_⟩
      rw [pt_text]
      refine ⟨_, rfl, p, dx, _, rfl, upd_same, nm_advance_caret, p, ⟨g1.t.take g1.c ++ c :: g1.t.drop g1.c, g1.c, g1.m, g1.k, g1.r⟩, h, rfl, ⟨dx, ?_⟩, fun H2 k2 P2 => ?_⟩
      · rw [upd_same, List.append_assoc]; rfl
      · refine ⟨_, rfl, k1.trans ((Kp.refl.upd (by simp)).trans k2), ?_⟩
        rw [take_sn hx, inss_snoc, hg]
        exact P2
    · rintro σ H1 ⟨u, rfl, k1, P1⟩
      refine k H1 k1 ?_
      have e : xs.take (S xs).cps.size = xs := by simp [S]
      rw [e] at P1
      exact P1
/-- a method that answers and turns the page, key its first argument -/
def spKey (K : PySem.W.Frag) (ks : List Nat) (F : Nat → Nat → Pg → Bool × Pg) : Sp := fun vs H Q _ => ∃ (p : Addr) (g : Pg) (h key : Nat), vs = [.ref p, .str (S [key])] ∧ key ∈ ks ∧ PageAt K H p g h ∧ PgOk h g ∧ g.t.length ≤ 40000 ∧ ∀ H', Kp [p] H H' → PageAt K H' p (F h key g).2 h → Q (.bl (F h key g).1) H'
abbrev s_Page_take_one : Stmt := inClass (top 38) 15
theorem sc_Page_take_one : FnScope ["self", "key"] ["self", "key"] (defScope s_Page_take_one) := ⟨rfl, rfl, rfl, by decide +kernel, rfl, by decide +kernel, by decide +kernel⟩
theorem ok_Page_take_one (T : TX K mg) (Z : TP K) (m_Page_ahead : KMet P w K mg base 1 (ga K "Page") "ahead" (spAhead K)) (m_Page_pass_sign : KMet P w K mg base 2 (ga K "Page") "pass_sign" (spTurn K Pg.pass)) {f : Addr} {fd : FuncData} (F : FunD K "take_one" "Page.take_one" (defArgs s_Page_take_one) (defBody s_Page_take_one) (defScope s_Page_take_one) [] [] f fd) : FnOk P w K mg base (CX P w) 3 f fd ["self", "key"] (spKey K [62, 120] Pg.takeOne) := by
  refine F.ok sc_Page_take_one (fun vs H Q E h => ?_) (fun cdv A outer s H vs Q E hr h => ?_)
  · obtain ⟨p, g, h, key, rfl, _⟩ := h
    rfl
  · obtain ⟨p, g, h, key, rfl, hkey, ⟨dx, hp⟩, o, hl, k⟩ := h
    refine ⟨_, (pss_cons (ps_if (pt_cmpR op_eqS (km0 m_Page_ahead hr (by decide) (pv 0)) (pe_strS [] (by decide +kernel)) (nomark _)) (pss_one (ps_ret pe_bl)) pss_nil) (C8.pss_cut (ps_if (pt_cmpR op_eqS (pv 1) (pe_strS [62] (by decide +kernel)) (nomark _)) (pss_one (ps_expr (km0 m_Page_pass_sign hr (by decide) (pv 0)))) (pss_cons (ps_fld (pv 0) (pe_callB (call_max2 rfl) (by rfl) T.b_max (by decide +kernel) (pa_cons pe_int (pa_cons (pe_op op_sub (pe_fld (pv 0) rfl) pe_int) pa_nil))) rfl) (pss_one (ps_fld (pv 0) (pe_op op_addS (pe_slice sl_S (pe_fld (pv 0) rfl) po_none (po_some (pe_fld (pv 0) rfl))) (pe_slice sl_S (pe_fld (pv 0) rfl) (po_some (pe_op op_add (pe_fld (pv 0) rfl) pe_int)) po_none)) rfl)))) (pss_one (ps_ret pe_bl)))), ?_⟩
    refine ⟨_, rfl, p, _, _, rfl, hp, nm_ahead, p, g, h, rfl, ⟨dx, hp⟩, by omega, _, _, rfl, rfl, _, rfl, ?_⟩
    unfold Pg.takeOne at k
    refine if2 (fun c => ?_) (fun c => ?_)
    · have hc : g.ahead = [] := of_decide_eq_true c
      rw [if_pos hc] at k
      exact k H Kp.refl ⟨dx, hp⟩
    · have hc : ¬ g.ahead = [] := of_decide_eq_false c
      rw [if_neg hc] at k
      refine ⟨fun σ' H' => Q (.bl true) H', ?_, fun σ' H' z => z⟩
      refine ⟨_, rfl, _, _, rfl, rfl, _, rfl, ?_⟩
      refine if2 (fun c => ?_) (fun c => ?_)
      · have hc2 : key = 62 := by
          have : [key] = [62] := of_decide_eq_true c
          simpa using this
        rw [if_pos hc2] at k
        exact ⟨_, rfl, p, _, _, rfl, hp, nm_pass_sign, p, g, h, rfl, ⟨dx, hp⟩, fun H1 k1 P1 => k H1 k1 P1⟩
      · have hc2 : ¬ key = 62 := by
          have : ¬ [key] = [62] := of_decide_eq_false c
          simpa using this
        rw [if_neg hc2] at k
        refine ⟨_, rfl, p, _, _, _, _, rfl, hp, Z.cl, Z.n_returned, lk_returned, _, _, rfl, rfl, _, _, rfl, _, rfl, p, _, dx, _, rfl, hp, Z.cl, Z.n_returned, ln_pg, ?_⟩
        rw [max0, pt_returned]
        have hp1 : upd H p (.ins (ga K "Page") dx (pgR (.str (S g.t)) (.int (g.c : Nat)) (mV g.m) (.str (S g.k)) (.int (g.r - 1 : Nat)) (.int (h : Nat)))) p = some (.ins (ga K "Page") dx (pgR (.str (S g.t)) (.int (g.c : Nat)) (mV g.m) (.str (S g.k)) (.int (g.r - 1 : Nat)) (.int (h : Nat)))) := upd_same
        refine ⟨_, rfl, p, _, _, _, _, rfl, hp1, Z.cl, Z.n_text, lk_text, _, rfl, p, _, _, _, _, rfl, hp1, Z.cl, Z.n_caret, lk_caret, _, rfl, _, rfl, by omega, trivial, Int.natCast_nonneg _, ?_⟩
        rw [cutL_to]
        refine ⟨_, rfl, p, _, _, _, _, rfl, hp1, Z.cl, Z.n_text, lk_text, _, rfl, p, _, _, _, _, rfl, hp1, Z.cl, Z.n_caret, lk_caret, _, _, rfl, rfl, _, rfl, _, rfl, by omega, (by show (0 : Int) ≤ _; omega), trivial, ?_⟩
        have e : ((g.c : Nat) : Int) + 1 = ((g.c + 1 : Nat) : Int) := by omega
        rw [e, cutL_from]
        refine ⟨_, _, rfl, rfl, by simp; omega, _, rfl, p, _, dx, _, rfl, hp1, Z.cl, Z.n_text, ln_pg, ?_⟩
        rw [pt_text]
        exact k _ ((Kp.refl.upd (by simp)).upd (by simp)) ⟨dx, upd_same⟩
abbrev s_Page_use_mark : Stmt := inClass (top 38) 17
theorem sc_Page_use_mark : FnScope ["self", "key", "signs"] ["self", "key"] (defScope s_Page_use_mark) := ⟨rfl, rfl, rfl, by decide +kernel, rfl, by decide +kernel, by decide +kernel⟩
theorem ok_Page_use_mark (T : TX K mg) (Z : TP K) (p_Page_held : KPrp P w K mg base 1 (ga K "Page") "held" (spHeld K)) {f : Addr} {fd : FuncData} (F : FunD K "use_mark" "Page.use_mark" (defArgs s_Page_use_mark) (defBody s_Page_use_mark) (defScope s_Page_use_mark) [] [] f fd) : FnOk P w K mg base (CX P w) 3 f fd ["self", "key"] (spKey K [98, 107, 99] Pg.useMark) := by
  refine F.ok sc_Page_use_mark (fun vs H Q E h => ?_) (fun cdv A outer s H vs Q E hr h => ?_)
  · obtain ⟨p, g, h, key, rfl, _⟩ := h
    rfl
  · obtain ⟨p, g, h, key, rfl, hkey, ⟨dx, hp⟩, o, hl, k⟩ := h
    refine ⟨_, (pss_cons (ps_if (pt_cmpR op_isN (pe_fld (pv 0) rfl) pe_non (nomark _)) (pss_one (ps_ret pe_bl)) pss_nil) (pss_cons (ps_set (i := 2) sc_Page_use_mark.nd rfl (Or.inl rfl) (kprop p_Page_held hr (by decide) (pv 0))) (pss_cons (ps_if (pt_cmpR op_eqS (pv 1) (pe_strS [98] (by decide +kernel)) (nomark _)) (pss_cons (ps_if (pt_cmpR op_gt (pe_op op_add (pe_callB call_lenS (by rfl) T.b_len PySem.boot_len (pa_cons (pv 2) pa_nil)) (pe_fld (pv 0) rfl)) (pe_fld (pv 0) rfl) (nomark _)) (pss_one (ps_ret pe_bl)) pss_nil) (pss_cons (ps_fldaug (pv 0) (pe_callB call_lenS (by rfl) T.b_len PySem.boot_len (pa_cons (pv 2) pa_nil)) in_add) (pss_cons (ps_fld (pv 0) (pe_fld (pv 0) rfl) rfl) (pss_one (ps_ret pe_bl))))) pss_nil) (pss_cons (ps_fld (pv 0) (pv 2) rfl) (C8.pss_cut (ps_if (pt_cmpR op_eqS (pv 1) (pe_strS [99] (by decide +kernel)) (nomark _)) (pss_cons (ps_fld (pv 0) (pe_op op_addS (pe_slice sl_S (pe_fld (pv 0) rfl) po_none (po_some (pe_fld (pv 0) rfl))) (pe_slice sl_S (pe_fld (pv 0) rfl) (po_some (pe_fld (pv 0) rfl)) po_none)) rfl) (pss_one (ps_fld (pv 0) (pe_fld (pv 0) rfl) rfl))) pss_nil) (pss_one (ps_ret pe_bl))))))), ?_⟩
    refine ⟨_, rfl, p, _, _, _, _, rfl, hp, Z.cl, Z.n_mark, lk_mark, rfl, _, rfl, ?_⟩
    unfold Pg.useMark at k
    have hc := o.c
    have hk := o.k
    cases hm : g.m with
    | none =>
      rw [hm] at k
      refine ift (by rfl) ?_
      exact k H Kp.refl ⟨dx, hp⟩
    | some x =>
      have hmx := o.m x hm
      rw [hm] at k
      simp only at k
      refine iff' (by rfl) ?_
      refine ⟨_, rfl, p, dx, _, rfl, hp, p, g, h, rfl, ⟨dx, hp⟩, by omega, ?_⟩
      have eh : hV g.held = .str (S ((g.t.take g.c).drop x)) := by
        unfold Pg.held
        rw [hm]
        rfl
      have el : ((g.t.take g.c).drop x).length = g.c - x := by simp; omega
      rw [eh]
      unfold pgf at hp
      rw [hm] at hp
      refine ⟨_, rfl, _, _, rfl, rfl, _, rfl, ?_⟩
      refine if2 (fun c => ?_) (fun c => ?_)
      · have hc1 : key = 98 := by
          have : [key] = [98] := of_decide_eq_true c
          simpa using this
        rw [if_pos hc1] at k
        refine ⟨_, rfl, _, rfl, by omega, _, rfl, p, _, _, _, _, rfl, hp, Z.cl, Z.n_returned, lk_returned, _, _, rfl, rfl, _, rfl, p, _, _, _, _, rfl, hp, Z.cl, Z.n_hold, lk_hold, _, _, rfl, rfl, _, rfl, ?_⟩
        refine if2 (fun c => ?_) (fun c => ?_)
        · have hc2 := of_decide_eq_true c
          have hc3 : g.c - x + g.r > h := by omega
          rw [if_pos hc3] at k
          refine k H Kp.refl ⟨dx, ?_⟩
          unfold pgf
          rw [hm]
          exact hp
        · have hc2 := of_decide_eq_false c
          have hc3 : ¬ (g.c - x + g.r > h) := by omega
          rw [if_neg hc3] at k
          refine ⟨_, rfl, p, _, _, _, _, rfl, hp, Z.cl, Z.n_returned, lk_returned, _, rfl, _, rfl, by omega, _, _, rfl, rfl, dx, _, hp, ln_pg, ?_⟩
          rw [pt_returned]
          refine ⟨_, rfl, p, _, _, _, _, rfl, upd_same, Z.cl, Z.n_mark, lk_mark, _, rfl, p, _, dx, _, rfl, upd_same, Z.cl, Z.n_caret, ln_pg, ?_⟩
          rw [pt_caret]
          refine k _ ((Kp.refl.upd (by simp)).upd (by simp)) ⟨dx, ?_⟩
          rw [upd_same, el]
          rfl
      · have hc1 : ¬ key = 98 := by
          have : ¬ [key] = [98] := of_decide_eq_false c
          simpa using this
        rw [if_neg hc1] at k
        refine ⟨_, rfl, _, rfl, p, _, dx, _, rfl, hp, Z.cl, Z.n_kept, ln_pg, ?_⟩
        rw [pt_kept]
        have hp1 : upd H p (.ins (ga K "Page") dx (pgR (.str (S g.t)) (.int (g.c : Nat)) (mV (some x)) (.str (S ((g.t.take g.c).drop x))) (.int (g.r : Nat)) (.int (h : Nat)))) p = some (.ins (ga K "Page") dx (pgR (.str (S g.t)) (.int (g.c : Nat)) (mV (some x)) (.str (S ((g.t.take g.c).drop x))) (.int (g.r : Nat)) (.int (h : Nat)))) := upd_same
        have kp1 : Kp [p] H (upd H p (.ins (ga K "Page") dx (pgR (.str (S g.t)) (.int (g.c : Nat)) (mV (some x)) (.str (S ((g.t.take g.c).drop x))) (.int (g.r : Nat)) (.int (h : Nat))))) := Kp.refl.upd (by simp)
        refine ⟨fun σ' H' => Q (.bl true) H', ?_, fun σ' H' z => z⟩
        refine ⟨_, rfl, _, _, rfl, rfl, _, rfl, ?_⟩
        refine if2 (fun c => ?_) (fun c => ?_)
        · have hc2 : key = 99 := by
            have : [key] = [99] := of_decide_eq_true c
            simpa using this
          rw [if_pos hc2] at k
          refine ⟨_, rfl, p, _, _, _, _, rfl, hp1, Z.cl, Z.n_text, lk_text, _, rfl, p, _, _, _, _, rfl, hp1, Z.cl, Z.n_mark, lk_mark, (x : Nat), rfl, _, rfl, by omega, trivial, Int.natCast_nonneg _, ?_⟩
          rw [cutL_to]
          refine ⟨_, rfl, p, _, _, _, _, rfl, hp1, Z.cl, Z.n_text, lk_text, _, rfl, p, _, _, _, _, rfl, hp1, Z.cl, Z.n_caret, lk_caret, _, rfl, _, rfl, by omega, Int.natCast_nonneg _, trivial, ?_⟩
          rw [cutL_from]
          refine ⟨_, _, rfl, rfl, by simp; omega, _, rfl, p, _, dx, _, rfl, hp1, Z.cl, Z.n_text, ln_pg, ?_⟩
          rw [pt_text]
          refine ⟨_, rfl, p, _, _, _, _, rfl, upd_same, Z.cl, Z.n_mark, lk_mark, _, rfl, p, _, dx, _, rfl, upd_same, Z.cl, Z.n_caret, ln_pg, ?_⟩
          rw [pt_caret]
          exact k _ ((kp1.upd (by simp)).upd (by simp)) ⟨dx, upd_same⟩
        · have hc2 : ¬ key = 99 := by
            have : ¬ [key] = [99] := of_decide_eq_false c
            simpa using this
          rw [if_neg hc2] at k
          exact k _ kp1 ⟨dx, hp1⟩
def spKeyS (K : PySem.W.Frag) : Sp := fun vs H Q _ => ∃ (p : Addr) (g : Pg) (h key : Nat) (s : List Nat), vs = [.ref p, .str (S [key]), .str (S s)] ∧ key ∈ [47, 119, 110, 36] ∧ PageAt K H p g h ∧ PgOk h g ∧ g.t.length ≤ 40000 ∧ ∀ H', Kp [p] H H' → PageAt K H' p (g.travel h key s (g.t.length + 1)).2 h → Q (.bl (g.travel h key s (g.t.length + 1)).1) H'
theorem ahead_nil {g : Pg} : g.ahead = [] ↔ g.t[g.c]? = none := by
  unfold Pg.ahead
  cases e : g.t[g.c]? with
  | none =>
    have := List.getElem?_eq_none_iff.mp e
    rw [List.drop_of_length_le this]
    simp
  | some a =>
    obtain ⟨hi, e⟩ := List.getElem?_eq_some_iff.mp e
    rw [List.drop_eq_getElem_cons hi]
    simp [hi]
theorem ahead_some {g : Pg} {a : Nat} (h : g.t[g.c]? = some a) : g.ahead = [a] := by
  obtain ⟨hi, e⟩ := List.getElem?_eq_some_iff.mp h
  unfold Pg.ahead
  rw [List.drop_eq_getElem_cons hi, e]
  rfl
theorem travel_none {h key : Nat} {s : List Nat} {g : Pg} {n : Nat} (e : g.t[g.c]? = none) : g.travel h key s n = (decide (key ∈ [119, 36]), g) := by
  cases n with
  | zero => rfl
  | succ n =>
    unfold Pg.travel
    rw [e]
theorem travel_stop {h key : Nat} {s : List Nat} {g : Pg} {n a : Nat} (e : g.t[g.c]? = some a) (hs : Pg.stops key s a = true) : g.travel h key s (n + 1) = (true, g) := by
  unfold Pg.travel
  rw [e]
  simp only [hs, if_true]
theorem travel_pass {h key : Nat} {s : List Nat} {g : Pg} {n a : Nat} (e : g.t[g.c]? = some a) (hs : Pg.stops key s a = false) : g.travel h key s (n + 1) = (g.pass h).travel h key s n := by
  conv => lhs; unfold Pg.travel
  rw [e]
  simp only [hs]
  rfl
abbrev s_Page_travel : Stmt := inClass (top 38) 16
theorem sc_Page_travel : FnScope ["self", "key", "sign", "ahead"] ["self", "key", "sign"] (defScope s_Page_travel) := ⟨rfl, rfl, rfl, by decide +kernel, rfl, by decide +kernel, by decide +kernel⟩
theorem ok_Page_travel (T : TX K mg) (Z : TP K) (c_is_word_sign : KCal P w K mg base 1 "is_word_sign" spIsWord []) (m_Page_ahead : KMet P w K mg base 1 (ga K "Page") "ahead" (spAhead K)) (m_Page_pass_sign : KMet P w K mg base 2 (ga K "Page") "pass_sign" (spTurn K Pg.pass)) {f : Addr} {fd : FuncData} (F : FunD K "travel" "Page.travel" (defArgs s_Page_travel) (defBody s_Page_travel) (defScope s_Page_travel) [] [] f fd) : FnOk P w K mg base (CX P w) 3 f fd ["self", "key", "sign"] (spKeyS K) := by
  refine F.ok sc_Page_travel (fun vs H Q E h => ?_) (fun cdv A outer s H vs Q E hr h => ?_)
  · obtain ⟨p, g, h, key, s, rfl, _⟩ := h
    rfl
  · obtain ⟨p, g, h, key, sg, rfl, hkey, P0, o, hl, k⟩ := h
    refine ⟨_, (pss_cons (ps_while (passes_of rfl) (pt_cmpR op_neS (km0 m_Page_ahead hr (by decide) (pv 0)) (pe_strS [] (by decide +kernel)) (nomark _)) (pss_cons (ps_set (i := 3) sc_Page_travel.nd rfl (Or.inl rfl) (km0 m_Page_ahead hr (by decide) (pv 0))) (pss_cons (ps_if (PW.pt (pw_or (PW.pt (pw_and (pt_cmpR op_eqS (pv 1) (pe_strS [47] (by decide +kernel)) (nomark _)) (pw_and1 (pt_cmpR op_eqS (pv 3) (pv 2) (nomark _))))) (pw_or1 (PW.pt (pw_and (pt_cmpR op_eqS (pv 1) (pe_strS [36] (by decide +kernel)) (nomark _)) (pw_and1 (pt_cmpR op_eqS (pv 3) (pe_strS [10] (by decide +kernel)) (nomark _)))))))) (pss_one (ps_ret pe_bl)) pss_nil) (pss_cons (ps_if (PW.pt (pw_or (PW.pt (pw_and (pt_cmpR op_eqS (pv 1) (pe_strS [119] (by decide +kernel)) (nomark _)) (pw_and1 (pt_not (pt_val (kc c_is_word_sign hr (by decide) rfl (pa_cons (pv 3) pa_nil))))))) (pw_or1 (PW.pt (pw_and (pt_cmpR op_eqS (pv 1) (pe_strS [110] (by decide +kernel)) (nomark _)) (pw_and1 (pt_val (kc c_is_word_sign hr (by decide) rfl (pa_cons (pv 3) pa_nil))))))))) (pss_one (ps_ret pe_bl)) pss_nil) (pss_one (ps_expr (km0 m_Page_pass_sign hr (by decide) (pv 0)))))))) (pss_one (ps_ret (pe_cmpR op_inS (pv 1) (pe_strS [119, 36] (by decide +kernel)) rfl)))), ?_⟩
    refine ⟨fun m σ' H' => ∃ (u : Option V) (g1 : Pg) (n : Nat), σ' = [some (.ref p), some (.str (S [key])), some (.str (S sg)), u] ∧ Kp [p] H H' ∧ PageAt K H' p g1 h ∧ PgOk h g1 ∧ g1.t = g.t ∧ m = g.t.length - g1.c ∧ g.t.length - g1.c < n ∧ g1.travel h key sg n = g.travel h key sg (g.t.length + 1), ⟨_, none, g, g.t.length + 1, rfl, Kp.refl, P0, o, rfl, rfl, by omega, rfl⟩, ?_⟩
    rintro m σ' H1 ⟨u, g1, n, rfl, k1, ⟨dx, hp⟩, o1, et, em, hn, er⟩
    have hl1 : g1.t.length ≤ 40000 := by rw [et]; exact hl
    have hc1 := o1.c
    refine ⟨_, rfl, p, _, _, rfl, hp, nm_ahead, p, g1, h, rfl, ⟨dx, hp⟩, by omega, _, _, rfl, rfl, _, rfl, ?_⟩
    cases ea : g1.t[g1.c]? with
    | none =>
      have e0 := ahead_nil.mpr ea
      refine iff' (by simp [e0]) ?_
      refine ⟨_, rfl, _, _, rfl, rfl, ?_⟩
      rw [travel_none ea] at er
      have k' := k H1 k1
      rw [← er] at k'
      exact k' ⟨dx, hp⟩
    | some a =>
      have e0 := ahead_some ea
      have ha := (List.getElem?_eq_some_iff.mp ea).1
      refine ift (by simp [e0]) ?_
      refine ⟨fun σ' H' => ∃ (u : Option V) (g1 : Pg) (n : Nat), σ' = [some (.ref p), some (.str (S [key])), some (.str (S sg)), u] ∧ Kp [p] H H' ∧ PageAt K H' p g1 h ∧ PgOk h g1 ∧ g1.t = g.t ∧ g.t.length - g1.c < m ∧ g.t.length - g1.c < n ∧ g1.travel h key sg n = g.travel h key sg (g.t.length + 1), ?_, ?_⟩
      · rintro σ' H' ⟨u, g2, n2, e1, e2, e3, e4, e5, e6, e7, e8⟩
        exact ⟨_, e6, u, g2, n2, e1, e2, e3, e4, e5, rfl, e7, e8⟩
      refine ⟨_, rfl, p, _, _, rfl, hp, nm_ahead, p, g1, h, rfl, ⟨dx, hp⟩, by omega, ?_⟩
      rw [e0]
      obtain ⟨n, rfl⟩ : ∃ n', n = n' + 1 := ⟨n - 1, by omega⟩
      have stop : Pg.stops key sg a = true → Q (.bl true) H1 := fun hs => by
        rw [travel_stop ea hs] at er
        have k' := k H1 k1
        rw [← er] at k'
        exact k' ⟨dx, hp⟩
      have go : Pg.stops key sg a = false → ∀ H2, Kp [p] H1 H2 → PageAt K H2 p (g1.pass h) h → ∃ (u : Option V) (g3 : Pg) (n : Nat), [some (V.ref p), some (.str (S [key])), some (.str (S sg)), some (.str (S [a]))] = [some (.ref p), some (.str (S [key])), some (.str (S sg)), u] ∧ Kp [p] H H2 ∧ PageAt K H2 p g3 h ∧ PgOk h g3 ∧ g3.t = g.t ∧ g.t.length - g3.c < m ∧ g.t.length - g3.c < n ∧ g3.travel h key sg n = g.travel h key sg (g.t.length + 1) := fun hs H2 k2 P2 => by
        rw [travel_pass ea hs] at er
        have ec : (g1.pass h).c = g1.c + 1 := rfl
        rw [et] at ha
        exact ⟨_, _, n, rfl, k1.trans k2, P2, pass_ok o1 (by rw [et]; exact ha), et, by omega, by omega, er⟩
      simp only [List.mem_cons, List.not_mem_nil, or_false] at hkey
      rcases hkey with rfl | rfl | rfl | rfl
      · -- seek
        refine ⟨_, rfl, _, _, rfl, rfl, _, rfl, ?_⟩
        refine ift (by rfl) ?_
        refine ⟨_, rfl, _, rfl, _, _, rfl, rfl, _, rfl, ?_⟩
        refine if2 (fun c => ?_) (fun c => ?_)
        · refine ift rfl ?_
          exact stop c
        · refine ⟨_, rfl, _, _, rfl, rfl, _, rfl, ?_⟩
          refine iff' (by rfl) ?_
          refine iff' rfl ?_
          refine ⟨_, rfl, _, _, rfl, rfl, _, rfl, ?_⟩
          refine iff' (by rfl) ?_
          refine iff' rfl ?_
          refine ⟨_, rfl, _, _, rfl, rfl, _, rfl, ?_⟩
          refine iff' (by rfl) ?_
          refine iff' rfl ?_
          exact ⟨_, rfl, p, _, _, rfl, hp, nm_pass_sign, p, g1, h, rfl, ⟨dx, hp⟩, fun H2 k2 P2 => go c H2 k2 P2⟩
      · -- word
        refine ⟨_, rfl, _, _, rfl, rfl, _, rfl, ?_⟩
        refine iff' (by rfl) ?_
        refine iff' rfl ?_
        refine ⟨_, rfl, _, _, rfl, rfl, _, rfl, ?_⟩
        refine iff' (by rfl) ?_
        refine iff' rfl ?_
        refine ⟨_, rfl, _, _, rfl, rfl, _, rfl, ?_⟩
        refine ift (by rfl) ?_
        refine ⟨_, rfl, a, rfl, _, rfl, ?_⟩
        refine if2 (fun c => ?_) (fun c => ?_)
        · refine ift rfl ?_
          refine stop ?_
          have c' : decide (a ∈ wsg) = false := by simpa using c
          simp [Pg.stops, c']
        · have c' : decide (a ∈ wsg) = true := by simpa using c
          refine ⟨_, rfl, _, _, rfl, rfl, _, rfl, ?_⟩
          refine iff' (by rfl) ?_
          refine iff' rfl ?_
          exact ⟨_, rfl, p, _, _, rfl, hp, nm_pass_sign, p, g1, h, rfl, ⟨dx, hp⟩, fun H2 k2 P2 => go (by simp [Pg.stops, c']) H2 k2 P2⟩
      · -- next word
        refine ⟨_, rfl, _, _, rfl, rfl, _, rfl, ?_⟩
        refine iff' (by rfl) ?_
        refine iff' rfl ?_
        refine ⟨_, rfl, _, _, rfl, rfl, _, rfl, ?_⟩
        refine iff' (by rfl) ?_
        refine iff' rfl ?_
        refine ⟨_, rfl, _, _, rfl, rfl, _, rfl, ?_⟩
        refine iff' (by rfl) ?_
        refine iff' rfl ?_
        refine ⟨_, rfl, _, _, rfl, rfl, _, rfl, ?_⟩
        refine ift (by rfl) ?_
        refine ⟨_, rfl, a, rfl, _, rfl, ?_⟩
        refine if2 (fun c => ?_) (fun c => ?_)
        · refine stop ?_
          have c' : decide (a ∈ wsg) = true := c
          simp [Pg.stops, c']
        · have c' : decide (a ∈ wsg) = false := c
          exact ⟨_, rfl, p, _, _, rfl, hp, nm_pass_sign, p, g1, h, rfl, ⟨dx, hp⟩, fun H2 k2 P2 => go (by simp [Pg.stops, c']) H2 k2 P2⟩
      · -- line end
        refine ⟨_, rfl, _, _, rfl, rfl, _, rfl, ?_⟩
        refine iff' (by rfl) ?_
        refine iff' rfl ?_
        refine ⟨_, rfl, _, _, rfl, rfl, _, rfl, ?_⟩
        refine ift (by rfl) ?_
        refine ⟨_, rfl, _, _, rfl, rfl, _, rfl, ?_⟩
        refine if2 (fun c => ?_) (fun c => ?_)
        · refine stop ?_
          have c' : [a] = [10] := of_decide_eq_true c
          simp at c'
          simp [Pg.stops, c']
        · have c' : ¬ [a] = [10] := of_decide_eq_false c
          simp at c'
          refine ⟨_, rfl, _, _, rfl, rfl, _, rfl, ?_⟩
          refine iff' (by rfl) ?_
          refine iff' rfl ?_
          refine ⟨_, rfl, _, _, rfl, rfl, _, rfl, ?_⟩
          refine iff' (by rfl) ?_
          refine iff' rfl ?_
          exact ⟨_, rfl, p, _, _, rfl, hp, nm_pass_sign, p, g1, h, rfl, ⟨dx, hp⟩, fun H2 k2 P2 => go (by simp [Pg.stops, c']) H2 k2 P2⟩
def spAct (K : PySem.W.Frag) : Sp := fun vs H Q _ => ∃ (p : Addr) (g : Pg) (h key : Nat) (s : List Nat), vs = [.ref p, .str (S [key]), .str (S s)] ∧ vk key s ∧ PageAt K H p g h ∧ PgOk h g ∧ g.t.length ≤ 40000 ∧ ∀ H', Kp [p] H H' → PageAt K H' p (g.act h key s).2 h → Q (.bl (g.act h key s).1) H'
abbrev s_Page_act : Stmt := inClass (top 38) 14
theorem sc_Page_act : FnScope ["self", "key", "sign", "signs"] ["self", "key", "sign"] (defScope s_Page_act) := ⟨rfl, rfl, rfl, by decide +kernel, rfl, by decide +kernel, by decide +kernel⟩
theorem ok_Page_act (T : TX K mg) (Z : TP K) (m_Page_ahead : KMet P w K mg base 1 (ga K "Page") "ahead" (spAhead K)) (p_Page_fresh : KPrp P w K mg base 2 (ga K "Page") "fresh" (spFresh K)) (m_Page_insert : KMet P w K mg base 2 (ga K "Page") "insert" (spIns K)) (m_Page_take_one : KMet P w K mg base 3 (ga K "Page") "take_one" (spKey K [62, 120] Pg.takeOne)) (m_Page_use_mark : KMet P w K mg base 3 (ga K "Page") "use_mark" (spKey K [98, 107, 99] Pg.useMark)) (m_Page_travel : KMet P w K mg base 3 (ga K "Page") "travel" (spKeyS K)) {f : Addr} {fd : FuncData} (F : FunD K "act" "Page.act" (defArgs s_Page_act) (defBody s_Page_act) (defScope s_Page_act) [] [] f fd) : FnOk P w K mg base (CX P w) 5 f fd ["self", "key", "sign"] (spAct K) := by
  refine F.ok sc_Page_act (fun vs H Q E h => ?_) (fun cdv A outer s H vs Q E hr h => ?_)
  · obtain ⟨p, g, h, key, s, rfl, _⟩ := h
    rfl
  · obtain ⟨p, g, h, key, sg, rfl, hv, ⟨dx, hp⟩, o, hl, k⟩ := h
    refine ⟨_, (pss_cons (ps_if (pt_cmpR op_inS (pv 1) (pe_strS [47, 119, 110, 36] (by decide +kernel)) rfl) (pss_one (ps_ret (km m_Page_travel hr (by decide) (pv 0) (pa_cons (pv 1) (pa_cons (pv 2) pa_nil))))) pss_nil) (pss_cons (ps_if (pt_cmpR op_inS (pv 1) (pe_strS [98, 107, 99] (by decide +kernel)) rfl) (pss_one (ps_ret (km m_Page_use_mark hr (by decide) (pv 0) (pa_cons (pv 1) pa_nil)))) pss_nil) (pss_cons (ps_if (PW.pt (pw_or (pt_cmpR op_eqS (pv 1) (pe_strS [62] (by decide +kernel)) (nomark _)) (pw_or1 (pt_cmpR op_eqS (pv 1) (pe_strS [120] (by decide +kernel)) (nomark _))))) (pss_one (ps_ret (km m_Page_take_one hr (by decide) (pv 0) (pa_cons (pv 1) pa_nil)))) pss_nil) (pss_cons (ps_if (pt_cmpR op_eqS (pv 1) (pe_strS [61] (by decide +kernel)) (nomark _)) (pss_one (ps_ret (pe_cmpR op_eqS (km0 m_Page_ahead hr (by decide) (pv 0)) (pv 2) (nomark _)))) pss_nil) (pss_cons (ps_if (pt_cmpR op_eqS (pv 1) (pe_strS [94] (by decide +kernel)) (nomark _)) (pss_one (ps_ret (kprop p_Page_fresh hr (by decide) (pv 0)))) pss_nil) (C8.pss_cut (ps_if (pt_cmpR op_eqS (pv 1) (pe_strS [109] (by decide +kernel)) (nomark _)) (pss_one (ps_fld (pv 0) (pe_fld (pv 0) rfl) rfl)) (pss_one (ps_if (pt_cmpR op_eqS (pv 1) (pe_strS [39] (by decide +kernel)) (nomark _)) (pss_one (ps_expr (km m_Page_insert hr (by decide) (pv 0) (pa_cons (pv 2) pa_nil)))) (pss_cons (ps_set (i := 3) sc_Page_act.nd rfl (Or.inl rfl) (pe_fld (pv 0) rfl)) (pss_cons (ps_expr (km m_Page_insert hr (by decide) (pv 0) (pa_cons (pv 3) pa_nil))) (pss_one (ps_ret (pe_cmpR op_neS (pv 3) (pe_strS [] (by decide +kernel)) (nomark _))))))))) (pss_one (ps_ret pe_bl)))))))), ?_⟩
    have hc := o.c
    have hks := o.k
    unfold Pg.act at k
    refine ⟨_, rfl, _, _, rfl, rfl, _, rfl, ?_⟩
    refine if2 (fun c => ?_) (fun c => ?_)
    · have c1 : key ∈ [47, 119, 110, 36] := of_decide_eq_true c
      rw [if_pos c1] at k
      exact ⟨_, rfl, p, _, _, rfl, hp, nm_travel, _, rfl, _, rfl, p, g, h, key, sg, rfl, c1, ⟨dx, hp⟩, o, hl, k⟩
    have c1 : ¬ key ∈ [47, 119, 110, 36] := of_decide_eq_false c
    rw [if_neg c1] at k
    refine ⟨_, rfl, _, _, rfl, rfl, _, rfl, ?_⟩
    refine if2 (fun c => ?_) (fun c => ?_)
    · have c2 : key ∈ [98, 107, 99] := of_decide_eq_true c
      rw [if_pos c2] at k
      exact ⟨_, rfl, p, _, _, rfl, hp, nm_use_mark, _, rfl, p, g, h, key, rfl, c2, ⟨dx, hp⟩, o, hl, k⟩
    have c2 : ¬ key ∈ [98, 107, 99] := of_decide_eq_false c
    rw [if_neg c2] at k
    have one : ∀ b : Bool, (decide ([key] = [62]) = b) → (b = false → decide ([key] = [120]) = true) → key ∈ [62, 120] := fun b e1 e2 => by
      by_cases q : key = 62
      · simp [q]
      · have e3 : decide ([key] = [62]) = false := by simp [q]
        rw [e3] at e1
        have := of_decide_eq_true (e2 e1.symm)
        simp at this
        simp [this]
    refine ⟨_, rfl, _, _, rfl, rfl, _, rfl, ?_⟩
    refine if2 (fun c => ?_) (fun c => ?_)
    · have c3 : key ∈ [62, 120] := one true c (fun z => Bool.noConfusion z)
      rw [if_pos c3] at k
      refine ift rfl ?_
      exact ⟨_, rfl, p, _, _, rfl, hp, nm_take_one, _, rfl, p, g, h, key, rfl, c3, ⟨dx, hp⟩, o, hl, k⟩
    have c31 : ¬ [key] = [62] := of_decide_eq_false c
    refine ⟨_, rfl, _, _, rfl, rfl, _, rfl, ?_⟩
    refine if2 (fun c => ?_) (fun c => ?_)
    · have c3 : key ∈ [62, 120] := by
        have : [key] = [120] := of_decide_eq_true c
        simp at this
        simp [this]
      rw [if_pos c3] at k
      exact ⟨_, rfl, p, _, _, rfl, hp, nm_take_one, _, rfl, p, g, h, key, rfl, c3, ⟨dx, hp⟩, o, hl, k⟩
    have c32 : ¬ [key] = [120] := of_decide_eq_false c
    have c3 : ¬ key ∈ [62, 120] := by
      simp at c31 c32
      simp [c31, c32]
    rw [if_neg c3] at k
    refine ⟨_, rfl, _, _, rfl, rfl, _, rfl, ?_⟩
    refine if2 (fun c => ?_) (fun c => ?_)
    · have c4 : key = 61 := by
        have : [key] = [61] := of_decide_eq_true c
        simpa using this
      rw [if_pos c4] at k
      exact ⟨_, rfl, p, _, _, rfl, hp, nm_ahead, p, g, h, rfl, ⟨dx, hp⟩, by omega, _, rfl, _, _, rfl, rfl, k H Kp.refl ⟨dx, hp⟩⟩
    have c4 : ¬ key = 61 := by
      have : ¬ [key] = [61] := of_decide_eq_false c
      simpa using this
    rw [if_neg c4] at k
    refine ⟨_, rfl, _, _, rfl, rfl, _, rfl, ?_⟩
    refine if2 (fun c => ?_) (fun c => ?_)
    · have c5 : key = 94 := by
        have : [key] = [94] := of_decide_eq_true c
        simpa using this
      rw [if_pos c5] at k
      exact ⟨_, rfl, p, dx, _, rfl, hp, p, g, h, rfl, ⟨dx, hp⟩, by omega, o.c, k H Kp.refl ⟨dx, hp⟩⟩
    have c5 : ¬ key = 94 := by
      have : ¬ [key] = [94] := of_decide_eq_false c
      simpa using this
    rw [if_neg c5] at k
    refine ⟨fun σ' H' => Q (.bl true) H', ?_, fun σ' H' z => z⟩
    refine ⟨_, rfl, _, _, rfl, rfl, _, rfl, ?_⟩
    refine if2 (fun c => ?_) (fun c => ?_)
    · have c6 : key = 109 := by
        have : [key] = [109] := of_decide_eq_true c
        simpa using this
      rw [if_pos c6] at k
      refine ⟨_, rfl, p, _, _, _, _, rfl, hp, Z.cl, Z.n_caret, lk_caret, _, rfl, p, _, dx, _, rfl, hp, Z.cl, Z.n_mark, ln_pg, ?_⟩
      rw [pt_mark]
      exact k _ (Kp.refl.upd (by simp)) ⟨dx, upd_same⟩
    have c6 : ¬ key = 109 := by
      have : ¬ [key] = [109] := of_decide_eq_false c
      simpa using this
    rw [if_neg c6] at k
    refine ⟨_, rfl, _, _, rfl, rfl, _, rfl, ?_⟩
    refine if2 (fun c => ?_) (fun c => ?_)
    · have c7 : key = 39 := by
        have : [key] = [39] := of_decide_eq_true c
        simpa using this
      rw [if_pos c7] at k
      have sl : sg.length ≤ 1 := by
        rcases hv with ⟨_, rfl⟩ | ⟨_, a, _, rfl⟩ <;> simp
      exact ⟨_, rfl, p, _, _, rfl, hp, nm_insert, _, rfl, p, g, h, sg, rfl, ⟨dx, hp⟩, by omega, o.c, k⟩
    have c7 : ¬ key = 39 := by
      have : ¬ [key] = [39] := of_decide_eq_false c
      simpa using this
    rw [if_neg c7] at k
    refine ⟨_, rfl, p, _, _, _, _, rfl, hp, Z.cl, Z.n_kept, lk_kept, _, rfl, p, _, _, rfl, hp, nm_insert, _, rfl, p, g, h, g.k, rfl, ⟨dx, hp⟩, ?_, o.c, fun H1 k1 P1 => ?_⟩
    · have := o.hb
      omega
    · refine ⟨_, rfl, _, _, rfl, rfl, ?_⟩
      have := k H1 k1 P1
      simpa using this
def spPress (K : PySem.W.Frag) : Sp := fun vs H Q E => ∃ (p : Addr) (g : Pg) (h : Nat) (kk : List Nat), vs = [.ref p, .str (S kk)] ∧ kk.length ≤ 1000 ∧ PageAt K H p g h ∧ PgOk h g ∧ g.t.length ≤ 40000 ∧
  (isKey kk = false → Rz (ga K "InvalidKey") "key" (.str (S kk)) H E) ∧ (∀ key s, kk = key :: s → vk key s → ∀ H', Kp [p] H H' → PageAt K H' p (g.act h key s).2 h → Q (.bl (g.act h key s).1) H')
abbrev s_Page_press : Stmt := inClass (top 38) 13
theorem sc_Page_press : FnScope ["self", "key"] ["self", "key"] (defScope s_Page_press) := ⟨rfl, rfl, rfl, by decide +kernel, rfl, by decide +kernel, by decide +kernel⟩
theorem ok_Page_press (T : TX K mg) (Z : TP K) (x_InvalidKey : Ex1 P w K mg base "InvalidKey" "key" (ga K "InvalidKey")) (c_is_key : KCal P w K mg base 1 "is_key" spIsKey []) (m_Page_act : KMet P w K mg base 5 (ga K "Page") "act" (spAct K)) {f : Addr} {fd : FuncData} (F : FunD K "press" "Page.press" (defArgs s_Page_press) (defBody s_Page_press) (defScope s_Page_press) [] [] f fd) : FnOk P w K mg base (CX P w) 6 f fd ["self", "key"] (spPress K) := by
  refine F.ok sc_Page_press (fun vs H Q E h => ?_) (fun cdv A outer s H vs Q E hr h => ?_)
  · obtain ⟨p, g, h, kk, rfl, _⟩ := h
    rfl
  · obtain ⟨p, g, h, kk, rfl, hkl, ⟨dx, hp⟩, o, hl, kE, kN⟩ := h
    refine ⟨_, (pss_cons (ps_if (pt_not (pt_val (kc c_is_key hr (by decide) rfl (pa_cons (pv 1) pa_nil)))) (pss_one (ps_raise1 rfl (takes_of rfl rfl rfl rfl) x_InvalidKey hr (by decide) rfl (pv 1))) pss_nil) (pss_one (ps_ret (km m_Page_act hr (by decide) (pv 0) (pa_cons (pe_ix ix_S (pv 1) pe_int (fun _ _ => rfl)) (pa_cons (pe_slice sl_S (pv 1) (po_some pe_int) po_none) pa_nil)))))), ?_⟩
    refine ⟨_, rfl, kk, rfl, hkl, _, rfl, ?_⟩
    refine if2 (fun c => ?_) (fun c => ?_)
    · have c' : isKey kk = false := by simpa using c
      exact ⟨_, rfl, mk1_end fun d hd => kE c' H d (Same.refl H) hd⟩
    · have c' : isKey kk = true := by simpa using c
      obtain ⟨key, sg, rfl, hv⟩ := isKey_vk c'
      have hkl' : sg.length + 1 ≤ 1000 := hkl
      refine ⟨_, rfl, p, _, _, rfl, hp, nm_act, _, rfl, _, 0, key, rfl, rfl, by simp; omega, by decide, rfl, _, rfl, _, rfl, _, rfl, by simp; omega, (by show (0 : Int) ≤ 1; decide), trivial, ?_⟩
      have e : cutL (key :: sg) (some 1) none = sg := cutL_from (key :: sg) 1
      rw [e]
      exact ⟨p, g, h, key, sg, rfl, hv, ⟨dx, hp⟩, o, hl, kN key sg rfl hv⟩
def spMove (K : PySem.W.Frag) : Sp := fun vs H Q E => ∃ (p : Addr) (g : Pg) (h : Nat) (i : Int), vs = [.ref p, .int i] ∧ PageAt K H p g h ∧ g.t.length ≤ 40000 ∧
  (¬ (0 ≤ i ∧ i ≤ g.t.length) → Rz (ga K "InvalidPlace") "place" (.int i) H E) ∧ (0 ≤ i ∧ i ≤ g.t.length → ∀ H', Kp [p] H H' → PageAt K H' p ⟨g.t, i.toNat, none, g.k, 0⟩ h → Q .non H')
abbrev s_Page_move_to : Stmt := inClass (top 38) 6
theorem sc_Page_move_to : FnScope ["self", "place"] ["self", "place"] (defScope s_Page_move_to) := ⟨rfl, rfl, rfl, by decide +kernel, rfl, by decide +kernel, by decide +kernel⟩
theorem ok_Page_move_to (T : TX K mg) (Z : TP K) (c_check_place : KCal P w K mg base 3 "check_place" (spCheckPlace K) []) {f : Addr} {fd : FuncData} (F : FunD K "move_to" "Page.move_to" (defArgs s_Page_move_to) (defBody s_Page_move_to) (defScope s_Page_move_to) [] [] f fd) : FnOk P w K mg base (CX P w) 4 f fd ["self", "place"] (spMove K) := by
  refine F.ok sc_Page_move_to (fun vs H Q E h => ?_) (fun cdv A outer s H vs Q E hr h => ?_)
  · obtain ⟨p, g, h, i, rfl, _⟩ := h
    rfl
  · obtain ⟨p, g, h, i, rfl, ⟨dx, hp⟩, hl, kE, kN⟩ := h
    refine ⟨_, (pss_cons (ps_expr (kx c_check_place (takes_of rfl rfl rfl rfl) hr (by decide) rfl (pa_cons (pe_fld (pv 0) rfl) (pa_cons (pv 1) pa_nil)))) (pss_cons (ps_fld (pv 0) (pv 1) rfl) (pss_cons (ps_fld (pv 0) pe_non rfl) (pss_one (ps_fld (pv 0) pe_int rfl))))), ?_⟩
    refine ⟨_, rfl, p, _, _, _, _, rfl, hp, Z.cl, Z.n_text, lk_text, _, rfl, g.t, i, rfl, by omega, fun hi => ?_, fun hi => kE hi⟩
    refine ⟨_, rfl, _, rfl, p, _, dx, _, rfl, hp, Z.cl, Z.n_caret, ln_pg, ?_⟩
    rw [pt_caret]
    refine ⟨_, rfl, p, _, dx, _, rfl, upd_same, Z.cl, Z.n_mark, ln_pg, ?_⟩
    rw [pt_mark]
    refine ⟨_, rfl, p, _, dx, _, rfl, upd_same, Z.cl, Z.n_returned, ln_pg, ?_⟩
    rw [pt_returned]
    refine kN hi _ (((Kp.refl.upd (by simp)).upd (by simp)).upd (by simp)) ⟨dx, ?_⟩
    have e1 : ((i.toNat : Nat) : Int) = i := by omega
    rw [upd_same]
    show _ = some (HO.ins _ _ (pgR _ (V.int (i.toNat : Nat)) _ _ _ _))
    rw [e1]
    rfl
abbrev PgInit (K : PySem.W.Frag) (f : Addr) (fd : FuncData) : Prop := FunD K "__init__" "Page.__init__" (defArgs s_Page___init__) (defBody s_Page___init__) (defScope s_Page___init__) [.str (S []), .int 0] [("hold", .int 2)] f fd
theorem pg_b2 {f : Addr} {fd : FuncData} (F : PgInit K f fd) : ∃ g, KBn K fd ["self", "text", "place", "hold"] 3 ["hold"] g (fun vs zs => vs ++ zs) := by
  obtain ⟨its, mv, b⟩ := FunD.kbinds (ps := ["self", "text", "place", "hold"]) F 3 ["hold"] [] (fun us _ _ ws => us ++ ws) (by simp) (by simp) (by simp) (fun r1 r2 r3 r4 => Vals.append r1 r4)
    (fun T D doc pm an cdv ct us its mv ws h1 h2 h3 h4 => match us, its, mv, ws, h1, h2, h3, h4 with | [_, _, _], [_, _], [], [_], _, _, _, _ => ⟨_, rfl, rfl⟩)
  exact ⟨_, b⟩
theorem pg_b1 {f : Addr} {fd : FuncData} (F : PgInit K f fd) : ∃ ds, Vals [.int 0, .int 2] ds ∧ Binds K fd ["self", "text", "place", "hold"] ds :=
  FunD.binds (ps := ["self", "text", "place", "hold"]) F 2 1 (by simp) (by rfl) (fun T D doc pm an cdv ct us its ks h1 h2 h3 => match us, its, ks, h1, h2, h3 with | [_, _], [_, _], [_], _, _, _ => ⟨_, rfl, ⟨_, _, _, _, _, _, rfl, rfl, rfl⟩⟩) (by simp)
theorem pg_b0 {f : Addr} {fd : FuncData} (F : PgInit K f fd) : ∃ ds, Vals [.str (S []), .int 0, .int 2] ds ∧ Binds K fd ["self", "text", "place", "hold"] ds :=
  FunD.binds (ps := ["self", "text", "place", "hold"]) F 1 0 (by simp) (by rfl) (fun T D doc pm an cdv ct us its ks h1 h2 h3 => match us, its, ks, h1, h2, h3 with | [_], [_, _], [_], _, _, _ => ⟨_, rfl, ⟨_, _, _, _, _, _, rfl, rfl, rfl⟩⟩) (by simp)
/-! ### keyreel.notation -/
def spKL (K : PySem.W.Frag) : Sp := fun vs H Q E => ∃ (n : List Nat) (i : Nat) (ca : Bool), vs = [.str (S n), .int (i : Nat), .bl ca] ∧ n.length ≤ 50000 ∧ i < n.length ∧ (∀ k, kl ca (n.drop i) = .inr k → Q (.int (k : Nat)) H) ∧ (∀ k, kl ca (n.drop i) = .inl k → Rz (ga K "InvalidRecording") "place" (.int ((i + k : Nat))) H E)
abbrev s_key_length : Stmt := top 27
theorem sc_key_length : FnScope ["notation", "at", "calls", "sign", "allowed"] ["notation", "at", "calls"] (defScope s_key_length) := ⟨rfl, rfl, rfl, by decide +kernel, rfl, by decide +kernel, by decide +kernel⟩
theorem ok_key_length (T : TX K mg) (x_InvalidRecording : Ex1 P w K mg base "InvalidRecording" "place" (ga K "InvalidRecording")) {f : Addr} {fd : FuncData} (F : FunD K "key_length" "key_length" (defArgs s_key_length) (defBody s_key_length) (defScope s_key_length) [] [] f fd) : FnOk P w K mg base (CX P w) 3 f fd ["notation", "at", "calls"] (spKL K) := by
  refine F.ok sc_key_length (fun vs H Q E h => ?_) (fun cdv A outer s H vs Q E hr h => ?_)
  · obtain ⟨n, i, ca, rfl, _⟩ := h
    rfl
  · obtain ⟨n, i, ca, rfl, hn, hi, kq, ke⟩ := h
    refine ⟨_, (pss_cons (ps_set (i := 3) sc_key_length.nd rfl (Or.inl rfl) (pe_ix ix_S (pv 0) (pv 1) (fun _ _ => rfl))) (pss_cons (ps_if (pt_cmpR op_inS (pv 3) (pe_gS T.g_PLAIN_KEYS rfl) rfl) (pss_one (ps_ret pe_int)) pss_nil) (pss_cons (ps_if (pt_cut (PW.pt (pw_or (pt_cmpR op_inS (pv 3) (pe_gS T.g_SIGN_KEYS rfl) rfl) (pw_or1 (PW.pt (pw_and (pt_val (pv 2)) (pw_and1 (pt_cmpR op_eqS (pv 3) (pe_strS [64] (by decide +kernel)) (nomark _))))))))) (pss_cons (ps_if (pt_cmpR op_eq (pe_op op_add (pv 1) pe_int) (pe_callB call_lenS (by rfl) T.b_len PySem.boot_len (pa_cons (pv 0) pa_nil)) (nomark _)) (pss_one (ps_raise1 rfl (takes_of rfl rfl rfl rfl) x_InvalidRecording hr (by decide) rfl (pe_op op_add (pv 1) pe_int))) pss_nil) (C8.pss_cut (ps_set (i := 4) sc_key_length.nd rfl (Or.inl rfl) (pe_ifExp (pt_cmpR op_eqS (pv 3) (pe_strS [64] (by decide +kernel)) (nomark _)) (pe_gS T.g_LETTERS rfl) (pe_gS T.g_SIGNS rfl))) (pss_cons (ps_if (pt_cmpR op_notInS (pe_ix ix_S (pv 0) (pe_op op_add (pv 1) pe_int) (fun _ _ => rfl)) (pv 4) rfl) (pss_one (ps_raise1 rfl (takes_of rfl rfl rfl rfl) x_InvalidRecording hr (by decide) rfl (pe_op op_add (pv 1) pe_int))) pss_nil) (pss_one (ps_ret pe_int))))) pss_nil) (pss_cons (ps_if (pt_cmpR op_inS (pv 3) (pe_strS [40, 91, 124, 93, 41] (by decide +kernel)) rfl) (pss_one (ps_ret pe_int)) pss_nil) (pss_one (ps_raise1 rfl (takes_of rfl rfl rfl rfl) x_InvalidRecording hr (by decide) rfl (pv 1))))))), ?_⟩
    have ed : n.drop i = n[i] :: n.drop (i + 1) := List.drop_eq_getElem_cons hi
    rw [ed] at kq ke
    have eg : n[((i : Nat) : Int).toNat]? = some n[i] := List.getElem?_eq_getElem hi
    generalize ec : n[i] = c at kq ke eg
    refine ⟨_, rfl, _, rfl, _, _, c, rfl, rfl, by omega, by omega, eg, ?_⟩
    refine ⟨_, rfl, _, _, rfl, rfl, _, rfl, ?_⟩
    refine if2 (fun h1 => ?_) (fun h1 => ?_)
    · have h1' : c ∈ plk := of_decide_eq_true h1
      exact kq 1 (by simp only [kl, if_pos h1'])
    have h1' : c ∉ plk := of_decide_eq_false h1
    refine ⟨Ans H (c ∈ sgk ∨ (ca = true ∧ c = 64)), ?_, if3 (fun hc => ?_) (fun hc => ?_)⟩
    · refine ⟨_, rfl, _, _, rfl, rfl, _, rfl, ?_⟩
      refine if2 (fun h2 => ?_) (fun h2 => ?_)
      · exact ansT (.inl (of_decide_eq_true h2))
      have h2' : c ∉ sgk := of_decide_eq_false h2
      refine ⟨_, rfl, _, rfl, ?_⟩
      refine if2 (fun h3 => ?_) (fun h3 => ?_)
      · refine ⟨_, rfl, _, _, rfl, rfl, _, rfl, ?_⟩
        refine ⟨rfl, ?_⟩
        show decide ([c] = [64]) = true ↔ _
        simp [h2', h3]
      · exact ansF (fun z => by rcases z with z | z; exact h2' z; rw [z.1] at h3; cases h3)
    · refine ⟨_, rfl, _, _, rfl, rfl, _, rfl, _, rfl, by omega, rfl, _, rfl, ?_⟩
      rw [dI]
      refine if2 (fun h2 => ?_) (fun h2 => ?_)
      · have h2' : (i : Int) + 1 = (n.length : Nat) := of_decide_eq_true h2
        have e2 : n.drop (i + 1) = [] := by rw [List.drop_eq_nil_iff]; omega
        refine ⟨_, rfl, _, _, rfl, rfl, mk1_end fun d hd => ?_⟩
        exact ke 1 (by rw [e2]; simp only [kl, if_neg h1', if_pos hc]) _ d (Same.refl H) hd
      · have h2' : ¬ (i : Int) + 1 = (n.length : Nat) := of_decide_eq_false h2
        have hi2 : i + 1 < n.length := by omega
        have ed2 : n.drop (i + 1) = n[i + 1] :: n.drop (i + 1 + 1) := List.drop_eq_getElem_cons hi2
        have eg2 : n[((i : Nat) + 1 : Int).toNat]? = some n[i + 1] := List.getElem?_eq_getElem hi2
        generalize n[i + 1] = d at ed2 eg2
        have ek : kl ca (c :: n.drop (i + 1)) = if d ∈ (if c = 64 then ltr else sgn) then .inr 2 else .inl 1 := by
          rw [ed2]; simp only [kl, if_neg h1', if_pos hc]
        refine ⟨fun σ' H' => σ' = [some (.str (S n)), some (.int (i : Nat)), some (.bl ca), some (.str (S [c])), some (.str (S (if c = 64 then ltr else sgn)))] ∧ H' = H, ?_, ?_⟩
        · refine ⟨_, rfl, _, _, rfl, rfl, _, rfl, ?_⟩
          refine if2 (fun h3 => ?_) (fun h3 => ?_)
          · have h3' : [c] = [64] := of_decide_eq_true h3
            have h4 : c = 64 := by simpa using h3'
            exact ⟨by rw [if_pos h4]; rfl, rfl⟩
          · have h3' : ¬ [c] = [64] := of_decide_eq_false h3
            have h4 : ¬ c = 64 := fun z => h3' (by rw [z])
            exact ⟨by rw [if_neg h4]; rfl, rfl⟩
        · rintro σ' H' ⟨rfl, rfl⟩
          refine ⟨_, rfl, _, rfl, _, _, rfl, rfl, _, _, d, rfl, rfl, by omega, by omega, eg2, _, rfl, _, _, rfl, rfl, _, rfl, ?_⟩
          refine if2 (fun h3 => ?_) (fun h3 => ?_)
          · have h3' : d ∉ (if c = 64 then ltr else sgn) := by simpa using h3
            refine ⟨_, rfl, _, _, rfl, rfl, mk1_end fun dd hd => ?_⟩
            exact ke 1 (by rw [ek, if_neg h3']) _ dd (Same.refl H') hd
          · have h3' : d ∈ (if c = 64 then ltr else sgn) := by simpa using h3
            exact kq 2 (by rw [ek, if_pos h3'])
    · have e3 : kl ca (c :: List.drop (i + 1) n) = (if c ∈ brs then .inr 0 else .inl 0) := by
        simp only [kl, if_neg h1']
        rw [if_neg hc]
      refine ⟨_, rfl, _, _, rfl, rfl, _, rfl, ?_⟩
      refine if2 (fun h5 => ?_) (fun h5 => ?_)
      · have h5' : c ∈ brs := of_decide_eq_true h5
        exact kq 0 (by rw [e3, if_pos h5'])
      · have h5' : c ∉ brs := of_decide_eq_false h5
        refine ⟨_, rfl, mk1_end fun d hd => ?_⟩
        exact ke 0 (by rw [e3, if_neg h5']) _ d (Same.refl H) hd
/-- read_bracket -/
def spRB (K : PySem.W.Frag) : Sp := fun vs H Q E => ∃ (c j : Nat) (i : Int) (p q : Addr) (gs : List Grp) (its : List It), vs = [.str (S [c]), .int i, .ref p, .ref q] ∧ c ∈ brs ∧ GrsAt H p gs ∧ ItsAt H q its ∧ RdOk j gs its ∧ j ≤ 50000 ∧ gs.length ≤ 8 ∧
  (∀ g2 i2, brk c gs its = some (g2, i2) → ∀ H' t p2 q2, Same H H' → H' t = some (.tup [.ref p2, .ref q2]) → GrsAt H' p2 g2 → ItsAt H' q2 i2 → Q (.ref t) H') ∧ (brk c gs its = none → Rz (ga K "InvalidRecording") "place" (.int i) H E)
abbrev s_read_bracket : Stmt := top 28
theorem sc_read_bracket : FnScope ["sign", "at", "groups", "items", "bracket", "outer", "first"] ["sign", "at", "groups", "items"] (defScope s_read_bracket) := ⟨rfl, rfl, rfl, by decide +kernel, rfl, by decide +kernel, by decide +kernel⟩
theorem ok_read_bracket (T : TX K mg) (x_InvalidRecording : Ex1 P w K mg base "InvalidRecording" "place" (ga K "InvalidRecording")) {f : Addr} {fd : FuncData} (F : FunD K "read_bracket" "read_bracket" (defArgs s_read_bracket) (defBody s_read_bracket) (defScope s_read_bracket) [] [] f fd) : FnOk P w K mg base (CX P w) 3 f fd ["sign", "at", "groups", "items"] (spRB K) := by
  refine F.ok sc_read_bracket (fun vs H Q E h => ?_) (fun cdv A outer s H vs Q E hr h => ?_)
  · obtain ⟨c, j, i, p, q, gs, its, rfl, _⟩ := h
    rfl
  · obtain ⟨c, j, i, p, q, gs, its, rfl, hc, ⟨xs, hp, hg⟩, ⟨ys, hq, hT⟩, o, hj, h8, kq, ke⟩ := h
    refine ⟨_, (pss_cons (ps_if (pt_cmpR op_inS (pv 0) (pe_strS [40, 91] (by decide +kernel)) rfl) (pss_cons (ps_if (pt_cmpR op_eq (pe_callB call_len_seq (by rfl) T.b_len PySem.boot_len (pa_cons (pv 2) pa_nil)) (pe_gI T.g_MOST_DEPTH rfl) (nomark _)) (pss_one (ps_raise1 rfl (takes_of rfl rfl rfl rfl) x_InvalidRecording hr (by decide) rfl (pv 1))) pss_nil) (pss_one (ps_ret (pe_tup (pa_cons (pe_op op_catW (pv 2) (pe_tup (pa_cons (pe_tup (pa_cons (pv 0) (pa_cons (pv 3) (pa_cons pe_non pa_nil)))) pa_nil))) (pa_cons (pe_tup pa_nil) pa_nil)))))) pss_nil) (pss_cons (ps_if (pt_not (pt_truth (pv 2) (by intro _; rfl))) (pss_one (ps_raise1 rfl (takes_of rfl rfl rfl rfl) x_InvalidRecording hr (by decide) rfl (pv 1))) pss_nil) (pss_cons (ps_asg (pe_ix ix_tup (pv 2) (pe_un un_neg pe_int) (fun _ _ => rfl)) (pg_tup rfl (pgs_cons (pg_name (i := 4) sc_read_bracket.nd rfl (Or.inl rfl)) (pgs_cons (pg_name (i := 5) sc_read_bracket.nd rfl (Or.inl rfl)) (pgs_cons (pg_name (i := 6) sc_read_bracket.nd rfl (Or.inl rfl)) pgs_nil))))) (pss_cons (ps_if (pt_cut (PW.pt (pw_and (pt_cmpR op_eqS (pv 0) (pe_strS [41] (by decide +kernel)) (nomark _)) (pw_and (pt_cmpR op_eqS (pv 4) (pe_strS [40] (by decide +kernel)) (nomark _)) (pw_and1 (pt_cmpR (op_neD hr.units) (pv 3) (pe_tup pa_nil) (nomark _))))))) (pss_one (ps_ret (pe_tup (pa_cons (pe_slice sl_tupW (pv 2) po_none (po_some (pe_un un_neg pe_int))) (pa_cons (pe_op op_catW (pv 5) (pe_tup (pa_cons (pe_tup (pa_cons (pe_strS [40] (by decide +kernel)) (pa_cons (pv 3) pa_nil))) pa_nil))) pa_nil))))) pss_nil) (pss_cons (ps_if (pt_cut (PW.pt (pw_and (pt_cmpR op_eqS (pv 0) (pe_strS [124] (by decide +kernel)) (nomark _)) (pw_and (pt_cmpR op_eqS (pv 4) (pe_strS [91] (by decide +kernel)) (nomark _)) (pw_and (pt_cmpR op_isN (pv 6) pe_non (nomark _)) (pw_and1 (pt_cmpR (op_neD hr.units) (pv 3) (pe_tup pa_nil) (nomark _)))))))) (pss_one (ps_ret (pe_tup (pa_cons (pe_op op_catW (pe_slice sl_tupW (pv 2) po_none (po_some (pe_un un_neg pe_int))) (pe_tup (pa_cons (pe_tup (pa_cons (pv 4) (pa_cons (pv 5) (pa_cons (pv 3) pa_nil)))) pa_nil))) (pa_cons (pe_tup pa_nil) pa_nil))))) pss_nil) (pss_cons (ps_if (pt_cut (PW.pt (pw_and (pt_cmpR op_eqS (pv 0) (pe_strS [93] (by decide +kernel)) (nomark _)) (pw_and (pt_cmpR op_eqS (pv 4) (pe_strS [91] (by decide +kernel)) (nomark _)) (pw_and1 (pt_cmpR op_notN (pv 6) pe_non (nomark _))))))) (pss_one (ps_ret (pe_tup (pa_cons (pe_slice sl_tupW (pv 2) po_none (po_some (pe_un un_neg pe_int))) (pa_cons (pe_op op_catW (pv 5) (pe_tup (pa_cons (pe_tup (pa_cons (pe_strS [91] (by decide +kernel)) (pa_cons (pv 6) (pa_cons (pv 3) pa_nil)))) pa_nil))) pa_nil))))) pss_nil) (pss_one (ps_raise1 rfl (takes_of rfl rfl rfl rfl) x_InvalidRecording hr (by decide) rfl (pv 1))))))))), ?_⟩
    have hxl := hg.len
    refine ⟨_, rfl, _, _, rfl, rfl, _, rfl, ?_⟩
    refine if2 (fun h1 => ?_) (fun h1 => ?_)
    · have h1' : c ∈ [40, 91] := of_decide_eq_true h1
      have h1c : c = 40 ∨ c = 91 := by simpa using h1'
      refine ⟨_, rfl, p, xs, rfl, .inr (SqT.of hp), rfl, _, rfl, ?_⟩
      rw [dI]
      refine if2 (fun h2 => ?_) (fun h2 => ?_)
      · have h2' : (xs.length : Int) = 8 := of_decide_eq_true h2
        have h3 : gs.length = 8 := by omega
        refine ⟨_, rfl, mk1_end fun d hd => ?_⟩
        exact ke (by unfold brk; rw [if_pos h1c, if_pos h3]) _ d (Same.refl H) hd
      · have h2' : ¬ (xs.length : Int) = 8 := of_decide_eq_false h2
        have h3 : ¬ gs.length = 8 := by omega
        have eb : brk c gs its = some (⟨c, its, none⟩ :: gs, []) := by unfold brk; rw [if_pos h1c, if_neg h3]
        refine ⟨_, rfl, _, rfl, _, rfl, (show 3 ≤ sizeLine by decide), fun t1 ht1 => ⟨(show 1 ≤ sizeLine by decide), fun t2 ht2 => ?_⟩⟩
        have s1 : Same H (upd H t1 (.tup [.str (S [c]), .ref q, .non])) := sNew (Same.refl H) ht1
        have s2 := sNew (o := .tup [.ref t1]) (Same.refl _) ht2
        refine ⟨p, t2, xs, _, rfl, rfl, s2 _ _ (s1 _ _ hp), upd_same, by simp; omega, fun H3 p2 s3 hp2 => ⟨(show 0 ≤ sizeLine by decide), fun q2 hq2 => ⟨(show 2 ≤ sizeLine by decide), fun t ht => ?_⟩⟩⟩
        have s4 := sNew (o := .tup []) (Same.refl _) hq2
        have s5 := sNew (o := .tup [.ref p2, .ref q2]) (Same.refl _) ht
        have sA := (s1.trans s2).trans (s3.trans (s4.trans s5))
        have sB := s2.trans (s3.trans (s4.trans s5))
        refine kq _ _ eb _ t p2 q2 sA upd_same ⟨_, s5 _ _ (s4 _ _ hp2), xs, .ref t1, rfl, ⟨t1, q, .non, rfl, sB _ _ upd_same, ⟨ys, sA _ _ hq, hT.keep (Tk.same sA)⟩, rfl⟩, hg.keep (Tk.same sA)⟩ (ItsAt.nil (s5 _ _ upd_same))
    · have h1' : c ∉ [40, 91] := of_decide_eq_false h1
      have h1c : ¬ (c = 40 ∨ c = 91) := by simpa using h1'
      refine ⟨_, rfl, _, .inr (.inl ⟨xs, SqT.of hp, rfl⟩), ?_⟩
      have eN : brk c gs its = none → ∀ H1, Same H H1 → ∀ d, H1 d = none → E (.ref (ga K "InvalidRecording")) (some d) (upd H1 d (.xd [("place", .int i)])) := fun h H1 s1 d hd => ke h H1 d s1 hd
      cases gs with
      | nil =>
        have e : xs = [] := hg
        subst e
        refine ift rfl ⟨_, rfl, mk1_end fun d hd => eN (by unfold brk; rw [if_neg h1c]) _ (Same.refl H) d hd⟩
      | cons g r =>
        obtain ⟨zs, v, rfl, ⟨gp, go, fv, rfl, hgp, hgo, hgf⟩, hgr⟩ := hg
        have hne : (!(zs ++ [V.ref gp]).isEmpty) = true := by simp
        rw [hne]
        refine iff' rfl ?_
        refine ⟨_, rfl, 1, rfl, p, _, -1, _, rfl, rfl, SqT.of hp, atI_last _ _, gp, _, rfl, SqT.of hgp, rfl, ?_⟩
        refine ⟨_, _, rfl, _, _, rfl, _, _, rfl, rfl, ?_⟩
        have hD : ∀ H1, Same H H1 → Dp K H1 (.ref q) (.tuple (dataL its)) := fun H1 s1 => .tup (SqT.of (s1 _ _ hq)) ((hT.keep (Tk.same s1)).dp its)
        have hS : SeqAt.shaped (.tuple (dataL its)) = true := sh_its o.o (by have := o.d; omega)
        have hE : ∀ H1, Same H H1 → tTest (tOp (rNeD K) (tVar 3) (tTup tNil)) [some (.str (S [c])), some (.int i), some (.ref p), some (.ref q), some (.str (S [g.c])), some (.ref go), some fv] H1 (AnsS H1 (its.isEmpty = false)) := fun H1 s1 => by
          refine ⟨_, rfl, (show 0 ≤ sizeLine by decide), fun t0 ht0 => ⟨_, _, hD _ (sNew s1 ht0), .tup (SqT.of upd_same) .nil, hS, rfl, _, rfl, ?_⟩⟩
          refine ⟨sNew (Same.refl _) ht0, ?_⟩
          rw [eqv_nil]; simp
        refine ⟨AnsS H (c = 41 ∧ g.c = 40 ∧ its.isEmpty = false), ?_, if3S (fun H1 s1 hc => ?_) (fun H1 s1 hc1 => ?_)⟩
        · refine ⟨_, rfl, _, _, rfl, rfl, _, rfl, if2 (fun a1 => ?_) (fun a1 => ?_)⟩
          · have a1' : c = 41 := by simpa using a1
            refine ⟨_, rfl, _, _, rfl, rfl, _, rfl, if2 (fun a2 => ?_) (fun a2 => ?_)⟩
            · have a2' : g.c = 40 := by simpa using a2
              have := hE H (Same.refl H)
              simp only [a1', a2', true_and]
              rw [a1', a2'] at this
              exact this
            · have a2' : ¬ g.c = 40 := by simpa using a2
              exact ansSF (Same.refl H) fun z => a2' z.2.1
          · have a1' : ¬ c = 41 := by simpa using a1
            exact ansSF (Same.refl H) fun z => a1' z.1
        · have eb : brk c (g :: r) its = some (r, g.o ++ [.rep its]) := by unfold brk; rw [if_neg h1c]; simp only [if_pos hc]
          obtain ⟨ws, hws, hwt⟩ := hgo
          have hwl := hwt.len
          have hz := o.z
          simp only [Gz] at hz
          have hz2 := len_szL g.o
          refine ⟨_, rfl, 1, rfl, -1, rfl, p, _, rfl, s1 _ _ hp, fun H2 p2 s2 hp2 => ?_⟩
          rw [cutV_init] at hp2
          refine ⟨_, rfl, _, rfl, (show 2 ≤ sizeLine by decide), fun t1 ht1 => ⟨(show 1 ≤ sizeLine by decide), fun t2 ht2 => ?_⟩⟩
          have s3 := sNew (o := .tup [.str (S [40]), .ref q]) (Same.refl _) ht1
          have s4 := sNew (o := .tup [.ref t1]) (Same.refl _) ht2
          have sB := (s1.trans s2).trans (s3.trans s4)
          refine ⟨go, t2, ws, _, rfl, rfl, sB _ _ hws, upd_same, by simp; omega, fun H3 q2 s5 hq2 => ⟨(show 2 ≤ sizeLine by decide), fun t ht => ?_⟩⟩
          have s6 := sNew (o := .tup [.ref p2, .ref q2]) (Same.refl _) ht
          have sC := s5.trans s6
          have sA := sB.trans sC
          refine kq _ _ eb _ t p2 q2 sA upd_same ⟨_, sC _ _ (s4 _ _ (s3 _ _ hp2)), hgr.keep (Tk.same sA)⟩ ⟨_, s6 _ _ hq2, Trs.app (hwt.keep (Tk.same sA)) (Trs.one ⟨t1, q, ys, rfl, sC _ _ (s4 _ _ upd_same), sA _ _ hq, hT.keep (Tk.same sA)⟩)⟩
        · refine ⟨AnsS H1 (c = 124 ∧ g.c = 91 ∧ g.f.isNone = true ∧ its.isEmpty = false), ?_, if3S (fun H2 s2 hc => ?_) (fun H2 s2 hc2 => ?_)⟩
          · refine ⟨_, rfl, _, _, rfl, rfl, _, rfl, if2 (fun a1 => ?_) (fun a1 => ?_)⟩
            · have a1' : c = 124 := by simpa using a1
              refine ⟨_, rfl, _, _, rfl, rfl, _, rfl, if2 (fun a2 => ?_) (fun a2 => ?_)⟩
              · have a2' : g.c = 91 := by simpa using a2
                have eF : decide (fv = V.non) = g.f.isNone := by
                  split at hgf
                  · rename_i e; rw [e, hgf]; rfl
                  · rename_i e; obtain ⟨r, e2, _⟩ := hgf; rw [e, e2]; rfl
                refine ⟨_, rfl, rfl, _, rfl, if2 (fun a3 => ?_) (fun a3 => ?_)⟩
                · rw [eF] at a3
                  have := hE H1 s1
                  simp only [a1', a2', a3, true_and]
                  rw [a1', a2'] at this
                  exact this
                · rw [eF] at a3
                  exact ansSF (Same.refl _) fun z => (by rw [z.2.2.1] at a3; cases a3)
              · have a2' : ¬ g.c = 91 := by simpa using a2
                exact ansSF (Same.refl _) fun z => a2' z.2.1
            · have a1' : ¬ c = 124 := by simpa using a1
              exact ansSF (Same.refl _) fun z => a1' z.1
          · have eb : brk c (g :: r) its = some (⟨g.c, g.o, some its⟩ :: r, []) := by unfold brk; rw [if_neg h1c]; simp only [if_neg hc1, if_pos hc]
            have hzl := hgr.len
            have s12 := s1.trans s2
            refine ⟨_, rfl, 1, rfl, -1, rfl, p, _, rfl, s12 _ _ hp, fun H3 p2 s3 hp2 => ?_⟩
            rw [cutV_init] at hp2
            refine ⟨_, rfl, _, rfl, _, rfl, (show 3 ≤ sizeLine by decide), fun t1 ht1 => ⟨(show 1 ≤ sizeLine by decide), fun t2 ht2 => ?_⟩⟩
            have s4 := sNew (o := .tup [.str (S [g.c]), .ref go, .ref q]) (Same.refl _) ht1
            have s5 := sNew (o := .tup [.ref t1]) (Same.refl _) ht2
            refine ⟨p2, t2, zs, _, rfl, rfl, s5 _ _ (s4 _ _ hp2), upd_same, by simp at h8 ⊢; omega, fun H4 p3 s6 hp3 => ⟨(show 0 ≤ sizeLine by decide), fun q2 hq2 => ⟨(show 2 ≤ sizeLine by decide), fun t ht => ?_⟩⟩⟩
            have s7 := sNew (o := .tup []) (Same.refl _) hq2
            have s8 := sNew (o := .tup [.ref p3, .ref q2]) (Same.refl _) ht
            have sC := s6.trans (s7.trans s8)
            have sA := s12.trans (s3.trans (s4.trans (s5.trans sC)))
            refine kq _ _ eb _ t p3 q2 sA upd_same ⟨_, s8 _ _ (s7 _ _ hp3), zs, .ref t1, rfl, ⟨t1, go, .ref q, rfl, sC _ _ (s5 _ _ upd_same), hgo.keep (Tk.same sA), ⟨q, rfl, ys, sA _ _ hq, hT.keep (Tk.same sA)⟩⟩, hgr.keep (Tk.same sA)⟩ (ItsAt.nil (s8 _ _ upd_same))
          · have s12 := s1.trans s2
            refine ⟨AnsS H2 (c = 93 ∧ g.c = 91 ∧ g.f.isNone = false), ?_, if3S (fun H3 s3 hc => ?_) (fun H3 s3 hc3 => ?_)⟩
            · refine ⟨_, rfl, _, _, rfl, rfl, _, rfl, if2 (fun a1 => ?_) (fun a1 => ?_)⟩
              · have a1' : c = 93 := by simpa using a1
                refine ⟨_, rfl, _, _, rfl, rfl, _, rfl, if2 (fun a2 => ?_) (fun a2 => ?_)⟩
                · have a2' : g.c = 91 := by simpa using a2
                  have eF : decide (fv = V.non) = g.f.isNone := by
                    split at hgf
                    · rename_i e; rw [e, hgf]; rfl
                    · rename_i e; obtain ⟨r, e2, _⟩ := hgf; rw [e, e2]; rfl
                  refine ⟨_, rfl, rfl, _, rfl, Same.refl _, ?_⟩
                  rw [eF]; simp [a1', a2']
                · have a2' : ¬ g.c = 91 := by simpa using a2
                  exact ansSF (Same.refl _) fun z => a2' z.2.1
              · have a1' : ¬ c = 93 := by simpa using a1
                exact ansSF (Same.refl _) fun z => a1' z.1
            · split at hgf
              · rename_i e; have := hc.2.2; rw [e] at this; cases this
              · rename_i f' ef
                obtain ⟨fr, rfl, fs, hfs, hft⟩ := hgf
                have eb : brk c (g :: r) its = some (r, g.o ++ [.cho f' its]) := by
                  unfold brk; rw [if_neg h1c]; simp only [if_neg hc1, if_neg hc2, if_pos (show c = 93 ∧ g.c = 91 from ⟨hc.1, hc.2.1⟩)]; rw [ef]
                obtain ⟨ws, hws, hwt⟩ := hgo
                have hwl := hwt.len
                have hz := o.z
                simp only [Gz] at hz
                have hz2 := len_szL g.o
                have s13 := s12.trans s3
                refine ⟨_, rfl, 1, rfl, -1, rfl, p, _, rfl, s13 _ _ hp, fun H4 p2 s4 hp2 => ?_⟩
                rw [cutV_init] at hp2
                refine ⟨_, rfl, _, rfl, _, rfl, (show 3 ≤ sizeLine by decide), fun t1 ht1 => ⟨(show 1 ≤ sizeLine by decide), fun t2 ht2 => ?_⟩⟩
                have s5 := sNew (o := .tup [.str (S [91]), .ref fr, .ref q]) (Same.refl _) ht1
                have s6 := sNew (o := .tup [.ref t1]) (Same.refl _) ht2
                have sB := (s13.trans s4).trans (s5.trans s6)
                refine ⟨go, t2, ws, _, rfl, rfl, sB _ _ hws, upd_same, by simp; omega, fun H5 q2 s7 hq2 => ⟨(show 2 ≤ sizeLine by decide), fun t ht => ?_⟩⟩
                have s8 := sNew (o := .tup [.ref p2, .ref q2]) (Same.refl _) ht
                have sC := s7.trans s8
                have sA := sB.trans sC
                refine kq _ _ eb _ t p2 q2 sA upd_same ⟨_, sC _ _ (s6 _ _ (s5 _ _ hp2)), hgr.keep (Tk.same sA)⟩ ⟨_, s8 _ _ hq2, Trs.app (hwt.keep (Tk.same sA)) (Trs.one ⟨t1, fr, q, fs, ys, rfl, sC _ _ (s6 _ _ upd_same), sA _ _ hfs, sA _ _ hq, hft.keep (Tk.same sA), hT.keep (Tk.same sA)⟩)⟩
            · have eb : brk c (g :: r) its = none := by
                unfold brk; rw [if_neg h1c]; simp only [if_neg hc1, if_neg hc2]
                split
                · rename_i h9
                  split
                  · rename_i f' ef
                    exact absurd ⟨h9.1, h9.2, by rw [ef]; rfl⟩ hc3
                  · rfl
                · rfl
              refine ⟨_, rfl, mk1_end fun d hd => eN eb _ (s12.trans s3) d hd⟩
def spRead (K : PySem.W.Frag) : Sp := fun vs H Q E => ∃ (n : List Nat) (ca : Bool), vs = [.str (S n), .bl ca] ∧ n.length ≤ 50000 ∧ (∀ its, read ca n = .inr its → ∀ H' p, Same H H' → ItsAt H' p its → Q (.ref p) H') ∧ (∀ i, read ca n = .inl i → Rz (ga K "InvalidRecording") "place" (.int (i : Nat)) H E)
abbrev s_read : Stmt := top 29
theorem sc_read : FnScope ["notation", "calls", "groups", "items", "at", "length"] ["notation", "calls"] (defScope s_read) := ⟨rfl, rfl, rfl, by decide +kernel, rfl, by decide +kernel, by decide +kernel⟩
theorem ok_read (T : TX K mg) (x_InvalidRecording : Ex1 P w K mg base "InvalidRecording" "place" (ga K "InvalidRecording")) (c_key_length : KCal P w K mg base 3 "key_length" (spKL K) []) (c_read_bracket : KCal P w K mg base 3 "read_bracket" (spRB K) []) {f : Addr} {fd : FuncData} (F : FunD K "read" "read" (defArgs s_read) (defBody s_read) (defScope s_read) [.bl false] [] f fd) : FnOk P w K mg base (CX P w) 4 f fd ["notation", "calls"] (spRead K) := by
  refine F.ok sc_read (fun vs H Q E h => ?_) (fun cdv A outer s H vs Q E hr h => ?_)
  · obtain ⟨n, ca, rfl, _⟩ := h
    rfl
  · obtain ⟨n, ca, rfl, hn, kq, ke⟩ := h
    refine ⟨_, (pss_cons (ps_set (i := 2) sc_read.nd rfl (Or.inl rfl) (pe_tup pa_nil)) (pss_cons (ps_set (i := 3) sc_read.nd rfl (Or.inl rfl) (pe_tup pa_nil)) (pss_cons (ps_set (i := 4) sc_read.nd rfl (Or.inl rfl) pe_int) (pss_cons (ps_while (passes_of rfl) (pt_cmpR op_lt (pv 4) (pe_callB call_lenS (by rfl) T.b_len PySem.boot_len (pa_cons (pv 0) pa_nil)) (nomark _)) (pss_cons (ps_set (i := 5) sc_read.nd rfl (Or.inl rfl) (kx c_key_length (takes_of rfl rfl rfl rfl) hr (by decide) rfl (pa_cons (pv 0) (pa_cons (pv 4) (pa_cons (pv 1) pa_nil))))) (pss_one (ps_if (pt_cmpR op_eq (pv 5) pe_int (nomark _)) (pss_cons (ps_asg (kx c_read_bracket (takes_of rfl rfl rfl rfl) hr (by decide) rfl (pa_cons (pe_ix ix_S (pv 0) (pv 4) (fun _ _ => rfl)) (pa_cons (pv 4) (pa_cons (pv 2) (pa_cons (pv 3) pa_nil))))) (pg_tup rfl (pgs_cons (pg_name (i := 2) sc_read.nd rfl (Or.inl rfl)) (pgs_cons (pg_name (i := 3) sc_read.nd rfl (Or.inl rfl)) pgs_nil)))) (pss_one (ps_set (i := 4) sc_read.nd rfl (Or.inl rfl) (pe_op op_add (pv 4) pe_int)))) (pss_cons (ps_set (i := 3) sc_read.nd rfl (Or.inl rfl) (pe_op op_catW (pv 3) (pe_tup (pa_cons (pe_slice sl_S (pv 0) (po_some (pv 4)) (po_some (pe_op op_add (pv 4) (pv 5)))) pa_nil)))) (pss_one (ps_set (i := 4) sc_read.nd rfl (Or.inl rfl) (pe_op op_add (pv 4) (pv 5))))))))) (pss_cons (ps_if (pt_truth (pv 2) (by intro _; rfl)) (pss_one (ps_raise1 rfl (takes_of rfl rfl rfl rfl) x_InvalidRecording hr (by decide) rfl (pe_callB call_lenS (by rfl) T.b_len PySem.boot_len (pa_cons (pv 0) pa_nil)))) pss_nil) (pss_one (ps_ret (pv 3)))))))), ?_⟩
    refine ⟨(show 0 ≤ sizeLine by decide), fun p0 hp0 => ⟨(show 0 ≤ sizeLine by decide), fun q0 hq0 => ?_⟩⟩
    have s1 := sNew (o := .tup []) (Same.refl _) hp0
    have s2 := sNew (o := .tup []) (Same.refl _) hq0
    refine ⟨fun m σ' H' => ∃ (i : Nat) (gs : List Grp) (its : List It) (p q : Addr) (u : Option V), σ' = [some (.str (S n)), some (.bl ca), some (.ref p), some (.ref q), some (.int (i : Nat)), u] ∧ Same H H' ∧ GrsAt H' p gs ∧ ItsAt H' q its ∧ RdOk i gs its ∧ i ≤ n.length ∧ m = n.length - i ∧ rd ca (n.length - i) i (n.drop i) gs its = read ca n, ⟨n.length, 0, [], [], p0, q0, none, rfl, s1.trans s2, GrsAt.nil (s2 _ _ upd_same), ItsAt.nil upd_same, rdOk0, by omega, rfl, rfl⟩, ?_⟩
    rintro m σ' H' ⟨i, gs, its, p, q, u, rfl, sH, hG, hI, o, hi, rfl, er⟩
    refine ⟨_, rfl, _, rfl, _, rfl, by omega, _, _, rfl, rfl, _, rfl, ?_⟩
    refine if2 (fun h1 => ?_) (fun h1 => ?_)
    · have h1' : (i : Int) < (n.length : Nat) := of_decide_eq_true h1
      have hi' : i < n.length := by omega
      have hc : n[i]? = some n[i] := List.getElem?_eq_getElem hi'
      have hd : n.drop i = n[i] :: n.drop (i + 1) := List.drop_eq_getElem_cons hi'
      generalize n[i] = c at hc hd
      rw [rd_step hi' hc] at er
      refine ⟨fun σ' H' => ∃ (i' : Nat) (gs : List Grp) (its : List It) (p q : Addr) (u : Option V), i < i' ∧ σ' = [some (.str (S n)), some (.bl ca), some (.ref p), some (.ref q), some (.int (i' : Nat)), u] ∧ Same H H' ∧ GrsAt H' p gs ∧ ItsAt H' q its ∧ RdOk i' gs its ∧ i' ≤ n.length ∧ rd ca (n.length - i') i' (n.drop i') gs its = read ca n, ?_, ?_⟩
      · rintro σ2 H2 ⟨i', gs', its', p', q', u', hlt, rfl, a1, a2, a3, a4, a5, a6⟩
        exact ⟨n.length - i', by omega, i', gs', its', p', q', u', rfl, a1, a2, a3, a4, a5, rfl, a6⟩
      refine ⟨_, rfl, _, rfl, _, rfl, n, i, ca, rfl, hn, hi', fun k hk => ?_, fun k hk => ?_⟩
      · rw [hk] at er
        have k2 := kl_two hk
        simp at k2
        refine ⟨_, rfl, rfl, _, rfl, ?_⟩
        rw [dI]
        refine if2 (fun h2 => ?_) (fun h2 => ?_)
        · have h2' : (k : Int) = 0 := of_decide_eq_true h2
          have k0 : k = 0 := by omega
          subst k0
          simp only at er
          refine ⟨_, rfl, _, rfl, _, _, c, rfl, rfl, by omega, by omega, hc, _, rfl, _, rfl, _, rfl, ?_⟩
          have hb : c ∈ brs := by rw [hd] at hk; exact kl_brs hk
          refine ⟨c, i, _, p, q, gs, its, rfl, hb, hG, hI, o, by omega, by have := o.d; omega, fun g2 i2 eb H3 t p2 q2 s3 ht hg2 hi2 => ?_, fun eb => ?_⟩
          · rw [eb] at er
            simp only at er
            refine ⟨t, _, rfl, SqT.of ht, rfl, ?_⟩
            refine ⟨_, _, rfl, _, _, rfl, rfl, ?_⟩
            refine ⟨_, rfl, _, _, rfl, rfl, i + 1, g2, i2, p2, q2, _, by omega, rfl, sH.trans s3, hg2, hi2, brk_ok eb o, by omega, er⟩
          · rw [eb] at er
            intro H3 d s3 hd3
            exact ke i er.symm H3 d (sH.trans s3) hd3
        · have h2' : ¬ (k : Int) = 0 := of_decide_eq_false h2
          obtain ⟨k, rfl⟩ : ∃ k', k = k' + 1 := ⟨k - 1, by omega⟩
          simp only at er
          have kk := hk
          rw [hd] at kk
          obtain ⟨ko, kt⟩ := kl_ok kk
          obtain ⟨ys, hq, hT⟩ := hI
          have hyl := hT.len
          have hzz := o.z
          have hz2 := len_szL its
          refine ⟨_, rfl, _, rfl, _, rfl, _, rfl, _, rfl, _, rfl, _, _, rfl, rfl, _, rfl, _, rfl, by omega, (show (0 : Int) ≤ (i : Nat) by omega), (show (0 : Int) ≤ (i : Nat) + ((k + 1 : Nat) : Int) by omega), (show 1 ≤ sizeLine by decide), fun t1 ht1 => ?_⟩
          have ec : cutL n (some ((i : Nat) : Int)) (some (((i : Nat) : Int) + ((k + 1 : Nat) : Int))) = (n.drop i).take (k + 1) := by
            have e : ((i : Nat) : Int) + ((k + 1 : Nat) : Int) = ((i + (k + 1) : Nat) : Int) := by omega
            rw [e, cutL_mid, List.drop_take]
            congr 1; omega
          have s4 := sNew (o := .tup [.str (S ((n.drop i).take (k + 1)))]) (Same.refl _) ht1
          rw [ec]
          refine ⟨q, t1, ys, _, rfl, rfl, s4 _ _ hq, upd_same, by simp; omega, fun H3 q2 s3 hq2 => ?_⟩
          have sA := s4.trans s3
          refine ⟨_, rfl, _, rfl, _, _, rfl, rfl, ?_⟩
          refine ⟨i + (k + 1), gs, _, p, q2, _, by omega, rfl, sH.trans sA, hG.keep (Tk.same sA), ⟨_, hq2, Trs.app (hT.keep (Tk.same sA)) (Trs.one (show Tr H3 _ (.key ((n.drop i).take (k + 1))) from rfl))⟩, key_ok o ?_ (by omega), by omega, er⟩
          rw [hd]; exact ko
      · rw [hk] at er
        intro H3 d s3 hd3
        exact ke (i + k) er.symm H3 d (sH.trans s3) hd3
    · have h1' : ¬ (i : Int) < (n.length : Nat) := of_decide_eq_false h1
      have hi' : n.drop i = [] := by rw [List.drop_eq_nil_iff]; omega
      rw [hi', rd_nil] at er
      obtain ⟨xs, hp, hg⟩ := id hG
      have hxl := hg.len
      refine ⟨_, rfl, _, .inr (.inl ⟨xs, SqT.of hp, rfl⟩), ?_⟩
      cases gs with
      | nil =>
        have e : xs = [] := hg
        subst e
        refine iff' rfl ⟨_, rfl, ?_⟩
        exact kq its er.symm _ q sH hI
      | cons g r =>
        have hne : (!xs.isEmpty) = true := by
          cases xs with
          | nil => simp at hxl
          | cons => rfl
        rw [hne]
        refine ift rfl ⟨_, rfl, _, rfl, by omega, mk1_end fun d hd => ?_⟩
        have ei : i = n.length := by omega
        subst ei
        exact ke _ er.symm _ d sH hd
abbrev kV (k : List Nat) : V := .str (S k)
def spKeysIn : Nat → Sp
  | 0 => fun _ _ _ _ => False
  | d + 1 => fun vs H Q _ => ∃ (p : Addr) (its : List It), vs = [.ref p] ∧ ItsAt H p its ∧ depL its ≤ d ∧ szL its ≤ 50000 ∧ ∀ H' r, Same H H' → H' r = some (.tup ((keysL its).map kV)) → Q (.ref r) H'
theorem take_snoc {α : Type} {a : List α} {i : Nat} {x : α} (h : a[i]? = some x) : a.take (i + 1) = a.take i ++ [x] := by
  rw [List.take_add_one, h]; rfl
theorem keysL_one (i : It) : keysL [i] = i.keys := by simp [keysL]
theorem repsL_one (i : It) : repsL [i] = i.reps := by simp [repsL]
theorem szL_take (a : List It) (i : Nat) : szL (a.take i) ≤ szL a := by
  have e : szL (a.take i ++ a.drop i) = szL a := by rw [List.take_append_drop]
  rw [szL_app] at e; omega
theorem mem_at {α : Type} {a : List α} {i : Nat} {x : α} (h : a[i]? = some x) : x ∈ a := List.mem_of_getElem? h
abbrev s_keys_in : Stmt := top 30
theorem sc_keys_in : FnScope ["items", "keys", "item"] ["items"] (defScope s_keys_in) := ⟨rfl, rfl, rfl, by decide +kernel, rfl, by decide +kernel, by decide +kernel⟩
theorem ok_keys_in {d : Nat} (T : TX K mg) (c_keys_in : KCal P w K mg base d "keys_in" (spKeysIn d) []) {f : Addr} {fd : FuncData} (F : FunD K "keys_in" "keys_in" (defArgs s_keys_in) (defBody s_keys_in) (defScope s_keys_in) [] [] f fd) : FnOk P w K mg base (CX P w) (d+1) f fd ["items"] (spKeysIn (d+1)) := by
  refine F.ok sc_keys_in (fun vs H Q E h => ?_) (fun cdv A outer s H vs Q E hr h => ?_)
  · obtain ⟨p, its, rfl, _⟩ := h
    rfl
  · obtain ⟨p, its, rfl, ⟨xs, hp, hT⟩, hd, hz, kq⟩ := h
    refine ⟨_, (pss_cons (ps_set (i := 1) sc_keys_in.nd rfl (Or.inl rfl) (pe_tup pa_nil)) (pss_cons (ps_for (passes_of rfl) rfl (pi_tup (pv 0)) (pg_name (i := 2) sc_keys_in.nd rfl (Or.inl rfl)) (pss_one (ps_if (pt_val (pe_callB call_isi (by rfl) T.b_isinstance (by decide +kernel) (pa_cons (pv 2) (pa_cons (pe_bT "str" T.b_str (by rfl) (by decide +kernel)) pa_nil)))) (pss_one (ps_set (i := 1) sc_keys_in.nd rfl (Or.inl rfl) (pe_op op_catW (pv 1) (pe_tup (pa_cons (pv 2) pa_nil))))) (pss_one (ps_if (pt_cmpR op_eqS (pe_ix ix_tup (pv 2) pe_int (fun _ _ => rfl)) (pe_strS [40] (by decide +kernel)) (nomark _)) (pss_one (ps_set (i := 1) sc_keys_in.nd rfl (Or.inl rfl) (pe_op op_catW (pv 1) (kc c_keys_in hr (Nat.le_refl _) rfl (pa_cons (pe_ix ix_tup (pv 2) pe_int (fun _ _ => rfl)) pa_nil))))) (pss_one (ps_set (i := 1) sc_keys_in.nd rfl (Or.inl rfl) (pe_op op_catW (pe_op op_catW (pv 1) (kc c_keys_in hr (Nat.le_refl _) rfl (pa_cons (pe_ix ix_tup (pv 2) pe_int (fun _ _ => rfl)) pa_nil))) (kc c_keys_in hr (Nat.le_refl _) rfl (pa_cons (pe_ix ix_tup (pv 2) pe_int (fun _ _ => rfl)) pa_nil)))))))))) (pss_one (ps_ret (pv 1))))), ?_⟩
    have hxl := hT.len
    refine ⟨(show 0 ≤ sizeLine by decide), fun r0 hr0 => ?_⟩
    refine ⟨_, rfl, p, rfl, ⟨_, SqT.of (sNew (Same.refl H) hr0 _ _ hp)⟩, for_tup (xs := xs) (fun i σ' H' => ∃ (u : Option V) (r : Addr), σ' = [some (.ref p), some (.ref r), u] ∧ Same H H' ∧ H' r = some (.tup ((keysL (its.take i)).map kV))) ⟨none, r0, rfl, sNew (Same.refl H) hr0, upd_same⟩ ?_ ?_ ?_⟩
    · rintro i σ' H' hi ⟨u, r, rfl, sH, hR⟩
      exact SqT.of (sH _ _ hp)
    · rintro i x σ' H' hx ⟨u, r, rfl, sH, hR⟩
      obtain ⟨it, hit, tr⟩ := hT.at hx
      have tr' := Tr.keep (Tk.same sH) it tr
      have hm := mem_at hit
      have hdm := depL_mem hm
      have hzm := szL_mem hm
      have hz1 := keysL_sz (its.take i)
      have hz2 := szL_take its i
      have hk : keysL (its.take (i + 1)) = keysL (its.take i) ++ it.keys := by rw [take_snoc hit, keysL_app, keysL_one]
      have nxt : ∀ H2 r2, Same H' H2 → H2 r2 = some (.tup ((keysL (its.take i)).map kV ++ it.keys.map kV)) → ∃ (u : Option V) (r : Addr), [some (V.ref p), some (.ref r2), some x] = [some (.ref p), some (.ref r), u] ∧ Same H H2 ∧ H2 r = some (.tup ((keysL (its.take (i + 1))).map kV)) := fun H2 r2 s2 h2 => ⟨_, r2, rfl, sH.trans s2, by rw [hk, List.map_append]; exact h2⟩
      cases it with
      | key ks =>
        have e : x = .str (S ks) := tr
        subst e
        refine ⟨_, rfl, _, _, _, _, _, rfl, .ty _, .base (.str _), rfl, _, rfl, ift rfl ?_⟩
        refine ⟨_, rfl, _, rfl, (show 1 ≤ sizeLine by decide), fun t1 ht1 => ?_⟩
        have s3 := sNew (o := .tup [.str (S ks)]) (Same.refl _) ht1
        refine ⟨r, t1, _, _, rfl, rfl, s3 _ _ hR, upd_same, by simp; omega, fun H2 r2 s2 h2 => ?_⟩
        exact nxt H2 r2 (s3.trans s2) h2
      | rep a =>
        obtain ⟨xp, xq, zs, rfl, h1, h2, t2⟩ := tr'
        simp [It.dep] at hdm
        simp [It.sz] at hzm
        obtain ⟨e, rfl⟩ : ∃ e, d = e + 1 := ⟨d - 1, by omega⟩
        refine ⟨_, rfl, _, _, _, _, _, rfl, .ty _, .base (.tup h1), rfl, _, rfl, iff' rfl ?_⟩
        refine ⟨_, rfl, xp, _, 0, _, rfl, rfl, SqT.of h1, rfl, _, _, rfl, rfl, _, rfl, ift rfl ?_⟩
        refine ⟨_, rfl, _, rfl, xp, _, 1, _, rfl, rfl, SqT.of h1, rfl, xq, a, rfl, ⟨zs, h2, t2⟩, by omega, by omega, fun H2 r1 s2 hr1 => ?_⟩
        have hza := keysL_sz a
        refine ⟨r, r1, _, _, rfl, rfl, s2 _ _ hR, hr1, by simp; omega, fun H3 r2 s3 h3 => ?_⟩
        exact nxt H3 r2 (s2.trans s3) h3
      | cho a b =>
        obtain ⟨xp, xq, xr, zs, ws, rfl, h1, h2, h3, t2, t3⟩ := tr'
        simp [It.dep] at hdm
        simp [It.sz] at hzm
        obtain ⟨e, rfl⟩ : ∃ e, d = e + 1 := ⟨d - 1, by omega⟩
        have hza := keysL_sz a
        have hzb := keysL_sz b
        refine ⟨_, rfl, _, _, _, _, _, rfl, .ty _, .base (.tup h1), rfl, _, rfl, iff' rfl ?_⟩
        refine ⟨_, rfl, xp, _, 0, _, rfl, rfl, SqT.of h1, rfl, _, _, rfl, rfl, _, rfl, iff' rfl ?_⟩
        refine ⟨_, rfl, _, rfl, xp, _, 1, _, rfl, rfl, SqT.of h1, rfl, xq, a, rfl, ⟨zs, h2, t2⟩, by omega, by omega, fun H2 r1 s2 hr1 => ?_⟩
        refine ⟨r, r1, _, _, rfl, rfl, s2 _ _ hR, hr1, by simp; omega, fun H3 r2 s3 hr2 => ?_⟩
        have s23 := s2.trans s3
        refine ⟨_, rfl, xp, _, 2, _, rfl, rfl, SqT.of (s23 _ _ h1), rfl, xr, b, rfl, ⟨ws, s23 _ _ h3, t3.keep (Tk.same s23)⟩, by omega, by omega, fun H4 r3 s4 hr3 => ?_⟩
        refine ⟨r2, r3, _, _, rfl, rfl, s4 _ _ hr2, hr3, by simp; omega, fun H5 r4 s5 h5 => ?_⟩
        exact nxt H5 r4 (s23.trans (s4.trans s5)) (by rw [h5]; simp [It.keys])
    · rintro σ' H' ⟨u, r, rfl, sH, hR⟩
      refine ⟨_, rfl, ?_⟩
      rw [hxl, List.take_length] at hR
      exact kq _ r sH hR
def spRepsIn : Nat → Sp
  | 0 => fun _ _ _ _ => False
  | d + 1 => fun vs H Q _ => ∃ (p : Addr) (its : List It), vs = [.ref p] ∧ ItsAt H p its ∧ depL its ≤ d ∧ szL its ≤ 50000 ∧ Q (.int (repsL its : Nat)) H
abbrev s_repeats_in : Stmt := top 31
theorem sc_repeats_in : FnScope ["items", "count", "item"] ["items"] (defScope s_repeats_in) := ⟨rfl, rfl, rfl, by decide +kernel, rfl, by decide +kernel, by decide +kernel⟩
theorem ok_repeats_in {d : Nat} (T : TX K mg) (c_repeats_in : KCal P w K mg base d "repeats_in" (spRepsIn d) []) {f : Addr} {fd : FuncData} (F : FunD K "repeats_in" "repeats_in" (defArgs s_repeats_in) (defBody s_repeats_in) (defScope s_repeats_in) [] [] f fd) : FnOk P w K mg base (CX P w) (d+1) f fd ["items"] (spRepsIn (d+1)) := by
  refine F.ok sc_repeats_in (fun vs H Q E h => ?_) (fun cdv A outer s H vs Q E hr h => ?_)
  · obtain ⟨p, its, rfl, _⟩ := h
    rfl
  · obtain ⟨p, its, rfl, ⟨xs, hp, hT⟩, hd, hz, kq⟩ := h
    refine ⟨_, (pss_cons (ps_set (i := 1) sc_repeats_in.nd rfl (Or.inl rfl) pe_int) (pss_cons (ps_for (passes_of rfl) rfl (pi_tup (pv 0)) (pg_name (i := 2) sc_repeats_in.nd rfl (Or.inl rfl)) (pss_cons (ps_if (pt_val (pe_callB call_isi (by rfl) T.b_isinstance (by decide +kernel) (pa_cons (pv 2) (pa_cons (pe_bT "str" T.b_str (by rfl) (by decide +kernel)) pa_nil)))) (pss_one ps_continue) pss_nil) (pss_one (ps_if (pt_cmpR op_eqS (pe_ix ix_tup (pv 2) pe_int (fun _ _ => rfl)) (pe_strS [40] (by decide +kernel)) (nomark _)) (pss_one (ps_set (i := 1) sc_repeats_in.nd rfl (Or.inl rfl) (pe_op op_add (pe_op op_add (pv 1) pe_int) (kc c_repeats_in hr (Nat.le_refl _) rfl (pa_cons (pe_ix ix_tup (pv 2) pe_int (fun _ _ => rfl)) pa_nil))))) (pss_one (ps_set (i := 1) sc_repeats_in.nd rfl (Or.inl rfl) (pe_op op_add (pe_op op_add (pv 1) (kc c_repeats_in hr (Nat.le_refl _) rfl (pa_cons (pe_ix ix_tup (pv 2) pe_int (fun _ _ => rfl)) pa_nil))) (kc c_repeats_in hr (Nat.le_refl _) rfl (pa_cons (pe_ix ix_tup (pv 2) pe_int (fun _ _ => rfl)) pa_nil))))))))) (pss_one (ps_ret (pv 1))))), ?_⟩
    have hxl := hT.len
    refine ⟨_, rfl, p, rfl, ⟨_, SqT.of hp⟩, for_tup (xs := xs) (fun i σ' H' => ∃ (u : Option V), σ' = [some (.ref p), some (.int (repsL (its.take i) : Nat)), u] ∧ H' = H) ⟨none, rfl, rfl⟩ ?_ ?_ ?_⟩
    · rintro i σ' H' hi ⟨u, rfl, rfl⟩
      exact SqT.of hp
    · rintro i x σ' H' hx ⟨u, rfl, rfl⟩
      obtain ⟨it, hit, tr⟩ := hT.at hx
      have hm := mem_at hit
      have hdm := depL_mem hm
      have hzm := szL_mem hm
      have hk : repsL (its.take (i + 1)) = repsL (its.take i) + it.reps := by rw [take_snoc hit, repsL_app, repsL_one]
      cases it with
      | key ks =>
        have e : x = .str (S ks) := tr
        subst e
        refine ⟨_, rfl, _, _, _, _, _, rfl, .ty _, .base (.str _), rfl, _, rfl, ift rfl ?_⟩
        exact ⟨_, by rw [hk]; rfl, rfl⟩
      | rep a =>
        obtain ⟨xp, xq, zs, rfl, h1, h2, t2⟩ := tr
        simp [It.dep] at hdm
        simp [It.sz] at hzm
        obtain ⟨e, rfl⟩ : ∃ e, d = e + 1 := ⟨d - 1, by omega⟩
        refine ⟨_, rfl, _, _, _, _, _, rfl, .ty _, .base (.tup h1), rfl, _, rfl, iff' rfl ?_⟩
        refine ⟨_, rfl, xp, _, 0, _, rfl, rfl, SqT.of h1, rfl, _, _, rfl, rfl, _, rfl, ift rfl ?_⟩
        refine ⟨_, rfl, _, _, rfl, rfl, _, rfl, xp, _, 1, _, rfl, rfl, SqT.of h1, rfl, xq, a, rfl, ⟨zs, h2, t2⟩, by omega, by omega, _, _, rfl, rfl, ?_⟩
        refine ⟨some (.ref xp), ?_, rfl⟩
        rw [hk]
        have : ((repsL (its.take i) : Nat) : Int) + 1 + (repsL a : Nat) = ((repsL (its.take i) + (It.rep a).reps : Nat) : Int) := by simp [It.reps]; omega
        rw [← this]; rfl
      | cho a b =>
        obtain ⟨xp, xq, xr, zs, ws, rfl, h1, h2, h3, t2, t3⟩ := tr
        simp [It.dep] at hdm
        simp [It.sz] at hzm
        obtain ⟨e, rfl⟩ : ∃ e, d = e + 1 := ⟨d - 1, by omega⟩
        refine ⟨_, rfl, _, _, _, _, _, rfl, .ty _, .base (.tup h1), rfl, _, rfl, iff' rfl ?_⟩
        refine ⟨_, rfl, xp, _, 0, _, rfl, rfl, SqT.of h1, rfl, _, _, rfl, rfl, _, rfl, iff' rfl ?_⟩
        refine ⟨_, rfl, _, rfl, xp, _, 1, _, rfl, rfl, SqT.of h1, rfl, xq, a, rfl, ⟨zs, h2, t2⟩, by omega, by omega, _, _, rfl, rfl, ?_⟩
        refine ⟨_, rfl, xp, _, 2, _, rfl, rfl, SqT.of h1, rfl, xr, b, rfl, ⟨ws, h3, t3⟩, by omega, by omega, _, _, rfl, rfl, ?_⟩
        refine ⟨some (.ref xp), ?_, rfl⟩
        rw [hk]
        have : ((repsL (its.take i) : Nat) : Int) + (repsL a : Nat) + (repsL b : Nat) = ((repsL (its.take i) + (It.cho a b).reps : Nat) : Int) := by simp [It.reps]; omega
        rw [← this]; rfl
    · rintro σ' H' ⟨u, rfl, rfl⟩
      refine ⟨_, rfl, ?_⟩
      rw [hxl, List.take_length]
      exact kq
/-! ### recordings as objects -/
structure TR (K : PySem.W.Frag) : Prop where
  cl : Cls K (ga K "Recording")
  n_leaves : NoAttr K (ga K "Recording") "leaves"
  n_notation : NoAttr K (ga K "Recording") "notation"
/-- the text n is a recording: its items -/
def Good (n : List Nat) (its : List It) : Prop := read false n = .inr its ∧ (keysL its).length ≤ 60 ∧ n.length ≤ 50000
abbrev rcf (lp : Addr) (n : List Nat) : List (Str × V) := [("leaves", .ref lp), ("notation", .str (S n))]
/-- the Recording of the text n -/
def RecAt (K : PySem.W.Frag) (H : Hp) (a : Addr) (n : List Nat) : Prop := ∃ (dx lp : Addr) (its : List It), Good n its ∧ H a = some (.ins (ga K "Recording") dx (rcf lp n)) ∧ H lp = some (.tup ((keysL its).map kV))
theorem RecAt.same {K : PySem.W.Frag} {H H' : Hp} {a : Addr} {n : List Nat} (s : Same H H') (h : RecAt K H a n) : RecAt K H' a n := by
  obtain ⟨dx, lp, its, g, h1, h2⟩ := h
  exact ⟨dx, lp, its, g, s _ _ h1, s _ _ h2⟩
/-- the text n -/
def RecV (K : PySem.W.Frag) (H : Hp) (v : V) (n : List Nat) : Prop := v = .str (S n) ∨ False
theorem RecV.same {K : PySem.W.Frag} {H H' : Hp} {v : V} {n : List Nat} (s : Same H H') (h : RecV K H v n) : RecV K H' v n := h
def Rlim (K : PySem.W.Frag) (n : List Nat) (H : Hp) (E : XK) : Prop := (∀ i, read false n = .inl i → Rz (ga K "InvalidRecording") "place" (.int (i : Nat)) H E) ∧ (∀ its, read false n = .inr its → 60 < (keysL its).length → Rz (ga K "TooManyKeys") "limit" (.int 60) H E)
def spItems (K : PySem.W.Frag) : Sp := fun vs H Q E => ∃ (v : V) (n : List Nat), vs = [v] ∧ RecV K H v n ∧ n.length ≤ 50000 ∧ (∀ its, Good n its → ∀ H' p, Same H H' → ItsAt H' p its → Q (.ref p) H') ∧ Rlim K n H E
abbrev s_items_of : Stmt := top 32
theorem sc_items_of : FnScope ["recording", "items"] ["recording"] (defScope s_items_of) := ⟨rfl, rfl, rfl, by decide +kernel, rfl, by decide +kernel, by decide +kernel⟩
theorem ok_items_of (T : TX K mg) (x_TooManyKeys : Ex1 P w K mg base "TooManyKeys" "limit" (ga K "TooManyKeys")) (c_read : KCal P w K mg base 4 "read" (spRead K) [.bl false]) (c_keys_in : KCal P w K mg base 9 "keys_in" (spKeysIn 9) []) {f : Addr} {fd : FuncData} (F : FunD K "items_of" "items_of" (defArgs s_items_of) (defBody s_items_of) (defScope s_items_of) [] [] f fd) : FnOk P w K mg base (CX P w) 10 f fd ["recording"] (spItems K) := by
  refine F.ok sc_items_of (fun vs H Q E h => ?_) (fun cdv A outer s H vs Q E hr h => ?_)
  · obtain ⟨v, n, rfl, _⟩ := h
    rfl
  · obtain ⟨v, n, rfl, hv, hn, kq, ke, km⟩ := h
    refine ⟨_, (pss_cons (ps_set (i := 1) sc_items_of.nd rfl (Or.inl rfl) (kx c_read (takes_of rfl rfl rfl rfl) hr (by decide) rfl (pa_cons (pe_callTy SkE.call_str_str (by rfl) T.b_str (by decide +kernel) (pa_cons (pv 0) pa_nil)) pa_nil))) (pss_cons (ps_if (pt_cmpR op_gt (pe_callB call_len_seq (by rfl) T.b_len PySem.boot_len (pa_cons (kc c_keys_in hr (by decide) rfl (pa_cons (pv 1) pa_nil)) pa_nil)) (pe_gI T.g_MOST_KEYS rfl) (nomark _)) (pss_one (ps_raise1 rfl (takes_of rfl rfl rfl rfl) x_TooManyKeys hr (by decide) rfl (pe_gI T.g_MOST_KEYS rfl))) pss_nil) (pss_one (ps_ret (pv 1))))), ?_⟩
    obtain rfl : v = .str (S n) := hv.elim id False.elim
    refine ⟨_, rfl, _, rfl, n, false, rfl, hn, fun its er H1 p s1 hI => ?_, fun i er => ke i er⟩
    obtain ⟨ok, dp, sz⟩ := read_ok er
    refine ⟨_, rfl, p, its, rfl, hI, by omega, by omega, fun H2 r s2 hR => ?_⟩
    refine ⟨r, _, rfl, .inr (SqT.of hR), _, _, rfl, rfl, _, rfl, ?_⟩
    refine if2 (fun c => ?_) (fun c => ?_)
    · have c' : (60 : Int) < (((keysL its).map kV).length : Nat) := of_decide_eq_true c
      simp at c'
      refine mk1_end fun d hd => ?_
      exact km its er (by omega) _ d (s1.trans s2) hd
    · have c' : ¬ (60 : Int) < (((keysL its).map kV).length : Nat) := of_decide_eq_false c
      simp at c'
      refine ⟨_, rfl, ?_⟩
      exact kq its ⟨er, by omega, hn⟩ H2 p (s1.trans s2) (hI.keep (Tk.same s2))
theorem Rlim.same {K : PySem.W.Frag} {n : List Nat} {H H1 : Hp} {E : XK} (r : Rlim K n H E) (s : Same H H1) : Rlim K n H1 E := ⟨fun i e H' d s' hd => r.1 i e H' d (s.trans s') hd, fun its e h H' d s' hd => r.2 its e h H' d (s.trans s') hd⟩
theorem Good.lim {K : PySem.W.Frag} {n : List Nat} {its : List It} {H : Hp} {E : XK} (g : Good n its) : Rlim K n H E := ⟨fun i e => (by have := g.1; rw [this] at e; cases e), fun its' e h => (by have := g.1; rw [this] at e; cases e; have := g.2.1; omega)⟩
theorem Good.one {n : List Nat} {a b : List It} (g : Good n a) (h : Good n b) : a = b := by
  have := g.1.symm.trans h.1
  cases this; rfl
def spKeysOf (K : PySem.W.Frag) : Sp := fun vs H Q E => ∃ (v : V) (n : List Nat), vs = [v] ∧ RecV K H v n ∧ n.length ≤ 50000 ∧ (∀ its, Good n its → ∀ H' l, Same H H' → H l = none → H' l = some (.lst ((keysL its).map kV)) → Q (.ref l) H') ∧ Rlim K n H E
def spRepC (K : PySem.W.Frag) : Sp := fun vs H Q E => ∃ (v : V) (n : List Nat), vs = [v] ∧ RecV K H v n ∧ n.length ≤ 50000 ∧ (∀ its, Good n its → ∀ H', Same H H' → Q (.int (repsL its : Nat)) H') ∧ Rlim K n H E
/-- the signs of s in order -/
def asc (s : List Nat) : List Nat := sgn.filter fun c => decide (c ∈ s)
def spAsc : Sp := fun vs H Q _ => ∃ s : List Nat, vs = [.str (S s)] ∧ ∀ H', Same H H' → Q (.str (S (asc s))) H'
theorem filter_take {α : Type} {p : α → Bool} {a : List α} {i : Nat} {x : α} (h : a[i]? = some x) : (a.take (i + 1)).filter p = (a.take i).filter p ++ (if p x then [x] else []) := by
  rw [take_snoc h, List.filter_append]
  simp only [List.filter_cons, List.filter_nil]
theorem flat_one (a : List Nat) : (a.map fun c => [c]).flatten = a := by
  induction a with
  | nil => rfl
  | cons c a ih => simp [ih]
def named (its : List It) : List Nat := asc ((keysL its).flatMap fun k => k.drop 1)
theorem flat_len (ks : List (List Nat)) (h : ∀ k ∈ ks, kOk k) : (ks.map fun k => k.drop 1).flatten.length ≤ ks.length := by
  induction ks with
  | nil => simp
  | cons k ks ih =>
    have h1 := (h k (by simp)).2.1
    have h2 := ih fun k hk => h k (by simp [hk])
    simp at h2 ⊢
    omega
def spNamed (K : PySem.W.Frag) : Sp := fun vs H Q E => ∃ (v : V) (n : List Nat), vs = [v] ∧ RecV K H v n ∧ n.length ≤ 50000 ∧ (∀ its, Good n its → ∀ H', Same H H' → Q (.str (S (named its))) H') ∧ Rlim K n H E
/-! ### keyreel.rows -/
def spLay : Nat → Sp
  | 0 => fun _ _ _ _ => False
  | d + 1 => fun vs H Q _ => ∃ (p op fp : Addr) (its : List It) (nu re : Nat) (on fa : Tg), vs = [.ref p, .int (nu : Nat), .int (re : Nat), .ref op, .ref fp] ∧ ItsAt H p its ∧ depL its ≤ d ∧ okL its ∧ szL its ≤ 20000 ∧ TgAt H op on ∧ TgAt H fp fa ∧
    ∀ H' l, Same H H' → H l = none → RowsAt H' l (layL its nu re on fa) → Q (.ref l) H'
abbrev s_lay : Stmt := top 40
theorem sc_lay : FnScope ["items", "number", "repeat", "onward", "failing", "rows", "place", "item", "count", "after", "middle", "second"] ["items", "number", "repeat", "onward", "failing"] (defScope s_lay) := ⟨rfl, rfl, rfl, by decide +kernel, rfl, by decide +kernel, by decide +kernel⟩
theorem ok_lay {d : Nat} (hd8 : d ≤ 8) (T : TX K mg) (c_lay : KCal P w K mg base (d+9) "lay" (spLay d) []) (c_keys_in : KCal P w K mg base 9 "keys_in" (spKeysIn 9) []) (c_repeats_in : KCal P w K mg base 9 "repeats_in" (spRepsIn 9) []) {f : Addr} {fd : FuncData} (F : FunD K "lay" "lay" (defArgs s_lay) (defBody s_lay) (defScope s_lay) [] [] f fd) : FnOk P w K mg base (CX P w) (d+10) f fd ["items", "number", "repeat", "onward", "failing"] (spLay (d+1)) := by
  refine F.ok sc_lay (fun vs H Q E h => ?_) (fun cdv A outer s H vs Q E hr h => ?_)
  · obtain ⟨p, op, fp, its, nu, re, on, fa, rfl, _⟩ := h
    rfl
  · obtain ⟨p, op, fp, its, nu, re, on, fa, rfl, ⟨xs, hp, hT⟩, hd, hok, hz, ho, hf, kq⟩ := h
    refine ⟨_, (pss_cons (ps_set (i := 5) sc_lay.nd rfl (Or.inl rfl) (pe_lst pa_nil)) (pss_cons (ps_for (passes_of rfl) rfl (pi_enumT (by rfl) T.b_enumerate (pa_cons (pv 0) pa_nil)) (pg_tup rfl (pgs_cons (pg_name (i := 6) sc_lay.nd rfl (Or.inl rfl)) (pgs_cons (pg_name (i := 7) sc_lay.nd rfl (Or.inl rfl)) pgs_nil))) (pss_cons (ps_set (i := 8) sc_lay.nd rfl (Or.inl rfl) (pe_callB call_len_seq (by rfl) T.b_len PySem.boot_len (pa_cons (kc c_keys_in hr (by omega) rfl (pa_cons (pe_tup (pa_cons (pv 7) pa_nil)) pa_nil)) pa_nil))) (pss_cons (ps_set (i := 9) sc_lay.nd rfl (Or.inl rfl) (pe_tup (pa_cons (pe_op op_add (pv 1) (pv 8)) (pa_cons (pe_un un_neg pe_int) pa_nil)))) (C8.pss_cut (ps_if (pt_cmpR op_eq (pv 6) (pe_op op_sub (pe_callB call_len_seq (by rfl) T.b_len PySem.boot_len (pa_cons (pv 0) pa_nil)) pe_int) (nomark _)) (pss_one (ps_set (i := 9) sc_lay.nd rfl (Or.inl rfl) (pv 3))) pss_nil) (C8.pss_cut (ps_if (pt_val (pe_callB call_isi (by rfl) T.b_isinstance (by decide +kernel) (pa_cons (pv 7) (pa_cons (pe_bT "str" T.b_str (by rfl) (by decide +kernel)) pa_nil)))) (pss_one (ps_expr (pe_bm PySem.F.plainAttrs_list PySem.F.slot_list_append PySem.F.type_list_append mt_append (pv 5) (pa_cons (pe_tup (pa_cons (pe_ix ix_S (pv 7) pe_int (fun _ _ => rfl)) (pa_cons (pe_slice sl_S (pv 7) (po_some pe_int) po_none) (pa_cons (pv 9) (pa_cons (pv 4) pa_nil))))) pa_nil)))) (pss_one (ps_if (pt_cmpR op_eqS (pe_ix ix_tup (pv 7) pe_int (fun _ _ => rfl)) (pe_strS [40] (by decide +kernel)) (nomark _)) (pss_one (ps_expr (pe_bm PySem.F.plainAttrs_list PySem.F.slot_list_extend PySem.F.type_list_extend mt_extend (pv 5) (pa_cons (kc c_lay hr (Nat.le_refl _) rfl (pa_cons (pe_ix ix_tup (pv 7) pe_int (fun _ _ => rfl)) (pa_cons (pv 1) (pa_cons (pe_op op_add (pv 2) pe_int) (pa_cons (pe_tup (pa_cons (pv 1) (pa_cons (pv 2) pa_nil))) (pa_cons (pv 9) pa_nil)))))) pa_nil)))) (pss_cons (ps_set (i := 10) sc_lay.nd rfl (Or.inl rfl) (pe_op op_add (pv 1) (pe_callB call_len_seq (by rfl) T.b_len PySem.boot_len (pa_cons (kc c_keys_in hr (by omega) rfl (pa_cons (pe_ix ix_tup (pv 7) pe_int (fun _ _ => rfl)) pa_nil)) pa_nil)))) (pss_cons (ps_set (i := 11) sc_lay.nd rfl (Or.inl rfl) (pe_tup (pa_cons (pv 10) (pa_cons (pe_un un_neg pe_int) pa_nil)))) (C8.pss_cut (ps_if (pt_cmpR (op_eqD hr.units) (pe_ix ix_tup (pv 7) pe_int (fun _ _ => rfl)) (pe_tup pa_nil) (nomark _)) (pss_one (ps_set (i := 11) sc_lay.nd rfl (Or.inl rfl) (pv 9))) pss_nil) (pss_cons (ps_expr (pe_bm PySem.F.plainAttrs_list PySem.F.slot_list_extend PySem.F.type_list_extend mt_extend (pv 5) (pa_cons (kc c_lay hr (Nat.le_refl _) rfl (pa_cons (pe_ix ix_tup (pv 7) pe_int (fun _ _ => rfl)) (pa_cons (pv 1) (pa_cons (pv 2) (pa_cons (pv 9) (pa_cons (pv 11) pa_nil)))))) pa_nil))) (pss_one (ps_expr (pe_bm PySem.F.plainAttrs_list PySem.F.slot_list_extend PySem.F.type_list_extend mt_extend (pv 5) (pa_cons (kc c_lay hr (Nat.le_refl _) rfl (pa_cons (pe_ix ix_tup (pv 7) pe_int (fun _ _ => rfl)) (pa_cons (pv 10) (pa_cons (pe_op op_add (pv 2) (kc c_repeats_in hr (by omega) rfl (pa_cons (pe_ix ix_tup (pv 7) pe_int (fun _ _ => rfl)) pa_nil))) (pa_cons (pv 9) (pa_cons (pv 4) pa_nil)))))) pa_nil))))))))))) (pss_cons (ps_aug (i := 1) sc_lay.nd rfl (Or.inl rfl) (pv 8) ip_add) (pss_one (ps_aug (i := 2) sc_lay.nd rfl (Or.inl rfl) (kc c_repeats_in hr (by omega) rfl (pa_cons (pe_tup (pa_cons (pv 7) pa_nil)) pa_nil)) ip_add)))))))) (pss_one (ps_ret (pv 5))))), ?_⟩
    have hxl := hT.len
    have hlz := len_szL its
    refine ⟨(show 0 ≤ sizeLine by decide), fun D hD => ?_⟩
    refine ⟨_, rfl, p, xs, rfl, SqT.of (sNew (Same.refl H) hD _ _ hp), for_it (walk_enumT (xs := xs)) (fun i σ' H' => ∃ (u6 u7 u8 u9 u10 u11 : Option V), σ' = [some (.ref p), some (.int ((nu + (keysL (its.take i)).length : Nat))), some (.int ((re + repsL (its.take i) : Nat))), some (.ref op), some (.ref fp), some (.ref D), u6, u7, u8, u9, u10, u11] ∧ Same H H' ∧ RowsAt H' D (layT its nu re on fa i)) ?_ ?_ ?_ ?_⟩
    · refine ⟨_, _, _, _, _, _, rfl, sNew (Same.refl H) hD, [], upd_same, ?_⟩
      rw [layT_zero]; exact .nil
    · rintro i σ' H' hi ⟨u6, u7, u8, u9, u10, u11, rfl, sH, _⟩
      exact SqT.of (sH _ _ hp)
    · rintro i v σ' H1 H2 hi ⟨u6, u7, u8, u9, u10, u11, rfl, sH, hR⟩ ⟨tt, x, rfl, htt, rfl, hx⟩
      obtain ⟨it, hit, tr⟩ := hT.at hx
      have s2 := sNew (o := .tup [.int (i : Nat), x]) (Same.refl H1) htt
      have sH2 := sH.trans s2
      refine ⟨tt, _, rfl, SqT.of upd_same, rfl, ?_⟩
      refine ⟨_, _, rfl, _, _, rfl, rfl, ?_⟩
      have hm := mem_at hit
      have hdm := depL_mem hm
      have hzm := szL_mem hm
      have hom := okL_mem hok hm
      have hkz := keys_sz it
      have ecnt : ((keysL [it]).map kV).length = it.keys.length := by rw [List.length_map, keysL_one]
      have hstep := layT_step (nu := nu) (re := re) (on := on) (fa := fa) hit
      generalize eN : nu + (keysL (its.take i)).length = N at hstep
      generalize eR : re + repsL (its.take i) = Re at hstep
      refine ⟨_, rfl, (show 1 ≤ sizeLine by decide), fun t1 ht1 => ?_⟩
      have s3 := sNew (o := .tup [x]) (Same.refl _) ht1
      have sH3 := sH2.trans s3
      refine ⟨t1, [it], rfl, ⟨[x], upd_same, Trs.one (Tr.keep (Tk.same sH3) it tr)⟩, by simp [depL]; omega, by simp [szL]; omega, fun H4 r4 s4 hr4 => ?_⟩
      have sH4 := sH3.trans s4
      refine ⟨r4, _, rfl, .inr (SqT.of hr4), ?_⟩
      rw [ecnt]
      refine ⟨_, rfl, _, rfl, _, _, rfl, rfl, 1, rfl, (show 2 ≤ sizeLine by decide), fun t2 ht2 => ?_⟩
      have s5 := sNew (o := .tup [.int ((N : Int) + (it.keys.length : Nat)), .int (-1)]) (Same.refl _) ht2
      have sH5 := sH4.trans s5
      have hR5 : RowsAt _ D _ := ((hR.same s2).same s3).same (s4.trans s5)
      generalize hH5 : upd H4 t2 _ = H5 at s5 sH5 hR5
      have ht5 : TgAt H5 t2 (N + it.keys.length, -1) := by rw [← hH5]; exact upd_same
      refine ⟨fun σ' H' => ∃ ap, σ' = [some (.ref p), some (.int (N : Nat)), some (.int (Re : Nat)), some (.ref op), some (.ref fp), some (.ref D), some (.int (i : Nat)), some x, some (.int (it.keys.length : Nat)), some (.ref ap), u10, u11] ∧ H' = H5 ∧ TgAt H5 ap (if i + 1 = its.length then on else (N + it.keys.length, -1)), ?_, ?_⟩
      · refine ⟨_, rfl, _, rfl, p, xs, rfl, .inr (SqT.of (sH5 _ _ hp)), _, _, rfl, rfl, rfl, _, rfl, ?_⟩
        rw [dI]
        refine if2 (fun c => ?_) (fun c => ?_)
        · have c' : ((i : Nat) : Int) = (xs.length : Nat) - 1 := of_decide_eq_true c
          exact ⟨_, rfl, op, rfl, rfl, by rw [if_pos (by omega)]; exact sH5 _ _ ho⟩
        · have c' : ¬ ((i : Nat) : Int) = (xs.length : Nat) - 1 := of_decide_eq_false c
          exact ⟨t2, rfl, rfl, by rw [if_neg (by omega)]; exact ht5⟩
      · rintro σ' H' ⟨ap, rfl, rfl, hap⟩
        generalize (if i + 1 = its.length then on else (N + it.keys.length, -1)) = af at hap hstep
        have trH := Tr.keep (Tk.same sH5) it tr
        obtain ⟨ys, hDy, hRy⟩ := hR5
        have hyl := hRy.len
        have hyz : (layT its nu re on fa i).length ≤ 20000 := by
          have e := layL_len its nu re on fa
          have z := keysL_sz its
          unfold layT
          rw [List.length_take]
          omega
        have hfp := sH5 _ _ hf
        have hEx : N + it.keys.length = nu + (keysL (its.take (i + 1))).length := by rw [take_snoc hit, keysL_app, keysL_one, List.length_append]; omega
        have hEr : Re + it.reps = re + repsL (its.take (i + 1)) := by rw [take_snoc hit, repsL_app, repsL_one]; omega
        refine ⟨fun σ' H'' => ∃ (u9 u10 u11 : Option V), σ' = [some (.ref p), some (.int (N : Nat)), some (.int (Re : Nat)), some (.ref op), some (.ref fp), some (.ref D), some (.int (i : Nat)), some x, some (.int (it.keys.length : Nat)), u9, u10, u11] ∧ Same H H'' ∧ RowsAt H'' D (layT its nu re on fa (i + 1)), ?_, ?_⟩
        · cases it with
          | key ks =>
            have e : x = .str (S ks) := trH
            subst e
            obtain ⟨ok1, ok2, ok3⟩ := hom
            refine ⟨_, rfl, _, _, _, _, _, rfl, .ty _, .base (.str _), rfl, _, rfl, ift rfl ?_⟩
            cases ks with
            | nil => exact absurd rfl ok1
            | cons c ks =>
              refine ⟨_, rfl, tyL hDy, _, rfl, _, 0, c, rfl, rfl, by omega, by decide, rfl, _, rfl, 1, rfl, _, rfl, by omega, (by show (0 : Int) ≤ 1; decide), trivial, _, rfl, _, rfl, (show 4 ≤ sizeLine by decide), fun t4 ht4 => ?_⟩
              have ec : cutL (c :: ks) (some 1) none = ks := cutL_from (c :: ks) 1
              rw [ec]
              refine ⟨D, ys, _, rfl, rfl, by rw [upd_ne (ne_of_none hDy ht4)]; exact hDy, ltSz (by omega), ?_⟩
              refine ⟨_, _, _, rfl, sMut (sNew sH5 ht4) hD, ?_⟩
              rw [hstep]
              exact RowsAt.snoc (r := ⟨[c], ks, af, fa⟩) hDy hRy ht4 hap hfp
          | rep a =>
            obtain ⟨xp, xq, zs, rfl, h1, h2, t2⟩ := trH
            simp [It.dep] at hdm
            simp [It.sz] at hzm
            obtain ⟨e, rfl⟩ : ∃ e, d = e + 1 := ⟨d - 1, by omega⟩
            refine ⟨_, rfl, _, _, _, _, _, rfl, .ty _, .base (.tup h1), rfl, _, rfl, iff' rfl ?_⟩
            refine ⟨_, rfl, xp, _, 0, _, rfl, rfl, SqT.of h1, rfl, _, _, rfl, rfl, _, rfl, ift rfl ?_⟩
            refine ⟨_, rfl, tyL hDy, _, rfl, xp, _, 1, _, rfl, rfl, SqT.of h1, rfl, _, rfl, _, rfl, _, _, rfl, rfl, _, rfl, _, rfl, (show 2 ≤ sizeLine by decide), fun t4 ht4 => ?_⟩
            have s6 := sNew (o := .tup [.int (N : Nat), .int (Re : Nat)]) (Same.refl _) ht4
            refine ⟨_, rfl, ?_⟩
            refine ⟨xq, t4, ap, a, N, Re + 1, (N, (Re : Nat)), af, rfl, ⟨zs, s6 _ _ h2, t2.keep (Tk.same s6)⟩, by omega, hom, by omega, upd_same, s6 _ _ hap, fun H7 l s7 hl hRl => ?_⟩
            obtain ⟨ws, hlw, hRw⟩ := hRl
            have s67 := s6.trans s7
            have hwl := hRw.len
            rw [layL_len] at hwl
            have hka := keysL_sz a
            refine ⟨D, l, ys, ws, rfl, rfl, s67 _ _ hDy, hlw, leSz (by omega), ?_⟩
            refine ⟨_, _, _, rfl, sMut (sH5.trans s67) hD, ?_⟩
            rw [hstep]
            exact RowsAt.cat (l := l) (s67 _ _ hDy) (hRy.keep (Tk.same s67)) hRw
          | cho a b =>
            obtain ⟨xp, xq, xr, zs, ws, rfl, h1, h2, h3, t2, t3⟩ := trH
            simp [It.dep] at hdm
            simp [It.sz] at hzm
            obtain ⟨e, rfl⟩ : ∃ e, d = e + 1 := ⟨d - 1, by omega⟩
            have hka := keysL_sz a
            have hkb := keysL_sz b
            refine ⟨_, rfl, _, _, _, _, _, rfl, .ty _, .base (.tup h1), rfl, _, rfl, iff' rfl ?_⟩
            refine ⟨_, rfl, xp, _, 0, _, rfl, rfl, SqT.of h1, rfl, _, _, rfl, rfl, _, rfl, iff' rfl ?_⟩
            refine ⟨_, rfl, _, rfl, xp, _, 1, _, rfl, rfl, SqT.of h1, rfl, xq, a, rfl, ⟨zs, h2, t2⟩, (by show depL a ≤ 8; omega), by omega, fun H6 r6 s6 hr6 => ⟨r6, _, rfl, .inr (SqT.of hr6), _, _, rfl, rfl, ?_⟩⟩
            rw [List.length_map]
            refine ⟨_, rfl, 1, rfl, (show 2 ≤ sizeLine by decide), fun t7 ht7 => ?_⟩
            have s7 := sNew (o := .tup [.int ((N : Int) + ((keysL a).length : Nat)), .int (-1)]) (Same.refl _) ht7
            have s67 := s6.trans s7
            have ht7' : TgAt (upd H6 t7 (.tup [.int ((N : Int) + ((keysL a).length : Nat)), .int (-1)])) t7 (N + (keysL a).length, -1) := upd_same
            generalize upd H6 t7 _ = H7 at s7 s67 ht7'
            refine ⟨fun σ' H'' => ∃ sp, σ' = [some (.ref p), some (.int (N : Nat)), some (.int (Re : Nat)), some (.ref op), some (.ref fp), some (.ref D), some (.int (i : Nat)), some (.ref xp), some (.int ((It.cho a b).keys.length : Nat)), some (.ref ap), some (.int ((N : Int) + ((keysL a).length : Nat))), some (.ref sp)] ∧ Same H' H'' ∧ TgAt H'' sp (if b.isEmpty then af else (N + (keysL a).length, -1)), ?_, ?_⟩
            · refine ⟨_, rfl, xp, _, 2, _, rfl, rfl, SqT.of (s67 _ _ h1), rfl, (show 0 ≤ sizeLine by decide), fun t0 ht0 => ?_⟩
              have s0 := s67.trans (sNew (o := .tup []) (Same.refl _) ht0)
              refine ⟨_, _, .tup (SqT.of (s0 _ _ h3)) ((t3.keep (Tk.same s0)).dp b), .tup (SqT.of upd_same) .nil, sh_its hom.2 (by omega), rfl, _, rfl, ?_⟩
              rw [eqv_nil]
              refine if2 (fun c => ?_) (fun c => ?_)
              · exact ⟨_, rfl, ap, rfl, s0, by rw [if_pos c]; exact s0 _ _ hap⟩
              · exact ⟨t7, rfl, s0, by rw [if_neg (by rw [c]; decide)]; exact sNew (Same.refl _) ht0 _ _ ht7'⟩
            · rintro σ' H8 ⟨sp, rfl, s8, hsp⟩
              refine ⟨_, rfl, tyL (s8 _ _ hDy), _, rfl, xp, _, 1, _, rfl, rfl, SqT.of (s8 _ _ h1), rfl, _, rfl, _, rfl, _, rfl, _, rfl, ?_⟩
              refine ⟨xq, ap, sp, a, N, Re, af, _, rfl, ⟨zs, s8 _ _ h2, t2.keep (Tk.same s8)⟩, by omega, hom.1, by omega, s8 _ _ hap, hsp, fun H9 l s9 hl hRl => ?_⟩
              obtain ⟨vs1, hlv, hRv⟩ := hRl
              have s89 := s8.trans s9
              have hvl := hRv.len
              rw [layL_len] at hvl
              refine ⟨D, l, ys, vs1, rfl, rfl, s89 _ _ hDy, hlv, leSz (by omega), ?_⟩
              have RA := RowsAt.cat (l := l) (s89 _ _ hDy) (hRy.keep (Tk.same s89)) hRv
              have sA : Same H (upd H9 D (.lst (ys ++ vs1))) := sMut (sH5.trans s89) hD
              have kA : Tk H' (upd H9 D (.lst (ys ++ vs1))) := (Tk.same s89).lst (s89 _ _ hDy)
              generalize upd H9 D (.lst (ys ++ vs1)) = HA at RA sA kA
              obtain ⟨ys2, hD2, hR2⟩ := RA
              have hy2 := hR2.len
              rw [List.length_append, layL_len] at hy2
              refine ⟨_, rfl, tyL hD2, _, rfl, xp, _, 2, _, rfl, rfl, SqT.of (kA _ _ h1), rfl, _, rfl, _, rfl, _, rfl, xp, _, 1, _, rfl, rfl, SqT.of (kA _ _ h1), rfl, xq, a, rfl, ⟨zs, kA _ _ h2, t2.keep kA⟩, (by show depL a ≤ 8; omega), by omega, _, _, rfl, rfl, _, rfl, _, rfl, ?_⟩
              refine ⟨xr, ap, fp, b, N + (keysL a).length, Re + repsL a, af, fa, rfl, ⟨ws, kA _ _ h3, t3.keep kA⟩, by omega, hom.2, by omega, kA _ _ hap, sA _ _ hf, fun HB lB sB hlB hRB => ?_⟩
              obtain ⟨vs2, hlv2, hRv2⟩ := hRB
              have hvl2 := hRv2.len
              rw [layL_len] at hvl2
              refine ⟨D, lB, ys2, vs2, rfl, rfl, sB _ _ hD2, hlv2, leSz (by omega), ?_⟩
              refine ⟨_, _, _, rfl, sMut (sA.trans sB) hD, ?_⟩
              have RB := RowsAt.cat (l := lB) (sB _ _ hD2) (hR2.keep (Tk.same sB)) hRv2
              rw [hstep]
              rw [List.append_assoc] at RB
              exact RB
        · rintro σ' H'' ⟨u9, u10, u11, rfl, s6, hR6⟩
          refine ⟨_, rfl, _, rfl, _, _, rfl, rfl, ?_⟩
          refine ⟨_, rfl, _, rfl, (show 1 ≤ sizeLine by decide), fun t8 ht8 => ?_⟩
          have s8 := sNew (o := .tup [x]) (Same.refl _) ht8
          refine ⟨t8, [it], rfl, ⟨[x], upd_same, Trs.one (Tr.keep (Tk.same (s6.trans s8)) it tr)⟩, by simp [depL]; omega, by simp [szL]; omega, _, _, rfl, rfl, ?_⟩
          refine ⟨some (.int (i : Nat)), some x, some (.int (it.keys.length : Nat)), u9, u10, u11, ?_, s6.trans s8, hR6.same s8⟩
          rw [← hEx, ← hEr, repsL_one]
          rfl
    · rintro σ' H' ⟨u6, u7, u8, u9, u10, u11, rfl, sH, hR⟩
      refine ⟨_, rfl, ?_⟩
      rw [hxl, layT_all] at hR
      exact kq H' D sH hD hR
def spLaid (K : PySem.W.Frag) : Sp := fun vs H Q E => ∃ (v : V) (n : List Nat), vs = [v] ∧ RecV K H v n ∧ n.length ≤ 20000 ∧ (∀ its, Good n its → ∀ H' l, Same H H' → H l = none → RowsAt H' l (rowsM its) → Q (.ref l) H') ∧ Rlim K n H E
abbrev s_laid_rows : Stmt := top 41
theorem sc_laid_rows : FnScope ["recording", "items", "count"] ["recording"] (defScope s_laid_rows) := ⟨rfl, rfl, rfl, by decide +kernel, rfl, by decide +kernel, by decide +kernel⟩
theorem ok_laid_rows (T : TX K mg) (c_items_of : KCal P w K mg base 10 "items_of" (spItems K) []) (c_keys_in : KCal P w K mg base 9 "keys_in" (spKeysIn 9) []) (c_lay : KCal P w K mg base 18 "lay" (spLay 9) []) {f : Addr} {fd : FuncData} (F : FunD K "laid_rows" "laid_rows" (defArgs s_laid_rows) (defBody s_laid_rows) (defScope s_laid_rows) [] [] f fd) : FnOk P w K mg base (CX P w) 19 f fd ["recording"] (spLaid K) := by
  refine F.ok sc_laid_rows (fun vs H Q E h => ?_) (fun cdv A outer s H vs Q E hr h => ?_)
  · obtain ⟨v, n, rfl, _⟩ := h
    rfl
  · obtain ⟨v, n, rfl, hv, hn, kq, kl⟩ := h
    refine ⟨_, (pss_cons (ps_set (i := 1) sc_laid_rows.nd rfl (Or.inl rfl) (kx c_items_of (takes_of rfl rfl rfl rfl) hr (by decide) rfl (pa_cons (pv 0) pa_nil))) (pss_cons (ps_set (i := 2) sc_laid_rows.nd rfl (Or.inl rfl) (pe_callB call_len_seq (by rfl) T.b_len PySem.boot_len (pa_cons (kc c_keys_in hr (by decide) rfl (pa_cons (pv 1) pa_nil)) pa_nil))) (pss_one (ps_ret (kc c_lay hr (by decide) rfl (pa_cons (pv 1) (pa_cons pe_int (pa_cons pe_int (pa_cons (pe_tup (pa_cons (pv 2) (pa_cons (pe_un un_neg pe_int) pa_nil))) (pa_cons (pe_tup (pa_cons (pe_op op_add (pv 2) pe_int) (pa_cons (pe_un un_neg pe_int) pa_nil))) pa_nil)))))))))), ?_⟩
    refine ⟨_, rfl, v, n, rfl, hv, by omega, fun its g H1 p s1 hI => ?_, kl⟩
    obtain ⟨ok, dp, sz⟩ := read_ok g.1
    refine ⟨_, rfl, p, its, rfl, hI, by omega, by omega, fun H2 r s2 hR => ?_⟩
    refine ⟨r, _, rfl, .inr (SqT.of hR), ?_⟩
    rw [List.length_map]
    refine ⟨_, rfl, _, rfl, 1, rfl, (show 2 ≤ sizeLine by decide), fun t1 ht1 => ?_⟩
    refine ⟨_, rfl, _, _, rfl, rfl, 1, rfl, (show 2 ≤ sizeLine by decide), fun t2 ht2 => ?_⟩
    have s3 := sNew (o := .tup [.int ((keysL its).length : Nat), .int (-1)]) (Same.refl _) ht1
    have s4 := sNew (o := .tup [.int (((keysL its).length : Nat) + 1), .int (-1)]) (Same.refl _) ht2
    have s34 := s3.trans s4
    have sA := (s1.trans s2).trans s34
    refine ⟨p, t1, t2, its, 0, 0, ((keysL its).length, -1), ((keysL its).length + 1, -1), rfl, hI.keep (Tk.same (s2.trans s34)), by omega, ok, by omega, s4 _ _ upd_same, upd_same, fun H3 l s5 hl hRl => ?_⟩
    exact kq its g H3 l (sA.trans s5) (sA.free hl) hRl
/-- a row as rows_of tells it -/
def PRowV (H : Hp) (v : V) (r : Row) : Prop := ∃ p : Addr, v = .ref p ∧ H p = some (.tup [tV r.k, tV r.s, .int (r.o.1 : Nat), .int (r.f.1 : Nat)])
theorem PRowV.keep {H H' : Hp} {v : V} {r : Row} (k : Tk H H') (h : PRowV H v r) : PRowV H' v r := by
  obtain ⟨p, e, h1⟩ := h
  exact ⟨p, e, k _ _ h1⟩
def PRowsAt (H : Hp) (p : Addr) (rs : List Row) : Prop := ∃ xs, H p = some (.lst xs) ∧ Paired (PRowV H) xs rs
theorem PRowsAt.same {H H' : Hp} {p : Addr} {rs : List Row} (s : Same H H') (h : PRowsAt H p rs) : PRowsAt H' p rs := by
  obtain ⟨xs, e, h⟩ := h
  exact ⟨xs, s _ _ e, Paired.mapP h fun _ _ z => z.keep (Tk.same s)⟩
theorem paired_at {α β : Type} {R : α → β → Prop} {a : List α} {b : List β} (h : Paired R a b) : ∀ {i : Nat} {x : α}, a[i]? = some x → ∃ y, b[i]? = some y ∧ R x y := by
  induction h with
  | nil => intro i x e; simp at e
  | cons r _ ih =>
    intro i x e
    cases i with
    | zero => simp at e; subst e; exact ⟨_, rfl, r⟩
    | succ i =>
      obtain ⟨y, h1, h2⟩ := ih (i := i) (x := x) (by simpa using e)
      exact ⟨y, by simpa using h1, h2⟩
def spRowsOf (K : PySem.W.Frag) : Sp := fun vs H Q E => ∃ (v : V) (n : List Nat), vs = [v] ∧ RecV K H v n ∧ n.length ≤ 20000 ∧ (∀ its, Good n its → ∀ H' l, Same H H' → H l = none → PRowsAt H' l (rowsM its) → Q (.ref l) H') ∧ Rlim K n H E
/-! ### spans, repeats_of -/
def SpsAt (H : Hp) (l : Addr) (ss : List Spn) : Prop := ∃ xs, H l = some (.lst xs) ∧ SpsV H xs ss
def spSpans : Nat → Sp
  | 0 => fun _ _ _ _ => False
  | d + 1 => fun vs H Q _ => ∃ (p : Addr) (its : List It) (nu : Nat), vs = [.ref p, .int (nu : Nat)] ∧ ItsAt H p its ∧ depL its ≤ d ∧ szL its ≤ 20000 ∧ ∀ H' l, Same H H' → H l = none → SpsAt H' l (spansL its nu) → Q (.ref l) H'
theorem repsL_take (a : List It) (i : Nat) : repsL (a.take i) ≤ repsL a := by
  have e : repsL (a.take i ++ a.drop i) = repsL a := by rw [List.take_append_drop]
  rw [repsL_app] at e; omega
abbrev s_spans : Stmt := top 42
theorem sc_spans : FnScope ["items", "number", "found", "item", "count"] ["items", "number"] (defScope s_spans) := ⟨rfl, rfl, rfl, by decide +kernel, rfl, by decide +kernel, by decide +kernel⟩
theorem ok_spans {d : Nat} (hd8 : d ≤ 8) (T : TX K mg) (c_spans : KCal P w K mg base (d+9) "spans" (spSpans d) []) (c_keys_in : KCal P w K mg base 9 "keys_in" (spKeysIn 9) []) {f : Addr} {fd : FuncData} (F : FunD K "spans" "spans" (defArgs s_spans) (defBody s_spans) (defScope s_spans) [] [] f fd) : FnOk P w K mg base (CX P w) (d+10) f fd ["items", "number"] (spSpans (d+1)) := by
  refine F.ok sc_spans (fun vs H Q E h => ?_) (fun cdv A outer s H vs Q E hr h => ?_)
  · obtain ⟨p, its, nu, rfl, _⟩ := h
    rfl
  · obtain ⟨p, its, nu, rfl, ⟨xs, hp, hT⟩, hd, hz, kq⟩ := h
    refine ⟨_, (pss_cons (ps_set (i := 2) sc_spans.nd rfl (Or.inl rfl) (pe_lst pa_nil)) (pss_cons (ps_for (passes_of rfl) rfl (pi_tup (pv 0)) (pg_name (i := 3) sc_spans.nd rfl (Or.inl rfl)) (pss_cons (ps_set (i := 4) sc_spans.nd rfl (Or.inl rfl) (pe_callB call_len_seq (by rfl) T.b_len PySem.boot_len (pa_cons (kc c_keys_in hr (by omega) rfl (pa_cons (pe_tup (pa_cons (pv 3) pa_nil)) pa_nil)) pa_nil))) (C8.pss_cut (ps_if (pt_not (pt_val (pe_callB call_isi (by rfl) T.b_isinstance (by decide +kernel) (pa_cons (pv 3) (pa_cons (pe_bT "str" T.b_str (by rfl) (by decide +kernel)) pa_nil))))) (pss_one (ps_if (pt_cmpR op_eqS (pe_ix ix_tup (pv 3) pe_int (fun _ _ => rfl)) (pe_strS [40] (by decide +kernel)) (nomark _)) (pss_cons (ps_expr (pe_bm PySem.F.plainAttrs_list PySem.F.slot_list_append PySem.F.type_list_append mt_append (pv 2) (pa_cons (pe_tup (pa_cons (pv 1) (pa_cons (pe_op op_sub (pe_op op_add (pv 1) (pv 4)) pe_int) pa_nil))) pa_nil))) (pss_one (ps_expr (pe_bm PySem.F.plainAttrs_list PySem.F.slot_list_extend PySem.F.type_list_extend mt_extend (pv 2) (pa_cons (kc c_spans hr (Nat.le_refl _) rfl (pa_cons (pe_ix ix_tup (pv 3) pe_int (fun _ _ => rfl)) (pa_cons (pv 1) pa_nil))) pa_nil))))) (pss_cons (ps_expr (pe_bm PySem.F.plainAttrs_list PySem.F.slot_list_extend PySem.F.type_list_extend mt_extend (pv 2) (pa_cons (kc c_spans hr (Nat.le_refl _) rfl (pa_cons (pe_ix ix_tup (pv 3) pe_int (fun _ _ => rfl)) (pa_cons (pv 1) pa_nil))) pa_nil))) (pss_one (ps_expr (pe_bm PySem.F.plainAttrs_list PySem.F.slot_list_extend PySem.F.type_list_extend mt_extend (pv 2) (pa_cons (kc c_spans hr (Nat.le_refl _) rfl (pa_cons (pe_ix ix_tup (pv 3) pe_int (fun _ _ => rfl)) (pa_cons (pe_op op_add (pv 1) (pe_callB call_len_seq (by rfl) T.b_len PySem.boot_len (pa_cons (kc c_keys_in hr (by omega) rfl (pa_cons (pe_ix ix_tup (pv 3) pe_int (fun _ _ => rfl)) pa_nil)) pa_nil))) pa_nil))) pa_nil))))))) pss_nil) (pss_one (ps_aug (i := 1) sc_spans.nd rfl (Or.inl rfl) (pv 4) ip_add))))) (pss_one (ps_ret (pv 2))))), ?_⟩
    have hxl := hT.len
    have hlz := len_szL its
    have hrz := repsL_sz its
    and_intros
    intro D hD
    and_intros
    refine for_tup (xs := xs) (fun i σ' H' => ∃ (u3 u4 : Option V), σ' = [some (.ref p), some (.int ((nu + (keysL (its.take i)).length : Nat))), some (.ref D), u3, u4] ∧ Same H H' ∧ SpsAt H' D (spansL (its.take i) nu)) ?_ ?_ ?_ ?_
    · exact ⟨_, _, rfl, by bv_omega, [], upd_same, .nil⟩
    · rintro i σ' H' hi ⟨u3, u4, rfl, sH, _⟩
      exact SqT.of (sH _ _ hp)
    · rintro i x σ' H1 hx ⟨u3, u4, rfl, sH, ys, hDy, hSy⟩
      obtain ⟨it, hit, tr⟩ := hT.at hx
      have hm := mem_at hit
      have hdm := depL_mem hm
      have hzm := szL_mem hm
      have hkz := keys_sz it
      have hyl : ys.length ≤ 20000 := by
        have := Paired.length hSy
        rw [spansL_len] at this
        have := repsL_take its i
        omega
      have hstep : spansL (its.take (i + 1)) nu = spansL (its.take i) nu ++ it.spans (nu + (keysL (its.take i)).length) := by rw [take_snoc hit, spansL_app, spansL_one]
      have hEx : nu + (keysL (its.take i)).length + it.keys.length = nu + (keysL (its.take (i + 1))).length := by rw [take_snoc hit, keysL_app, keysL_one, List.length_append]; omega
      generalize eN : nu + (keysL (its.take i)).length = N at hstep hEx
      have hN : depL [it] ≤ 8 ∧ szL [it] ≤ 50000 := by simp [depL, szL]; omega
      obtain ⟨hN1, hN2⟩ := hN
      and_intros
      intro t1 ht1
      and_intros
      intro H3 r3 s3 hr3
      and_intros
      rw [show (((keysL [it]).map kV).length) = it.keys.length by rw [List.length_map, keysL_one]]
      have hD3 : H3 D = some (.lst ys) := by bv_omega
      have hS3 : SpsV H3 ys (spansL (its.take i) nu) := hSy.keep (by bv_omega)
      have trH : Tr H3 x it := by bv_omega
      have sH3 : Same H H3 := by bv_omega
      clear hDy hSy s3 ht1 tr hp hT sH
      refine ⟨fun σ' H' => σ' = [some (.ref p), some (.int (N : Nat)), some (.ref D), some x, some (.int (it.keys.length : Nat))] ∧ Same H H' ∧ SpsAt H' D (spansL (its.take (i + 1)) nu), ?_, ?_⟩
      · rw [hstep]
        cases it with
        | key ks =>
          obtain rfl : x = .str (S ks) := trH
          and_intros
          rw [show (It.key ks).spans N = [] from rfl, List.append_nil]
          exact hS3
        | rep a =>
          obtain ⟨xp, xq, zs, rfl, h1, h2, t2⟩ := trH
          have ia : ItsAt H3 xq a := ⟨zs, h2, t2⟩
          simp [It.dep] at hdm
          simp [It.sz] at hzm
          have hra := repsL_sz a
          obtain ⟨e, rfl⟩ : ∃ e, d = e + 1 := ⟨d - 1, by omega⟩
          and_intros
          intro t4 ht4
          and_intros
          rintro H5 l5 s5 hl5 ⟨zs5, e5, S5⟩
          have hz5 : zs5.length ≤ 20000 := by
            have := Paired.length S5
            rw [spansL_len] at this
            omega
          and_intros
          show SpsV _ _ _
          have e1 : (It.rep a).spans N = [(N, (N : Int) + ((keysL a).length : Nat) - 1)] ++ spansL a N := rfl
          rw [e1, ← List.append_assoc]
          have k5 : Tk H3 H5 := by bv_omega
          refine SpsV.app (SpsV.app (hS3.keep ?_) (.cons ⟨t4, rfl, ?_⟩ .nil)) (S5.keep ?_)
          · bv_omega
          · bv_omega
          · bv_omega
        | cho a b =>
          obtain ⟨xp, xq, xr, zs, ws, rfl, h1, h2, h3, t2, t3⟩ := trH
          have ia : ItsAt H3 xq a := ⟨zs, h2, t2⟩
          have ib : ItsAt H3 xr b := ⟨ws, h3, t3⟩
          simp [It.dep] at hdm
          simp [It.sz] at hzm
          have hra := repsL_sz a
          have hrb := repsL_sz b
          have hda : depL a ≤ 8 := by omega
          have hza : szL a ≤ 50000 := by omega
          obtain ⟨e, rfl⟩ : ∃ e, d = e + 1 := ⟨d - 1, by omega⟩
          and_intros
          rintro H5 l5 s5 hl5 ⟨zs5, e5, S5⟩
          have hz5 : zs5.length ≤ 20000 := by
            have := Paired.length S5
            rw [spansL_len] at this
            omega
          have k5 : Tk H3 H5 := by bv_omega
          and_intros
          rintro H6 r6 s6 hr6
          have hD6 : H6 D = some (.lst (ys ++ zs5)) := by bv_omega
          have k6 : Tk H3 H6 := by bv_omega
          have k56 : Tk H5 H6 := by bv_omega
          and_intros
          rintro H7 l7 s7 hl7 ⟨zs7, e7, S7⟩
          rw [List.length_map] at S7
          have hz7 : zs7.length ≤ 20000 := by
            have := Paired.length S7
            rw [spansL_len] at this
            omega
          and_intros
          show SpsV _ _ _
          rw [show (It.cho a b).spans N = spansL a N ++ spansL b (N + (keysL a).length) from rfl, ← List.append_assoc]
          exact SpsV.app (SpsV.app (hS3.keep (by bv_omega)) (S5.keep (by bv_omega))) (S7.keep (by bv_omega))
      · rintro σ' H' ⟨rfl, s6, hR6⟩
        and_intros
        exact ⟨_, _, by rw [← hEx]; rfl, s6, hR6⟩
    · rintro σ' H' ⟨u3, u4, rfl, sH, hR⟩
      and_intros
      rw [hxl, List.take_length] at hR
      exact kq _ _ sH hD hR
def spRepsOf (K : PySem.W.Frag) : Sp := fun vs H Q E => ∃ (v : V) (n : List Nat), vs = [v] ∧ RecV K H v n ∧ n.length ≤ 20000 ∧ (∀ its, Good n its → ∀ H' l, Same H H' → H l = none → RpsAt H' l (rpsM its) → Q (.ref l) H') ∧ Rlim K n H E
abbrev s_repeats_of : Stmt := top 43
theorem sc_repeats_of : FnScope ["recording", "rows", "found", "repeat", "span", "exits", "number", "_", "onward", "failing"] ["recording"] (defScope s_repeats_of) := ⟨rfl, rfl, rfl, by decide +kernel, rfl, by decide +kernel, by decide +kernel⟩
theorem ok_repeats_of (T : TX K mg) (c_laid_rows : KCal P w K mg base 19 "laid_rows" (spLaid K) []) (c_items_of : KCal P w K mg base 10 "items_of" (spItems K) []) (c_spans : KCal P w K mg base 18 "spans" (spSpans 9) []) {f : Addr} {fd : FuncData} (F : FunD K "repeats_of" "repeats_of" (defArgs s_repeats_of) (defBody s_repeats_of) (defScope s_repeats_of) [] [] f fd) : FnOk P w K mg base (CX P w) 20 f fd ["recording"] (spRepsOf K) := by
  refine F.ok sc_repeats_of (fun vs H Q E h => ?_) (fun cdv A outer s H vs Q E hr h => ?_)
  · obtain ⟨v, n, rfl, _⟩ := h
    rfl
  · obtain ⟨v, n, rfl, hv, hn, kq, kl⟩ := h
    refine ⟨_, (pss_cons (ps_set (i := 1) sc_repeats_of.nd rfl (Or.inl rfl) (kx c_laid_rows (takes_of rfl rfl rfl rfl) hr (by decide) rfl (pa_cons (pv 0) pa_nil))) (pss_cons (ps_set (i := 2) sc_repeats_of.nd rfl (Or.inl rfl) (pe_lst pa_nil)) (pss_cons (ps_for (passes_of rfl) rfl (pi_enum (by rfl) T.b_enumerate (pa_cons (kc c_spans hr (by decide) rfl (pa_cons (kx c_items_of (takes_of rfl rfl rfl rfl) hr (by decide) rfl (pa_cons (pv 0) pa_nil)) (pa_cons pe_int pa_nil))) pa_nil)) (pg_tup rfl (pgs_cons (pg_name (i := 3) sc_repeats_of.nd rfl (Or.inl rfl)) (pgs_cons (pg_name (i := 4) sc_repeats_of.nd rfl (Or.inl rfl)) pgs_nil))) (pss_cons (ps_set (i := 5) sc_repeats_of.nd rfl (Or.inl rfl) (pe_lst pa_nil)) (pss_cons (ps_for (passes_of rfl) rfl (pi_enum (by rfl) T.b_enumerate (pa_cons (pv 1) pa_nil)) (pg_tup rfl (pgs_cons (pg_name (i := 6) sc_repeats_of.nd rfl (Or.inl rfl)) (pgs_cons (pg_tup rfl (pgs_cons (pg_name (i := 7) sc_repeats_of.nd rfl (Or.inl rfl)) (pgs_cons (pg_name (i := 7) sc_repeats_of.nd rfl (Or.inl rfl)) (pgs_cons (pg_name (i := 8) sc_repeats_of.nd rfl (Or.inl rfl)) (pgs_cons (pg_name (i := 9) sc_repeats_of.nd rfl (Or.inl rfl)) pgs_nil))))) pgs_nil))) (C8.pss_cut (ps_if (pt_cmpR op_eq (pe_ix ix_tup (pv 9) pe_int (fun _ _ => rfl)) (pv 3) (nomark _)) (pss_one (ps_expr (pe_bm PySem.F.plainAttrs_list PySem.F.slot_list_append PySem.F.type_list_append mt_append (pv 5) (pa_cons (pe_tup (pa_cons (pv 6) (pa_cons pe_bl pa_nil))) pa_nil)))) pss_nil) (pss_one (ps_if (pt_cmpR op_eq (pe_ix ix_tup (pv 8) pe_int (fun _ _ => rfl)) (pv 3) (nomark _)) (pss_one (ps_expr (pe_bm PySem.F.plainAttrs_list PySem.F.slot_list_append PySem.F.type_list_append mt_append (pv 5) (pa_cons (pe_tup (pa_cons (pv 6) (pa_cons pe_bl pa_nil))) pa_nil)))) pss_nil)))) (pss_one (ps_expr (pe_bm PySem.F.plainAttrs_list PySem.F.slot_list_append PySem.F.type_list_append mt_append (pv 2) (pa_cons (pe_tup (pa_cons (pe_ix ix_tup (pv 4) pe_int (fun _ _ => rfl)) (pa_cons (pe_ix ix_tup (pv 4) pe_int (fun _ _ => rfl)) (pa_cons (pe_callTy call_tuple_of (by rfl) T.b_tuple (by decide +kernel) (pa_cons (pv 5) pa_nil)) pa_nil)))) pa_nil))))))) (pss_one (ps_ret (pv 2)))))), ?_⟩
    and_intros
    refine ⟨fun its g H1 l1 s1 hl1 R1 => ?_, kl⟩
    obtain ⟨rxs, er, RV⟩ := R1
    obtain ⟨g1, g2, g3⟩ := read_ok g.1
    have hrl : rxs.length ≤ 60 := by
      rw [RV.len, rowsM, layL_len]; exact g.2.1
    have hrp := repsL_sz its
    and_intros
    intro D hD
    have hv2 : RecV K (upd H1 D (.lst [])) v n := hv.same (by bv_omega)
    and_intros
    refine ⟨fun its' g' H3 p3 s3 I3 => ?_, g.lim⟩
    obtain rfl := g.one g'
    and_intros
    rintro H4 l4 s4 hl4 ⟨sxs, e4, S4⟩
    have hsl : sxs.length = repsL its := by rw [Paired.length S4, spansL_len]
    have e1 : H4 l1 = some (.lst rxs) := by bv_omega
    have RV4 : RowsV H4 rxs (rowsM its) := RV.keep (by bv_omega)
    have hD4 : H4 D = some (.lst []) := by bv_omega
    have nl1 : l1 ≠ D := by bv_omega
    have nl4 : l4 ≠ D := by bv_omega
    have s04 : Same H H4 := by bv_omega
    have hDn : H D = none := s1.free hD
    clear hv2 I3 s3 s4 hl4 hD s1 er RV
    and_intros
    refine for_it (walk_enum (xs := sxs)) (fun i σ' H' => ∃ (u3 u4 u5 u6 u7 u8 u9 : Option V), σ' = [some v, some (.ref l1), some (.ref D), u3, u4, u5, u6, u7, u8, u9] ∧ Kp [D] H4 H' ∧ ∃ fxs, H' D = some (.lst fxs) ∧ Paired (RpV H') fxs ((rpsM its).take i)) ?_ ?_ ?_ ?_
    · exact ⟨_, _, _, _, _, _, _, rfl, Kp.refl, [], hD4, .nil⟩
    · rintro i σ' H' hi ⟨u3, u4, u5, u6, u7, u8, u9, rfl, k, _⟩
      exact SqL.of (by bv_omega)
    · rintro i w σ' H5 H6 hi ⟨u3, u4, u5, u6, u7, u8, u9, rfl, k5, fxs, hD5, P5⟩ ⟨tt, x, y, rfl, htt, rfl, ex, ey⟩
      obtain ⟨sp, hsp, q, rfl, hq⟩ := paired_at S4 ey
      cases ex
      and_intros
      intro X hX
      have hq5 : H5 q = some (.tup [.int (sp.1 : Nat), .int sp.2]) := k5 q _ (by simp; bv_omega) hq
      have k45 : Tk H4 H5 := Tk.kpl k5 hD4 Tk.refl
      have e15 : H5 l1 = some (.lst rxs) := by bv_omega
      obtain ⟨H7, eH7⟩ : ∃ H7, H7 = upd (upd H5 tt (.tup [.int (i : Nat), .ref q])) X (.lst []) := ⟨_, rfl⟩
      have s57 : Same H5 H7 := by rw [eH7]; bv_omega
      have hX7 : H7 X = some (.lst []) := by rw [eH7]; bv_omega
      have nX1 : l1 ≠ X := by bv_omega
      have nXD : D ≠ X := by bv_omega
      have nXq : q ≠ X := by bv_omega
      have hX5 : H5 X = none := (updNone hX).2
      have k57 : Tk H4 H7 := by bv_omega
      have RV7 : RowsV H7 rxs (rowsM its) := RV4.keep k57
      have e17 : H7 l1 = some (.lst rxs) := by bv_omega
      rw [← eH7]
      clear eH7 hX
      and_intros
      refine for_it (walk_enum (xs := rxs)) (fun j σ' H' => ∃ (u6 u7 u8 u9 : Option V), σ' = [some v, some (.ref l1), some (.ref D), some (.int (i : Nat)), some (.ref q), some (.ref X), u6, u7, u8, u9] ∧ Kp [X] H7 H' ∧ ∃ exs, H' X = some (.lst exs) ∧ ExsV H' exs (exitsM ((rowsM its).take j) (i : Nat) 0)) ?_ ?_ ?_ ?_
      · exact ⟨_, _, _, _, rfl, Kp.refl, [], hX7, .nil⟩
      · rintro j σ' H' hj ⟨u6, u7, u8, u9, rfl, k, _⟩
        exact SqL.of (by bv_omega)
      · rintro j w σ' H8 H9 hj ⟨u6, u7, u8, u9, rfl, k8, exs, hX8, E8⟩ ⟨t8, x, y, rfl, ht8, rfl, ex, ey8⟩
        obtain ⟨row, hrow, p', o, fp, rfl, r1, r2, r3⟩ := paired_at RV7 ey8
        have r2' : H7 o = some (.tup [.int (row.o.1 : Nat), .int row.o.2]) := r2
        have r3' : H7 fp = some (.tup [.int (row.f.1 : Nat), .int row.f.2]) := r3
        have k78 : Tk H7 H8 := Tk.kpl k8 hX7 Tk.refl
        have r1 := k78 _ _ r1
        have r2 := k78 _ _ r2'
        have r3 := k78 _ _ r3'
        clear r2' r3'
        cases ex
        have hel : exs.length ≤ 120 := by
          have a := Paired.length E8
          have b := exitsM_len (i : Nat) ((rowsM its).take j) 0
          have c : ((rowsM its).take j).length ≤ rxs.length := by rw [RV7.len, List.length_take]; omega
          omega
        and_intros
        refine ⟨fun σ' H' => σ' = [some v, some (.ref l1), some (.ref D), some (.int (i : Nat)), some (.ref q), some (.ref X), some (.int (j : Nat)), some (tV row.s), some (.ref o), some (.ref fp)] ∧ Kp [X] H8 H' ∧ Tk H8 H' ∧ ∃ exs, H' X = some (.lst exs) ∧ exs.length ≤ 121 ∧ ExsV H' exs (exitsM ((rowsM its).take j) (i : Nat) 0 ++ if row.f.2 = (i : Nat) then [(j, false)] else []), ?_, ?_⟩
        · and_intros
          rw [dI]
          refine if2 (fun c => ?_) (fun c => ?_)
          · have c' := of_decide_eq_true c
            and_intros
            intro t9 ht9
            and_intros
            rw [if_pos c']
            exact (E8.keep (by bv_omega)).app (.cons ⟨t9, rfl, by bv_omega⟩ .nil)
          · have c' := of_decide_eq_false c
            rw [if_neg c', List.append_nil]
            refine ⟨rfl, by bv_omega, by bv_omega, exs, by bv_omega, by omega, E8.keep (by bv_omega)⟩
        · rintro σ' H10 ⟨rfl, k10, t10, exs2, hX10, hel2, E10⟩
          have r2 := t10 _ _ r2
          and_intros
          rw [dI]
          have hst := exitsM_snoc (r := (i : Nat)) hrow
          have hkk : Kp [X] H7 H10 := k8.trans k10
          refine if2 (fun c => ?_) (fun c => ?_)
          · have c' := of_decide_eq_true c
            and_intros
            intro t9 ht9
            and_intros
            refine ⟨_, _, _, _, rfl, by bv_omega, _, upd_same, ?_⟩
            rw [hst, exF, if_pos c', ← List.append_assoc]
            exact (E10.keep (by bv_omega)).app (.cons ⟨t9, rfl, by bv_omega⟩ .nil)
          · have c' := of_decide_eq_false c
            refine ⟨_, _, _, _, rfl, hkk, exs2, hX10, ?_⟩
            rw [hst, exF, if_neg c', List.append_nil]
            exact E10
      · rintro σ' H8 ⟨u6, u7, u8, u9, rfl, k8, exs, hX8, E8⟩
        rw [RV7.len, List.take_length] at E8
        have hel : exs.length ≤ 120 := by
          have a := Paired.length E8
          have b := exitsM_len (i : Nat) (rowsM its) 0
          have c := RV7.len
          omega
        have hD7 : H7 D = some (.lst fxs) := by bv_omega
        have hD8 : H8 D = some (.lst fxs) := by bv_omega
        have hq8 : H8 q = some (.tup [.int (sp.1 : Nat), .int sp.2]) := by
          have hq7 : H7 q = some (.tup [.int (sp.1 : Nat), .int sp.2]) := by bv_omega
          bv_omega
        have hfl : fxs.length ≤ 20000 := by
          have a := Paired.length P5
          rw [List.length_take, rpsM_len] at a
          omega
        and_intros
        refine .inl ⟨SqL.of hX8, fun lp hlp => ?_⟩
        and_intros
        intro t9 ht9
        have t58 : Tk H5 H8 := (Tk.same s57).trans (by bv_omega)
        and_intros
        refine ⟨_, _, _, _, _, _, _, rfl, ?_, _, upd_same, ?_⟩
        · intro a o ha h4
          have h5 := k5 a o ha h4
          have h8 := k8 a o (by simp; exact ne_of_none h5 hX5) (s57 _ _ h5)
          have na : a ≠ D := by simpa using ha
          bv_omega
        · rw [take_snoc (rpsM_at hsp)]
          exact pairedApp (Paired.mapP P5 fun _ _ z => z.keep (by bv_omega)) (.cons ⟨t9, lp, exs, rfl, by bv_omega, by bv_omega, E8.keep (by bv_omega)⟩ .nil)
    · rintro σ' H' ⟨u3, u4, u5, u6, u7, u8, u9, rfl, k, fxs, hD', P'⟩
      and_intros
      rw [hsl, ← rpsM_len, List.take_length] at P'
      refine kq its g _ D ?_ hDn ⟨fxs, hD', P'⟩
      exact fun a o h => k a o (by simp; exact ne_of_none h hDn) (s04 a o h)
/-! ### Recording: +, *, inserting -/
def spCheckTimes (K : PySem.W.Frag) : Sp := fun vs H Q E => ∃ i : Int, vs = [.int i] ∧ (0 ≤ i ∧ i ≤ 1000 → Q .non H) ∧ (¬ (0 ≤ i ∧ i ≤ 1000) → Rz (ga K "InvalidTimes") "times" (.int i) H E)
abbrev s_check_times : Stmt := top 47
theorem sc_check_times : FnScope ["times"] ["times"] (defScope s_check_times) := ⟨rfl, rfl, rfl, by decide +kernel, rfl, by decide +kernel, by decide +kernel⟩
theorem ok_check_times (T : TX K mg) (x_InvalidTimes : Ex1 P w K mg base "InvalidTimes" "times" (ga K "InvalidTimes")) {f : Addr} {fd : FuncData} (F : FunD K "check_times" "check_times" (defArgs s_check_times) (defBody s_check_times) (defScope s_check_times) [] [] f fd) : FnOk P w K mg base (CX P w) 3 f fd ["times"] (spCheckTimes K) := by
  refine F.ok sc_check_times (fun vs H Q E h => ?_) (fun cdv A outer s H vs Q E hr h => ?_)
  · obtain ⟨i, rfl, _⟩ := h
    rfl
  · obtain ⟨i, rfl, kN, kE⟩ := h
    refine ⟨_, (pss_one (ps_if (PW.pt (pw_or (pt_cmpR op_lt (pv 0) pe_int (nomark _)) (pw_or1 (pt_cmpR op_gt (pv 0) (pe_gI T.g_MOST_TIMES rfl) (nomark _))))) (pss_one (ps_raise1 rfl (takes_of rfl rfl rfl rfl) x_InvalidTimes hr (by decide) rfl (pv 0))) pss_nil)), ?_⟩
    and_intros
    refine if2 (fun c => ?_) (fun c => ?_)
    · have hc : i < 0 := of_decide_eq_true c
      refine ift rfl ?_
      exact ⟨_, rfl, mk1_end fun d hd => kE (by omega) _ d (Same.refl H) hd⟩
    · have hc : ¬ i < 0 := of_decide_eq_false c
      and_intros
      refine if2 (fun c => ?_) (fun c => ?_)
      · have hc2 : (1000 : Int) < i := of_decide_eq_true c
        exact ⟨_, rfl, mk1_end fun d hd => kE (by omega) _ d (Same.refl H) hd⟩
      · have hc2 : ¬ (1000 : Int) < i := of_decide_eq_false c
        exact kN (by omega)
/-! ### keyreel.player -/
def Pg.unread (g : Pg) : Int := (g.t.length : Nat) - (g.c : Nat) - (g.r : Nat)
def Pg.back (g : Pg) : List Nat := (g.t.drop g.c).take g.r
def Pg.markD (g : Pg) : PyData := match g.m with
  | none => .none
  | some x => .tuple [.bool (lst g.t x), .str (S ((g.t.take g.c).drop x))]
def Pg.sitD (g : Pg) : PyData := .tuple [.int g.unread, .bool g.fresh, g.markD, .str (S g.back), .str (S g.k)]
def spSit (K : PySem.W.Frag) : Sp := fun vs H Q _ => ∃ (p : Addr) (g : Pg) (h : Nat), vs = [.ref p] ∧ PageAt K H p g h ∧ PgOk h g ∧ g.t.length ≤ 40000 ∧ g.r ≤ 40000 ∧ ∀ H' r, Same H H' → Dt H' (.ref r) g.sitD → Q (.ref r) H'
theorem nm_situation {t c m k r h : V} : (pgR t c m k r h).lookup ("situation" : Str) = none := by kernel_rfl
theorem back_eq (g : Pg) : cutL g.t (some ((g.c : Nat) : Int)) (some (((g.c : Nat) : Int) + ((g.r : Nat) : Int))) = g.back := by
  have e : ((g.c : Nat) : Int) + ((g.r : Nat) : Int) = ((g.c + g.r : Nat) : Int) := by omega
  rw [e, cutL_mid]
  unfold Pg.back
  rw [List.drop_take]
  congr 1
  omega
abbrev s_Page_situation : Stmt := inClass (top 38) 8
theorem sc_Page_situation : FnScope ["self", "mark", "ahead", "unread"] ["self"] (defScope s_Page_situation) := ⟨rfl, rfl, rfl, by decide +kernel, rfl, by decide +kernel, by decide +kernel⟩
theorem ok_Page_situation (T : TX K mg) (Z : TP K) (m_Page_line_start_at : KMet P w K mg base 1 (ga K "Page") "line_start_at" (spLineStart K)) (p_Page_held : KPrp P w K mg base 1 (ga K "Page") "held" (spHeld K)) (p_Page_fresh : KPrp P w K mg base 2 (ga K "Page") "fresh" (spFresh K)) {f : Addr} {fd : FuncData} (F : FunD K "situation" "Page.situation" (defArgs s_Page_situation) (defBody s_Page_situation) (defScope s_Page_situation) [] [] f fd) : FnOk P w K mg base (CX P w) 6 f fd ["self"] (spSit K) := by
  refine F.ok sc_Page_situation (fun vs H Q E h => ?_) (fun cdv A outer s H vs Q E hr h => ?_)
  · obtain ⟨p, g, h, rfl, _⟩ := h
    rfl
  · obtain ⟨p, g, h, rfl, ⟨dx, hp⟩, ok, hl, hr', k⟩ := h
    refine ⟨_, (pss_cons (ps_set (i := 1) sc_Page_situation.nd rfl (Or.inl rfl) pe_non) (C8.pss_cut (ps_if (pt_cmpR op_notN (pe_fld (pv 0) rfl) pe_non (nomark _)) (pss_one (ps_set (i := 1) sc_Page_situation.nd rfl (Or.inl rfl) (pe_tup (pa_cons (km m_Page_line_start_at hr (by decide) (pv 0) (pa_cons (pe_fld (pv 0) rfl) pa_nil)) (pa_cons (kprop p_Page_held hr (by decide) (pv 0)) pa_nil))))) pss_nil) (pss_cons (ps_set (i := 2) sc_Page_situation.nd rfl (Or.inl rfl) (pe_slice sl_S (pe_fld (pv 0) rfl) (po_some (pe_fld (pv 0) rfl)) (po_some (pe_op op_add (pe_fld (pv 0) rfl) (pe_fld (pv 0) rfl))))) (pss_cons (ps_set (i := 3) sc_Page_situation.nd rfl (Or.inl rfl) (pe_op op_sub (pe_op op_sub (pe_callB call_lenS (by rfl) T.b_len PySem.boot_len (pa_cons (pe_fld (pv 0) rfl) pa_nil)) (pe_fld (pv 0) rfl)) (pe_fld (pv 0) rfl))) (pss_one (ps_ret (pe_tup (pa_cons (pv 3) (pa_cons (kprop p_Page_fresh hr (by decide) (pv 0)) (pa_cons (pv 1) (pa_cons (pv 2) (pa_cons (pe_fld (pv 0) rfl) pa_nil)))))))))))), ?_⟩
    have hc := ok.c
    refine ⟨fun σ' H' => ∃ mv, σ' = [some (.ref p), some mv, none, none] ∧ Same H H' ∧ Dt H' mv g.markD, ?_, ?_⟩
    · refine ⟨_, rfl, p, _, _, _, _, rfl, hp, Z.cl, Z.n_mark, lk_mark, rfl, _, rfl, ?_⟩
      cases hm : g.m with
      | none =>
        refine iff' (by rfl) ⟨_, rfl, Same.refl _, ?_⟩
        unfold Pg.markD
        rw [hm]
        exact .non
      | some x =>
        refine ift (by rfl) ?_
        have hx := (ok.m x hm)
        have P0 : PageAt K H p g h := ⟨dx, hp⟩
        have eh : hV g.held = .str (S ((g.t.take g.c).drop x)) := by
          unfold Pg.held
          rw [hm]
          rfl
        unfold pgf at hp
        rw [hm] at hp
        refine ⟨_, rfl, p, _, _, rfl, hp, nm_line_start_at, _, rfl, p, _, _, _, _, rfl, hp, Z.cl, Z.n_mark, lk_mark, p, g, h, x, rfl, P0, by omega, by omega, ?_⟩
        refine ⟨_, rfl, p, dx, _, rfl, hp, p, g, h, rfl, P0, by omega, ?_⟩
        rw [eh]
        refine ⟨(show 2 ≤ sizeLine by decide), fun q hq => ⟨_, rfl, sNew (Same.refl _) hq, ?_⟩⟩
        unfold Pg.markD
        rw [hm]
        exact .tup upd_same (.cons (.bl _) (.cons (.str _) .nil))
    · rintro σ' H1 ⟨mv, rfl, s1, dm⟩
      have hp1 := s1 _ _ hp
      refine ⟨_, rfl, p, _, _, _, _, rfl, hp1, Z.cl, Z.n_text, lk_text, _, rfl, p, _, _, _, _, rfl, hp1, Z.cl, Z.n_caret, lk_caret, _, rfl, _, rfl, p, _, _, _, _, rfl, hp1, Z.cl, Z.n_caret, lk_caret, _, rfl, p, _, _, _, _, rfl, hp1, Z.cl, Z.n_returned, lk_returned, _, _, rfl, rfl, _, rfl, _, rfl, by omega, Int.natCast_nonneg _, (by show (0 : Int) ≤ _; omega), ?_⟩
      rw [back_eq]
      refine ⟨_, rfl, p, _, _, _, _, rfl, hp1, Z.cl, Z.n_text, lk_text, _, rfl, by omega, _, rfl, p, _, _, _, _, rfl, hp1, Z.cl, Z.n_caret, lk_caret, _, _, rfl, rfl, _, rfl, p, _, _, _, _, rfl, hp1, Z.cl, Z.n_returned, lk_returned, _, _, rfl, rfl, ?_⟩
      refine ⟨_, rfl, _, rfl, p, dx, _, rfl, hp1, p, g, h, rfl, ⟨dx, hp1⟩, by omega, hc, ?_⟩
      refine ⟨_, rfl, _, rfl, _, rfl, p, _, _, _, _, rfl, hp1, Z.cl, Z.n_kept, lk_kept, (show 5 ≤ sizeLine by decide), fun q hq => ?_⟩
      have s2 := sNew (o := .tup [.int g.unread, .bl g.fresh, mv, .str (S g.back), .str (S g.k)]) (Same.refl _) hq
      refine k _ q (s1.trans s2) (.tup upd_same (.cons (.int _) (.cons (.bl _) (.cons (dm.keep (Tk.same s2)) (.cons (.str _) (.cons (.str _) .nil))))))
abbrev Stt := Nat × Pg
theorem ixN_nat {n k : Nat} (h : k < n) : ixN n (k : Int) = some k := by
  unfold ixN
  rw [if_pos (by omega), if_pos (by omega)]
  simp
theorem pairAt' {α β : Type} {R : α → β → Prop} {a : List α} {b : List β} (h : Paired R a b) : ∀ {i : Nat} {y : β}, b[i]? = some y → ∃ x, a[i]? = some x ∧ R x y := by
  induction h with
  | nil => intro i x e; simp at e
  | cons r _ ih =>
    intro i x e
    cases i with
    | zero => simp at e; subst e; exact ⟨_, rfl, r⟩
    | succ i =>
      obtain ⟨y, h1, h2⟩ := ih (i := i) (y := x) (by simpa using e)
      exact ⟨y, by simpa using h1, h2⟩
/-- one press of a play -/
def stepM (rs : List Row) (h : Nat) (s : Stt) : Stt := match rs[s.1]? with
  | none => s
  | some r => ((if (s.2.act h (r.k.headD 0) r.s).1 = true then r.o else r.f).1, (s.2.act h (r.k.headD 0) r.s).2)
def Stt.ky (s : Stt) : NestedKey := kyO (.tuple [.int (s.1 : Nat), s.2.sitD])
theorem ky_dep (s : Stt) : s.ky.depth ≤ 8 := by
  obtain ⟨n, t, c, m, k, r⟩ := s
  cases m with
  | none =>
    show max _ (max _ _) + 1 ≤ 8
    simp [NestedKey.depth, NestedKey.depthAll, kyO, kyL, Pg.sitD, Pg.markD]
  | some x =>
    show max _ (max _ _) + 1 ≤ 8
    simp [NestedKey.depth, NestedKey.depthAll, kyO, kyL, Pg.sitD, Pg.markD]
/-- a play of n presses from g -/
structure Play (rs : List Row) (h : Nat) (g : Pg) (f : Nat → Stt) (n : Nat) : Prop where
  st : f 0 = (0, g)
  go : ∀ i, i < n → (f i).1 < rs.length ∧ f (i + 1) = stepM rs h (f i)
  en : rs.length ≤ (f n).1
  few : n < 63
  df : ∀ i j, i < j → j < n → (f i).ky ≠ (f j).ky
  ok : ∀ i, i ≤ n → PgOk h (f i).2 ∧ (f i).2.t.length ≤ 40000 ∧ (f i).2.r ≤ 40000
def rowOk (m : Nat) (r : Row) : Prop := (∃ c, r.k = [c] ∧ vk c r.s) ∧ r.o.2 < (m : Nat) ∧ r.f.2 < (m : Nat)
def outc (b : Bool) : List Nat := if b then [100, 111, 110, 101] else [102, 97, 105, 108, 101, 100]
def spRun (K : PySem.W.Frag) : Sp := fun vs H Q _ => ∃ (l p q : Addr) (rs : List Row) (g : Pg) (h n : Nat) (ns : List Int) (f : Nat → Stt), vs = [.ref l, .ref p, .ref q] ∧ RowsAt H l rs ∧ rs.length ≤ 1000 ∧ PageAt K H p g h ∧ H q = some (.lst (ns.map V.int)) ∧ ns.length ≤ 50000 ∧ (∀ r ∈ rs, rowOk ns.length r) ∧ Play rs h g f n ∧ l ≠ q ∧
  ∀ (H' : Hp) (t : Addr) (ns' : List Int), Kp [p, q] H H' → PageAt K H' p (f n).2 h → H' q = some (.lst (ns'.map V.int)) → ns'.length = ns.length → H' t = some (.tup [.str (S (outc (decide ((f n).1 = rs.length)))), .int (n : Nat)]) → Q (.ref t) H'
abbrev s_run : Stmt := top 48
theorem sc_run : FnScope ["rows", "page", "rounds", "seen", "number", "presses", "state", "target", "key", "sign", "onward", "failing"] ["rows", "page", "rounds"] (defScope s_run) := ⟨rfl, rfl, rfl, by decide +kernel, rfl, by decide +kernel, by decide +kernel⟩
theorem ok_run (T : TX K mg) (m_Page_situation : KMet P w K mg base 6 (ga K "Page") "situation" (spSit K)) (m_Page_act : KMet P w K mg base 5 (ga K "Page") "act" (spAct K)) {f : Addr} {fd : FuncData} (F : FunD K "run" "run" (defArgs s_run) (defBody s_run) (defScope s_run) [] [] f fd) : FnOk P w K mg base (CX P w) 7 f fd ["rows", "page", "rounds"] (spRun K) := by
  refine F.ok sc_run (fun vs H Q E h => ?_) (fun cdv A outer s H vs Q E hr h => ?_)
  · obtain ⟨l, p, q, rs, g, h, n, ns, f, rfl, _⟩ := h
    rfl
  · obtain ⟨l, p, q, rs, g, h, n, ns, f, rfl, ⟨xs, hl, hR⟩, hrl, hP, hq, hnl, hro, PL, nlq, kq⟩ := h
    refine ⟨_, (pss_cons (ps_set (i := 3) sc_run.nd rfl (Or.inl rfl) (pe_callTy0 cr_set0N (by rfl) T.b_set (by decide +kernel))) (pss_cons (ps_set (i := 4) sc_run.nd rfl (Or.inl rfl) pe_int) (pss_cons (ps_set (i := 5) sc_run.nd rfl (Or.inl rfl) pe_int) (pss_cons (ps_while (passes_of rfl) (pt_cmpR op_lt (pv 4) (pe_callB call_len_seq (by rfl) T.b_len PySem.boot_len (pa_cons (pv 0) pa_nil)) (nomark _)) (pss_cons (ps_set (i := 6) sc_run.nd rfl (Or.inl rfl) (pe_tup (pa_cons (pv 4) (pa_cons (km0 m_Page_situation hr (by decide) (pv 1)) pa_nil)))) (pss_cons (ps_if (pt_cmpR (op_inN hr.units) (pv 6) (pv 3) rfl) (pss_one (ps_ret (pe_tup (pa_cons (pe_strS [101, 110, 100, 108, 101, 115, 115] (by decide +kernel)) (pa_cons (pv 5) pa_nil))))) pss_nil) (pss_cons (ps_expr (pe_addN hr.units (pv 3) (pa_cons (pv 6) pa_nil))) (pss_cons (ps_asg (pe_ix ix_list (pv 0) (pv 4) (fun _ _ => rfl)) (pg_tup rfl (pgs_cons (pg_name (i := 8) sc_run.nd rfl (Or.inl rfl)) (pgs_cons (pg_name (i := 9) sc_run.nd rfl (Or.inl rfl)) (pgs_cons (pg_name (i := 10) sc_run.nd rfl (Or.inl rfl)) (pgs_cons (pg_name (i := 11) sc_run.nd rfl (Or.inl rfl)) pgs_nil)))))) (pss_cons (ps_aug (i := 5) sc_run.nd rfl (Or.inl rfl) pe_int ip_add) (pss_cons (ps_set (i := 7) sc_run.nd rfl (Or.inl rfl) (pe_ifExp (pt_val (km m_Page_act hr (by decide) (pv 1) (pa_cons (pv 8) (pa_cons (pv 9) pa_nil)))) (pv 10) (pv 11))) (pss_cons (ps_set (i := 4) sc_run.nd rfl (Or.inl rfl) (pe_ix ix_tup (pv 7) pe_int (fun _ _ => rfl))) (pss_one (ps_if (pt_cmpR op_ge (pe_ix ix_tup (pv 7) pe_int (fun _ _ => rfl)) pe_int (nomark _)) (pss_one (ps_augS (pv 2) (pe_ix ix_tup (pv 7) pe_int (fun _ _ => rfl)) get_list pe_int ip_add set_list)) pss_nil)))))))))) (pss_cons (ps_if (pt_cmpR op_eq (pv 4) (pe_callB call_len_seq (by rfl) T.b_len PySem.boot_len (pa_cons (pv 0) pa_nil)) (nomark _)) (pss_one (ps_ret (pe_tup (pa_cons (pe_strS [100, 111, 110, 101] (by decide +kernel)) (pa_cons (pv 5) pa_nil))))) pss_nil) (pss_one (ps_ret (pe_tup (pa_cons (pe_strS [102, 97, 105, 108, 101, 100] (by decide +kernel)) (pa_cons (pv 5) pa_nil)))))))))), ?_⟩
    have hxl : xs.length = rs.length := Paired.length hR
    obtain ⟨dx0, hp0⟩ := id hP
    have npq : p ≠ q := ne_of hp0 hq (by intro z; cases z)
    have npl : p ≠ l := ne_of hp0 hl (by intro z; cases z)
    refine ⟨rfl, fun se hse => ?_⟩
    have nse : se ≠ p ∧ se ≠ q ∧ se ≠ l := ⟨(ne_of_none hp0 hse).symm, (ne_of_none hq hse).symm, (ne_of_none hl hse).symm⟩
    have s0 := sNew (o := SetNO w se []) (Same.refl _) hse
    refine ⟨fun m σ' H' => ∃ (i : Nat) (u6 u7 u8 u9 u10 u11 : Option V) (ns' : List Int) (L : List (Addr × NestedKey)), σ' = [some (.ref l), some (.ref p), some (.ref q), some (.ref se), some (.int ((f i).1 : Nat)), some (.int (i : Nat)), u6, u7, u8, u9, u10, u11] ∧ i ≤ n ∧ m = n - i ∧ Kp [p, q] H H' ∧ PageAt K H' p (f i).2 h ∧ H' q = some (.lst (ns'.map V.int)) ∧ ns'.length = ns.length ∧ H' se = some (SetNO w se L) ∧ (∀ x ∈ L, MemN H' x) ∧ L.length = i ∧ ∀ k ∈ L.map (·.2), ∃ j, j < i ∧ (f j).ky = k, ⟨n, 0, none, none, none, none, none, none, ns, [], ?_, by omega, rfl, (Kp.of_same s0), ?_, s0 _ _ hq, rfl, upd_same, by simp, rfl, by simp⟩, ?_⟩
    · rw [PL.st]; rfl
    · rw [PL.st]; exact ⟨dx0, s0 _ _ hp0⟩
    rintro m σ' H1 ⟨i, u6, u7, u8, u9, u10, u11, ns1, L, rfl, hi, rfl, kp1, P1, hq1, hns1, hse1, hm1, hL1, hk1⟩
    have hl1 : H1 l = some (.lst xs) := kp1 _ _ (by simp; exact ⟨npl.symm, nlq⟩) hl
    refine ⟨_, rfl, _, rfl, l, _, rfl, .inl (SqL.of hl1), _, _, rfl, rfl, _, rfl, ?_⟩
    rw [hxl]
    refine if2 (fun c1 => ?_) (fun c1 => ?_)
    · have c1' : ((f i).1 : Int) < (rs.length : Nat) := of_decide_eq_true c1
      have hin : i < n := by
        refine Nat.lt_of_le_of_ne hi fun z => ?_
        have := PL.en
        rw [← z] at this
        omega
      obtain ⟨g1, g2⟩ := PL.go i hin
      obtain ⟨ok1, ok2, ok3⟩ := PL.ok i hi
      refine ⟨fun σ' H' => ∃ (u6 u7 u8 u9 u10 u11 : Option V) (ns' : List Int) (L : List (Addr × NestedKey)), σ' = [some (.ref l), some (.ref p), some (.ref q), some (.ref se), some (.int ((f (i + 1)).1 : Nat)), some (.int ((i + 1 : Nat))), u6, u7, u8, u9, u10, u11] ∧ Kp [p, q] H H' ∧ PageAt K H' p (f (i + 1)).2 h ∧ H' q = some (.lst (ns'.map V.int)) ∧ ns'.length = ns.length ∧ H' se = some (SetNO w se L) ∧ (∀ x ∈ L, MemN H' x) ∧ L.length = i + 1 ∧ ∀ k ∈ L.map (·.2), ∃ j, j < i + 1 ∧ (f j).ky = k, ?_, ?_⟩
      · rintro σ2 H2 ⟨v6, v7, v8, v9, v10, v11, ns2, L2, rfl, e1, e2, e3, e4, e5, e6, e7, e8⟩
        exact ⟨n - (i + 1), by omega, i + 1, v6, v7, v8, v9, v10, v11, ns2, L2, rfl, by omega, rfl, e1, e2, e3, e4, e5, e6, e7, e8⟩
      obtain ⟨dx, hp1⟩ := id P1
      refine ⟨_, rfl, _, rfl, p, dx, _, rfl, hp1, nm_situation, p, (f i).2, h, rfl, P1, ok1, ok2, ok3, fun H2 r s2 hD2 => ?_⟩
      refine ⟨(show 2 ≤ sizeLine by decide), fun st hst => ?_⟩
      have s3 := sNew (o := .tup [.int ((f i).1 : Nat), .ref r]) (Same.refl _) hst
      have s23 := s2.trans s3
      have memS : MemN (upd H2 st (.tup [.int ((f i).1 : Nat), .ref r])) (st, (f i).ky) := ⟨_, .tup upd_same (.cons (.int _) (.cons (hD2.keep (Tk.same s3)) .nil)), rfl, ky_dep _⟩
      have hse3 := s23 _ _ hse1
      have hm3 : ∀ x ∈ L, MemN (upd H2 st (.tup [.int ((f i).1 : Nat), .ref r])) x := fun x hx => (hm1 x hx).keep (Tk.same s23)
      have hnew : (f i).ky ∉ L.map (·.2) := fun hm => by
        obtain ⟨j, hj, e⟩ := hk1 _ hm
        exact PL.df j i hj hin e
      have kp3 := kp1.trans (Kp.of_same s23)
      have hp3 := s23 _ _ hp1
      have hq3 := s23 _ _ hq1
      have hl3 := s23 _ _ hl1
      generalize upd H2 st (.tup [.int ((f i).1 : Nat), .ref r]) = H3 at *
      refine ⟨_, rfl, _, rfl, st, se, (f i).ky, L, rfl, rfl, hse3, hm3, memS, _, rfl, iff' (decide_eq_false hnew) ?_⟩
      refine ⟨_, rfl, ⟨se, L, rfl, hse3⟩, _, rfl, se, st, (f i).ky, L, rfl, rfl, hse3, hm3, memS, by have := PL.few; omega, fun L' _ hL' => ?_⟩
      have pm := hL' hnew
      have tk4 : Tk H3 (upd H3 se (SetNO w se L')) := fun x u e => by
        rw [upd_ne]
        · exact e
        · rintro rfl
          rw [hse3] at e
          cases e
      have hm4 : ∀ x ∈ L', MemN (upd H3 se (SetNO w se L')) x := fun x hx => by
        rcases List.mem_cons.mp (pm.mem_iff.mp hx) with rfl | hx
        · exact memS.keep tk4
        · exact (hm3 x hx).keep tk4
      have hLl : L'.length = i + 1 := by rw [pm.length_eq, List.length_cons, hL1]
      have hkk : ∀ k ∈ L'.map (·.2), ∃ j, j < i + 1 ∧ (f j).ky = k := fun k hk => by
        obtain ⟨x, hx, rfl⟩ := List.mem_map.mp hk
        rcases List.mem_cons.mp (pm.mem_iff.mp hx) with rfl | hx
        · exact ⟨i, by omega, rfl⟩
        · obtain ⟨j, hj, e⟩ := hk1 _ (List.mem_map.mpr ⟨x, hx, rfl⟩)
          exact ⟨j, by omega, e⟩
      have kp4 : Kp [p, q] H (upd H3 se (SetNO w se L')) := kp3.mut hse
      have hp4 := hp3
      rw [← upd_ne (H := H3) (o := SetNO w se L') nse.1.symm] at hp4
      have hq4 := hq3
      rw [← upd_ne (H := H3) (o := SetNO w se L') nse.2.1.symm] at hq4
      have hl4 := hl3
      rw [← upd_ne (H := H3) (o := SetNO w se L') nse.2.2.symm] at hl4
      have hse4 : upd H3 se (SetNO w se L') se = some (SetNO w se L') := upd_same
      -- the row
      have hrow : rs[(f i).1]? = some rs[(f i).1] := List.getElem?_eq_getElem g1
      generalize rs[(f i).1] = row at hrow
      have tkH : Tk H (upd H3 se (SetNO w se L')) := fun x u e => kp4 x _ (by
        simp
        exact ⟨ne_of e hp0 (by intro z; cases z), ne_of e hq (by intro z; cases z)⟩) e
      have hRk : RowsV (upd H3 se (SetNO w se L')) xs rs := RowsV.keep tkH hR
      obtain ⟨x, hx, rp, ro, rf, rfl, hrp, hro4, hrf4⟩ := pairAt' hRk hrow
      obtain ⟨⟨c, hc, hvk⟩, hro1, hro2⟩ := hro row (List.mem_of_getElem? hrow)
      have hstep : f (i + 1) = ((if ((f i).2.act h c row.s).1 = true then row.o else row.f).1, ((f i).2.act h c row.s).2) := by
        rw [g2]
        unfold stepM
        rw [hrow]
        dsimp only
        rw [hc]
        rfl
      rw [hc] at hrp
      refine ⟨_, rfl, _, rfl, l, _, _, _, rfl, rfl, SqL.of hl4, atIn hx, ?_⟩
      refine ⟨rp, _, rfl, SqT.of hrp, rfl, ?_⟩
      refine ⟨_, _, rfl, _, _, rfl, _, _, rfl, _, _, rfl, rfl, ?_⟩
      refine ⟨_, rfl, _, _, rfl, rfl, ?_⟩
      refine ⟨_, rfl, p, dx, _, rfl, hp4, nm_act, _, rfl, _, rfl, p, (f i).2, h, c, row.s, rfl, hvk, ⟨dx, hp4⟩, ok1, ok2, fun H5 k5 P5 => ?_⟩
      have tk5 : Tk (upd H3 se (SetNO w se L')) H5 := Tk.k1 k5 hp4 Tk.refl
      have hq5 := k5 _ _ (by simp; exact npq.symm) hq4
      have hse5 := k5 _ _ (by simp; exact nse.1) hse4
      have hm5 : ∀ x ∈ L', MemN H5 x := fun x hx => (hm4 x hx).keep tk5
      have kp5 : Kp [p, q] H H5 := kp4.trans (k5.mono (by simp))
      cases hb : ((f i).2.act h c row.s).1 with
      | true =>
        rw [hb] at hstep
        have hst' : f (i + 1) = (row.o.1, ((f i).2.act h c row.s).2) := hstep
        refine ⟨_, rfl, ift rfl ⟨_, rfl, ?_⟩⟩
        have hT5 : TgAt H5 ro row.o := tk5 _ _ hro4
        refine ⟨_, rfl, ro, _, 0, _, rfl, rfl, SqT.of hT5, rfl, ?_⟩
        refine ⟨_, rfl, ro, _, 1, _, rfl, rfl, SqT.of hT5, rfl, _, _, rfl, rfl, _, rfl, if2 (fun c2 => ?_) (fun c2 => ?_)⟩
        · have c2' : (0 : Int) ≤ row.o.2 := of_decide_eq_true c2
          obtain ⟨k, hk⟩ := Int.eq_ofNat_of_zero_le c2'
          have hkl : k < ns1.length := by omega
          have hget : (ns1.map V.int)[k]? = some (.int ns1[k]) := by simp [hkl]
          refine ⟨_, rfl, _, rfl, ro, _, 1, _, rfl, rfl, SqT.of hT5, rfl, ?_⟩
          rw [hk]
          refine ⟨q, _, k, _, rfl, rfl, SqL.of hq5, hget, ?_⟩
          refine ⟨_, _, rfl, rfl, q, _, _, k, rfl, rfl, hq5, ixN_nat (by simpa using hkl), ?_⟩
          have em : (ns1.map V.int).set k (V.int (ns1[k] + 1)) = (ns1.set k (ns1[k] + 1)).map V.int := by rw [List.map_set]
          rw [em]
          have tk6 : Tk H5 (upd H5 q (.lst ((ns1.set k (ns1[k] + 1)).map V.int))) := Tk.ls hq5 Tk.refl
          refine ⟨some (.ref st), some (.ref ro), some (tV [c]), some (tV row.s), some (.ref ro), some (.ref rf), ns1.set k (ns1[k] + 1), L', ?_, kp5.upd (by simp), ?_, upd_same, by simpa using hns1, by rw [upd_ne nse.2.1]; exact hse5, fun x hx => (hm5 x hx).keep tk6, hLl, hkk⟩
          · rw [hst']; rfl
          · rw [hst']
            obtain ⟨dx5, e5⟩ := P5
            exact ⟨dx5, by rw [upd_ne npq]; exact e5⟩
        · refine ⟨some (.ref st), some (.ref ro), some (tV [c]), some (tV row.s), some (.ref ro), some (.ref rf), ns1, L', ?_, kp5, ?_, hq5, hns1, hse5, hm5, hLl, hkk⟩
          · rw [hst']; rfl
          · rw [hst']; exact P5
      | false =>
        rw [hb] at hstep
        have hst' : f (i + 1) = (row.f.1, ((f i).2.act h c row.s).2) := hstep
        refine ⟨_, rfl, iff' rfl ⟨_, rfl, ?_⟩⟩
        have hT5 : TgAt H5 rf row.f := tk5 _ _ hrf4
        refine ⟨_, rfl, rf, _, 0, _, rfl, rfl, SqT.of hT5, rfl, ?_⟩
        refine ⟨_, rfl, rf, _, 1, _, rfl, rfl, SqT.of hT5, rfl, _, _, rfl, rfl, _, rfl, if2 (fun c2 => ?_) (fun c2 => ?_)⟩
        · have c2' : (0 : Int) ≤ row.f.2 := of_decide_eq_true c2
          obtain ⟨k, hk⟩ := Int.eq_ofNat_of_zero_le c2'
          have hkl : k < ns1.length := by omega
          have hget : (ns1.map V.int)[k]? = some (.int ns1[k]) := by simp [hkl]
          refine ⟨_, rfl, _, rfl, rf, _, 1, _, rfl, rfl, SqT.of hT5, rfl, ?_⟩
          rw [hk]
          refine ⟨q, _, k, _, rfl, rfl, SqL.of hq5, hget, ?_⟩
          refine ⟨_, _, rfl, rfl, q, _, _, k, rfl, rfl, hq5, ixN_nat (by simpa using hkl), ?_⟩
          have em : (ns1.map V.int).set k (V.int (ns1[k] + 1)) = (ns1.set k (ns1[k] + 1)).map V.int := by rw [List.map_set]
          rw [em]
          have tk6 : Tk H5 (upd H5 q (.lst ((ns1.set k (ns1[k] + 1)).map V.int))) := Tk.ls hq5 Tk.refl
          refine ⟨some (.ref st), some (.ref rf), some (tV [c]), some (tV row.s), some (.ref ro), some (.ref rf), ns1.set k (ns1[k] + 1), L', ?_, kp5.upd (by simp), ?_, upd_same, by simpa using hns1, by rw [upd_ne nse.2.1]; exact hse5, fun x hx => (hm5 x hx).keep tk6, hLl, hkk⟩
          · rw [hst']; rfl
          · rw [hst']
            obtain ⟨dx5, e5⟩ := P5
            exact ⟨dx5, by rw [upd_ne npq]; exact e5⟩
        · refine ⟨some (.ref st), some (.ref rf), some (tV [c]), some (tV row.s), some (.ref ro), some (.ref rf), ns1, L', ?_, kp5, ?_, hq5, hns1, hse5, hm5, hLl, hkk⟩
          · rw [hst']; rfl
          · rw [hst']; exact P5
    · have c1' : ¬ ((f i).1 : Int) < (rs.length : Nat) := of_decide_eq_false c1
      have hin : i = n := by
        refine Nat.le_antisymm hi (Nat.le_of_not_lt fun z => ?_)
        have := (PL.go i z).1
        omega
      subst hin
      refine ⟨_, rfl, _, rfl, l, _, rfl, .inl (SqL.of hl1), rfl, _, rfl, ?_⟩
      rw [dI, hxl]
      refine if2 (fun c2 => ?_) (fun c2 => ?_)
      · have c2' : ((f i).1 : Int) = (rs.length : Nat) := of_decide_eq_true c2
        refine ⟨_, rfl, (show 2 ≤ sizeLine by decide), fun t ht => ?_⟩
        have s2 := sNew (o := .tup [.str (S [100, 111, 110, 101]), .int (i : Nat)]) (Same.refl _) ht
        refine kq _ t ns1 (kp1.trans (Kp.of_same s2)) ?_ (s2 _ _ hq1) hns1 ?_
        · obtain ⟨dx, e⟩ := P1
          exact ⟨dx, s2 _ _ e⟩
        · rw [decide_eq_true (show (f i).1 = rs.length by omega)]; exact upd_same
      · have c2' : ¬ ((f i).1 : Int) = (rs.length : Nat) := of_decide_eq_false c2
        refine ⟨_, rfl, (show 2 ≤ sizeLine by decide), fun t ht => ?_⟩
        have s2 := sNew (o := .tup [.str (S [102, 97, 105, 108, 101, 100]), .int (i : Nat)]) (Same.refl _) ht
        refine kq _ t ns1 (kp1.trans (Kp.of_same s2)) ?_ (s2 _ _ hq1) hns1 ?_
        · obtain ⟨dx, e⟩ := P1
          exact ⟨dx, s2 _ _ e⟩
        · rw [decide_eq_false (show ¬ (f i).1 = rs.length by omega)]; exact upd_same
structure TRs (K : PySem.W.Frag) : Prop where
  cl : Cls K (ga K "Result")
  n_outcome : NoAttr K (ga K "Result") "outcome"
  n_text : NoAttr K (ga K "Result") "text"
  n_caret : NoAttr K (ga K "Result") "caret"
  n_kept : NoAttr K (ga K "Result") "kept"
  n_presses : NoAttr K (ga K "Result") "presses"
  n_rounds : NoAttr K (ga K "Result") "rounds"
abbrev rsf (o t c k n r : V) : List (Str × V) := [("outcome", o), ("text", t), ("caret", c), ("kept", k), ("presses", n), ("rounds", r)]
def resF (o : List Nat) (g : Pg) (n : Int) (r : Addr) : List (Str × V) := rsf (.str (S o)) (.str (S g.t)) (.int (g.c : Nat)) (.str (S g.k)) (.int n) (.ref r)
theorem pr1 {o : V} : putF "rounds" .non (putF "presses" .non (putF "kept" .non (putF "caret" .non (putF "text" .non (putF "outcome" o []))))) = rsf o .non .non .non .non .non := by kernel_rfl
theorem pr2 {o t c k n r a b d e : V} {z : V} : putF "rounds" r (putF "presses" n (putF "kept" k (putF "caret" c (putF "text" t (rsf o z a b d e))))) = rsf o t c k n r := by kernel_rfl
def endl : List Nat := [101, 110, 100, 108, 101, 115, 115]
def spRes (K : PySem.W.Frag) : Sp := fun vs H Q _ => ∃ (s dx p q : Addr) (o : List Nat) (g : Pg) (h : Nat) (n : Int) (ns : List V), vs = [.ref s, .str (S o), .ref p, .int n, .ref q] ∧ H s = some (.ins (ga K "Result") dx []) ∧ PageAt K H p g h ∧ H q = some (.lst ns) ∧ s ≠ p ∧ o ≠ endl ∧ ∀ H' r, Kp [s] H H' → H' s = some (.ins (ga K "Result") dx (resF o g n r)) → H' r = some (.tup ns) → Q .non H'
abbrev s_Result___init__ : Stmt := inClass (top 46) 0
theorem sc_Result___init__ : FnScope ["self", "outcome", "page", "presses", "rounds"] ["self", "outcome", "page", "presses", "rounds"] (defScope s_Result___init__) := ⟨rfl, rfl, rfl, by decide +kernel, rfl, by decide +kernel, by decide +kernel⟩
theorem ok_Result___init__ (T : TX K mg) (Z : TP K) (Zr : TRs K) {f : Addr} {fd : FuncData} (F : FunD K "__init__" "Result.__init__" (defArgs s_Result___init__) (defBody s_Result___init__) (defScope s_Result___init__) [] [] f fd) : FnOk P w K mg base (CX P w) 1 f fd ["self", "outcome", "page", "presses", "rounds"] (spRes K) := by
  refine F.ok sc_Result___init__ (fun vs H Q E h => ?_) (fun cdv A outer s H vs Q E hr h => ?_)
  · obtain ⟨s, dx, p, q, o, g, h, n, ns, rfl, _⟩ := h
    rfl
  · obtain ⟨s, dx, p, q, o, g, h, n, ns, rfl, hs, ⟨dxp, hp⟩, hq, nsp, ho, kq⟩ := h
    refine ⟨_, (pss_cons (ps_fld (pv 0) (pv 1) rfl) (pss_cons (ps_fld (pv 0) pe_non rfl) (pss_cons (ps_fld (pv 0) pe_non rfl) (pss_cons (ps_fld (pv 0) pe_non rfl) (pss_cons (ps_fld (pv 0) pe_non rfl) (pss_cons (ps_fld (pv 0) pe_non rfl) (pss_one (ps_if (pt_cmpR op_neS (pv 1) (pe_strS [101, 110, 100, 108, 101, 115, 115] (by decide +kernel)) (nomark _)) (pss_cons (ps_fld (pv 0) (pe_fld (pv 2) rfl) rfl) (pss_cons (ps_fld (pv 0) (pe_fld (pv 2) rfl) rfl) (pss_cons (ps_fld (pv 0) (pe_fld (pv 2) rfl) rfl) (pss_cons (ps_fld (pv 0) (pv 3) rfl) (pss_one (ps_fld (pv 0) (pe_callTy call_tuple_of (by rfl) T.b_tuple (by decide +kernel) (pa_cons (pv 4) pa_nil)) rfl)))))) pss_nil)))))))), ?_⟩
    refine ⟨_, rfl, _, rfl, s, _, dx, _, rfl, hs, Zr.cl, Zr.n_outcome, by decide, ?_⟩
    refine ⟨_, rfl, s, _, dx, _, rfl, upd_same, Zr.cl, Zr.n_text, by show 1 < 1000; decide, ?_⟩
    refine ⟨_, rfl, s, _, dx, _, rfl, upd_same, Zr.cl, Zr.n_caret, by show 2 < 1000; decide, ?_⟩
    refine ⟨_, rfl, s, _, dx, _, rfl, upd_same, Zr.cl, Zr.n_kept, by show 3 < 1000; decide, ?_⟩
    refine ⟨_, rfl, s, _, dx, _, rfl, upd_same, Zr.cl, Zr.n_presses, by show 4 < 1000; decide, ?_⟩
    refine ⟨_, rfl, s, _, dx, _, rfl, upd_same, Zr.cl, Zr.n_rounds, by show 5 < 1000; decide, ?_⟩
    rw [pr1]
    have hpu : ∀ {H1 : Hp} {o1 : HO}, H1 p = some (HO.ins (ga K "Page") dxp (pgf g h)) → upd H1 s o1 p = some (HO.ins (ga K "Page") dxp (pgf g h)) := fun e => by rw [upd_ne nsp.symm]; exact e
    have nsq : s ≠ q := ne_of hs hq (by intro z; cases z)
    have hqu : ∀ {H1 : Hp} {o1 : HO}, H1 q = some (HO.lst ns) → upd H1 s o1 q = some (HO.lst ns) := fun e => by rw [upd_ne nsq.symm]; exact e
    refine ⟨_, rfl, _, _, rfl, rfl, _, rfl, ift (by simpa [endl] using ho) ?_⟩
    refine ⟨_, rfl, p, _, _, _, _, rfl, hpu (hpu (hpu (hpu (hpu (hpu hp))))), Z.cl, Z.n_text, lk_text, _, rfl, s, _, dx, _, rfl, upd_same, Zr.cl, Zr.n_text, by show 6 < 1000; decide, ?_⟩
    refine ⟨_, rfl, p, _, _, _, _, rfl, hpu (hpu (hpu (hpu (hpu (hpu (hpu hp)))))), Z.cl, Z.n_caret, lk_caret, _, rfl, s, _, dx, _, rfl, upd_same, Zr.cl, Zr.n_caret, by show 6 < 1000; decide, ?_⟩
    refine ⟨_, rfl, p, _, _, _, _, rfl, hpu (hpu (hpu (hpu (hpu (hpu (hpu (hpu hp))))))), Z.cl, Z.n_kept, lk_kept, _, rfl, s, _, dx, _, rfl, upd_same, Zr.cl, Zr.n_kept, by show 6 < 1000; decide, ?_⟩
    refine ⟨_, rfl, _, rfl, s, _, dx, _, rfl, upd_same, Zr.cl, Zr.n_presses, by show 6 < 1000; decide, ?_⟩
    refine ⟨_, rfl, q, _, rfl, .inl ⟨SqL.of (hqu (hqu (hqu (hqu (hqu (hqu (hqu (hqu (hqu (hqu hq)))))))))), fun r hr0 => ?_⟩⟩
    have nsr : r ≠ s := fun z => by rw [z, upd_same] at hr0; cases hr0
    refine ⟨_, rfl, s, _, dx, _, rfl, by rw [upd_ne nsr.symm, upd_same], Zr.cl, Zr.n_rounds, by show 6 < 1000; decide, ?_⟩
    rw [pr2]
    refine kq _ r ?_ upd_same (by rw [upd_ne nsr]; exact upd_same)
    refine (Kp.mut ?_ ?_).upd (by simp)
    · exact (((((((((Kp.refl.upd (by simp)).upd (by simp)).upd (by simp)).upd (by simp)).upd (by simp)).upd (by simp)).upd (by simp)).upd (by simp)).upd (by simp)).upd (by simp)
    · rw [upd_ne nsr, upd_ne nsr, upd_ne nsr, upd_ne nsr, upd_ne nsr, upd_ne nsr, upd_ne nsr, upd_ne nsr, upd_ne nsr, upd_ne nsr] at hr0
      exact hr0
mutual
theorem lay_row : ∀ (i : It) (nu re : Nat) (af fa : Tg) (M : Nat), af.2 < (M : Nat) → fa.2 < (M : Nat) → re + i.reps ≤ M → ∀ r ∈ i.lay nu re af fa, (∃ key ∈ i.keys, r.k = key.take 1 ∧ r.s = key.drop 1) ∧ r.o.2 < (M : Nat) ∧ r.f.2 < (M : Nat)
  | .key s, nu, re, af, fa, M, h1, h2, h3 => by
    intro r hr
    have e : r = ⟨s.take 1, s.drop 1, af, fa⟩ := by simpa [It.lay] using hr
    subst e
    exact ⟨⟨s, by simp [It.keys], rfl, rfl⟩, h1, h2⟩
  | .rep a, nu, re, af, fa, M, h1, h2, h3 => by
    have h3' : re + (1 + repsL a) ≤ M := by simpa [It.reps, Nat.add_comm] using h3
    intro r hr
    exact layL_row a nu (re + 1) (nu, re) af M (by show (re : Int) < _; omega) h1 (by omega) r hr
  | .cho a b, nu, re, af, fa, M, h1, h2, h3 => by
    have h3' : re + (repsL a + repsL b) ≤ M := by simpa [It.reps] using h3
    intro r hr
    rcases List.mem_append.mp (show r ∈ _ ++ _ from hr) with hr | hr
    · obtain ⟨⟨key, hk, e⟩, q⟩ := layL_row a nu re af _ M h1 (by split; exact h1; show (-1 : Int) < _; omega) (by omega) r hr
      exact ⟨⟨key, by simp [It.keys]; exact .inl hk, e⟩, q⟩
    · obtain ⟨⟨key, hk, e⟩, q⟩ := layL_row b _ (re + repsL a) af fa M h1 h2 (by omega) r hr
      exact ⟨⟨key, by simp [It.keys]; exact .inr hk, e⟩, q⟩
theorem layL_row : ∀ (a : List It) (nu re : Nat) (on fa : Tg) (M : Nat), on.2 < (M : Nat) → fa.2 < (M : Nat) → re + repsL a ≤ M → ∀ r ∈ layL a nu re on fa, (∃ key ∈ keysL a, r.k = key.take 1 ∧ r.s = key.drop 1) ∧ r.o.2 < (M : Nat) ∧ r.f.2 < (M : Nat)
  | [], _, _, _, _, _, _, _, _ => by intro r hr; simp [layL] at hr
  | i :: t, nu, re, on, fa, M, h1, h2, h3 => by
    have h3' : re + (i.reps + repsL t) ≤ M := by simpa [repsL] using h3
    intro r hr
    rcases List.mem_append.mp (show r ∈ _ ++ _ from hr) with hr | hr
    · obtain ⟨⟨key, hk, e⟩, q⟩ := lay_row i nu re _ fa M (by split; exact h1; show (-1 : Int) < _; omega) h2 (by omega) r hr
      exact ⟨⟨key, by simp [keysL]; exact .inl hk, e⟩, q⟩
    · obtain ⟨⟨key, hk, e⟩, q⟩ := layL_row t _ (re + i.reps) on fa M h1 h2 (by omega) r hr
      exact ⟨⟨key, by simp [keysL]; exact .inr hk, e⟩, q⟩
end
theorem rowsM_ok {n : List Nat} {its : List It} (h : read false n = .inr its) : ∀ r ∈ rowsM its, rowOk (repsL its) r := by
  intro r hr
  obtain ⟨⟨key, hk, e1, e2⟩, q⟩ := layL_row its 0 0 _ _ (repsL its) (by show (-1 : Int) < _; omega) (by show (-1 : Int) < _; omega) (by omega) r hr
  refine ⟨?_, q⟩
  obtain ⟨ek, et⟩ := read_keysT h
  rw [ek] at hk
  obtain ⟨hk1, hk2⟩ := List.mem_filter.mp hk
  rw [e1, e2]
  rcases et key hk1 with ⟨c, hc, rfl⟩ | ⟨c, hc, rfl⟩ | ⟨c, d, hc, hd, rfl⟩ | ⟨z, _⟩
  · exact ⟨c, rfl, .inl ⟨hc, rfl⟩⟩
  · simp [isBr, hc] at hk2
  · exact ⟨c, rfl, .inr ⟨hc, d, hd, rfl⟩⟩
  · cases z
/-- several plays, one after the other: E of at most T, the last one's outcome -/
structure Plays (rs : List Row) (h T : Nat) (pg : Nat → Pg) (E : Nat) (out : Bool) : Prop where
  pl : ∀ j, j < E → ∃ f n, Play rs h (pg j) f n ∧ (f n).2 = pg (j + 1) ∧ decide ((f n).1 = rs.length) = (decide (j + 1 < E) || out)
  le : E ≤ T
  en : out = true → E = T
  e0 : E = 0 → out = true
def spPlayOn (K : PySem.W.Frag) : Sp := fun vs H Q E' => ∃ (v : V) (n : List Nat) (p : Addr) (h T E : Nat) (pg : Nat → Pg) (out : Bool), vs = [v, .ref p, .int (T : Nat)] ∧ RecV K H v n ∧ n.length ≤ 20000 ∧ T ≤ 1000 ∧ (∀ its, Good n its → PageAt K H p (pg 0) h ∧ Plays (rowsM its) h T pg E out ∧
  ∀ H' r dx cnt rr ns, Kp [p] H H' → PageAt K H' p (pg E) h → H' r = some (.ins (ga K "Result") dx (resF (outc out) (pg E) cnt rr)) → H' rr = some (.tup ns) → ns.length ≤ 50000 → Q (.ref r) H') ∧ Rlim K n H E'
abbrev s_play_on : Stmt := top 49
theorem sc_play_on : FnScope ["recording", "page", "times", "rows", "rounds", "presses", "outcome", "_", "count"] ["recording", "page", "times"] (defScope s_play_on) := ⟨rfl, rfl, rfl, by decide +kernel, rfl, by decide +kernel, by decide +kernel⟩
theorem ok_play_on (T : TX K mg) (c_laid_rows : KCal P w K mg base 19 "laid_rows" (spLaid K) []) (c_repeats_of : KCal P w K mg base 20 "repeats_of" (spRepsOf K) []) (c_run : KCal P w K mg base 7 "run" (spRun K) []) (k_Result_4 : KMap P w K mg base 1 "Result" (ga K "Result") (spRes K) []) {f : Addr} {fd : FuncData} (F : FunD K "play_on" "play_on" (defArgs s_play_on) (defBody s_play_on) (defScope s_play_on) [] [] f fd) : FnOk P w K mg base (CX P w) 21 f fd ["recording", "page", "times"] (spPlayOn K) := by
  refine F.ok sc_play_on (fun vs H Q E h => ?_) (fun cdv A outer s H vs Q E hr h => ?_)
  · obtain ⟨v, n, p, h, T', E', pg, out, rfl, _⟩ := h
    rfl
  · obtain ⟨v, n, p, h, T', E', pg, out, rfl, hv, hn, hT, kq, kl⟩ := h
    refine ⟨_, (pss_cons (ps_set (i := 3) sc_play_on.nd rfl (Or.inl rfl) (kx c_laid_rows (takes_of rfl rfl rfl rfl) hr (by decide) rfl (pa_cons (pv 0) pa_nil))) (pss_cons (ps_set (i := 4) sc_play_on.nd rfl (Or.inl rfl) (pe_op op_rep (pe_lst (pa_cons pe_int pa_nil)) (pe_callB call_len_seq (by rfl) T.b_len PySem.boot_len (pa_cons (kx c_repeats_of (takes_of rfl rfl rfl rfl) hr (by decide) rfl (pa_cons (pv 0) pa_nil)) pa_nil)))) (pss_cons (ps_set (i := 5) sc_play_on.nd rfl (Or.inl rfl) pe_int) (pss_cons (ps_set (i := 6) sc_play_on.nd rfl (Or.inl rfl) (pe_strS [100, 111, 110, 101] (by decide +kernel))) (C8.pss_cut (ps_for (passes_of rfl) rfl (pi_range1 (by rfl) T.b_range (pa_cons (pv 2) pa_nil)) (pg_name (i := 7) sc_play_on.nd rfl (Or.inl rfl)) (pss_cons (ps_asg (kc c_run hr (by decide) rfl (pa_cons (pv 3) (pa_cons (pv 1) (pa_cons (pv 4) pa_nil)))) (pg_tup rfl (pgs_cons (pg_name (i := 6) sc_play_on.nd rfl (Or.inl rfl)) (pgs_cons (pg_name (i := 8) sc_play_on.nd rfl (Or.inl rfl)) pgs_nil)))) (pss_cons (ps_aug (i := 5) sc_play_on.nd rfl (Or.inl rfl) (pv 8) ip_add) (pss_one (ps_if (pt_cmpR op_neS (pv 6) (pe_strS [100, 111, 110, 101] (by decide +kernel)) (nomark _)) (pss_one ps_break) pss_nil))))) (pss_one (ps_ret (kmap k_Result_4 hr (by decide) rfl (pa_cons (pv 6) (pa_cons (pv 1) (pa_cons (pv 5) (pa_cons (pv 4) pa_nil)))))))))))), ?_⟩
    refine ⟨_, rfl, v, n, rfl, hv, hn, fun its gd H1 l s1 hl0 hR1 => ?_, kl⟩
    obtain ⟨hP, PL, kq⟩ := kq its gd
    refine ⟨(show 1 ≤ sizeLine by decide), fun z hz => ?_⟩
    have s2 := sNew (o := .lst [.int 0]) (Same.refl _) hz
    have s12 := s1.trans s2
    refine ⟨_, rfl, v, n, rfl, hv.same s12, hn, fun its2 gd2 H3 l3 s3 hl3 hRp => ?_, kl.same s12⟩
    obtain rfl := gd.one gd2
    obtain ⟨ys, hl3', hys⟩ := hRp
    have hyl : ys.length = repsL its := by rw [Paired.length hys, rpsM_len]
    have hz3 := s3 _ _ (upd_same (H := H1) (a := z) (o := .lst [.int 0]))
    obtain ⟨okI, dp, sz⟩ := read_ok gd.1
    have hrk : repsL its ≤ 50000 := by have := repsL_sz its; omega
    refine ⟨l3, _, rfl, .inl (SqL.of hl3'), z, _, _, rfl, rfl, hz3, by omega, by omega, leSz (by rw [hyl]; simp; omega), fun q hq => ?_⟩
    rw [hyl]
    have er : (List.replicate ((repsL its : Nat) : Int).toNat [V.int 0]).flatten = (List.replicate (repsL its) (0 : Int)).map V.int := by
      rw [Int.toNat_natCast]
      generalize repsL its = m
      induction m with
      | zero => rfl
      | succ m ih => rw [List.replicate_succ, List.flatten_cons, ih]; rfl
    rw [er]
    have s4 := sNew (o := .lst ((List.replicate (repsL its) (0 : Int)).map V.int)) (Same.refl _) hq
    have s34 := s3.trans s4
    have sA := s12.trans s34
    have hq0 : H q = none := (s12.trans s3).free hq
    obtain ⟨dx0, hp0⟩ := id hP
    have npq : p ≠ q := ne_of_none hp0 hq0
    have nlq : l ≠ q := by
      obtain ⟨xs, e, _⟩ := hR1
      exact ne_of_none (s3 _ _ (s2 _ _ e)) hq
    have npl : p ≠ l := ne_of_none hp0 hl0
    have hR4 := (hR1.same s2).same s34
    have hrl : (rowsM its).length ≤ 60 := by
      unfold rowsM
      rw [layL_len]
      exact gd.2.1
    refine ⟨fun σ' H' => ∃ (u7 u8 : Option V) (cnt : Int) (ns : List V), σ' = [some v, some (.ref p), some (.int (T' : Nat)), some (.ref l), some (.ref q), some (.int cnt), some (.str (S (outc out))), u7, u8] ∧ Kp [p, q] H H' ∧ PageAt K H' p (pg E') h ∧ H' q = some (.lst ns) ∧ ns.length ≤ 50000, ?_, ?_⟩
    · refine ⟨_, rfl, (T' : Int), rfl, by omega, by omega, ?_⟩
      refine for_range (lo := 0) (n := (T' : Int).toNat) (fun j σ' H' => ∃ (u7 u8 : Option V) (cnt : Int) (ns : List Int), σ' = [some v, some (.ref p), some (.int (T' : Nat)), some (.ref l), some (.ref q), some (.int cnt), some (.str (S [100, 111, 110, 101])), u7, u8] ∧ Kp [p, q] H H' ∧ PageAt K H' p (pg j) h ∧ H' q = some (.lst (ns.map V.int)) ∧ ns.length = repsL its ∧ RowsAt H' l (rowsM its) ∧ j ≤ E' ∧ (j = E' → out = true)) ?_ ?_ ?_
      · exact ⟨_, _, 0, _, rfl, Kp.of_same sA, ⟨dx0, sA _ _ hp0⟩, upd_same, by simp, hR4, by omega, fun z => PL.e0 z.symm⟩
      · rintro j σ' H5 hj ⟨u7, u8, cnt, ns, rfl, kp5, P5, hq5, hns, hR5, hjE, hjo⟩
        have hjT : j < T' := by simpa using hj
        have hjE' : j < E' := by
          refine Nat.lt_of_le_of_ne hjE fun z => ?_
          have := PL.en (hjo z)
          omega
        obtain ⟨f, m, PLj, e1, e2⟩ := PL.pl j hjE'
        refine ⟨_, rfl, _, rfl, _, rfl, l, p, q, rowsM its, pg j, h, m, ns, f, rfl, hR5, by omega, P5, hq5, by omega, by rw [hns]; exact rowsM_ok gd.1, PLj, nlq, fun H6 t ns6 k6 P6 hq6 hns6 ht6 => ?_⟩
        refine ⟨t, _, rfl, SqT.of ht6, rfl, ?_⟩
        refine ⟨_, _, rfl, _, _, rfl, rfl, ?_⟩
        have kp6 := kp5.trans k6
        have P6' : PageAt K H6 p (pg (j + 1)) h := by rw [← e1]; exact P6
        have hR6 : RowsAt H6 l (rowsM its) := by
          obtain ⟨xs, e, r⟩ := hR5
          obtain ⟨dx5, ep5⟩ := P5
          refine ⟨xs, k6 _ _ (by simp; exact ⟨npl.symm, nlq⟩) e, r.keep fun a ys ea => k6 a _ ?_ ea⟩
          simp
          exact ⟨ne_of ea ep5 (by intro z; cases z), ne_of ea hq5 (by intro z; cases z)⟩
        rw [e2]
        refine ⟨_, rfl, _, rfl, _, _, rfl, rfl, ?_⟩
        cases ho : (decide (j + 1 < E') || out) with
        | true =>
          refine ⟨_, rfl, _, _, rfl, rfl, _, rfl, iff' (by decide) ?_⟩
          refine ⟨_, _, _, ns6, rfl, kp6, P6', hq6, by omega, hR6, by omega, fun z => ?_⟩
          rw [decide_eq_false (show ¬ j + 1 < E' by omega), Bool.false_or] at ho
          exact ho
        | false =>
          rw [Bool.or_eq_false_iff] at ho
          have hz : ¬ j + 1 < E' := of_decide_eq_false ho.1
          have ez : j + 1 = E' := by omega
          refine ⟨_, rfl, _, _, rfl, rfl, _, rfl, ift (by decide) ?_⟩
          refine ⟨some (.int (0 + (j : Nat))), some (.int (m : Nat)), cnt + (m : Nat), ns6.map V.int, ?_, kp6, ?_, hq6, by rw [List.length_map]; omega⟩
          · rw [ho.2]; rfl
          · rw [← ez]; exact P6'
      · rintro σ' H5 ⟨u7, u8, cnt, ns, rfl, kp5, P5, hq5, hns, hR5, hjE, hjo⟩
        have e1 : (T' : Int).toNat = E' := by
          have h1 := PL.le
          have h2 : (T' : Int).toNat = T' := by simp
          omega
        rw [e1] at P5 hjo
        have e2 := hjo rfl
        exact ⟨_, _, cnt, _, by rw [e2]; rfl, kp5, P5, hq5, by rw [List.length_map]; omega⟩
    · rintro σ' H5 ⟨u7, u8, cnt, ns, rfl, kp5, P5, hq5, hnl5⟩
      refine ⟨_, rfl, _, rfl, _, rfl, _, rfl, fun x dx hx hdx ne => ?_⟩
      obtain ⟨dx5, ep5⟩ := P5
      have s6 := sIns (C := ga K "Result") hx hdx ne
      have nxp : x ≠ p := (ne_of_none ep5 hx).symm
      have nxq : x ≠ q := (ne_of_none hq5 hx).symm
      have hx0 : H x = none := kp5.free (by simp; exact ⟨nxp, nxq⟩) hx
      refine ⟨x, dx, p, q, outc out, pg E', h, cnt, ns, rfl, upd_same, ⟨dx5, s6 _ _ ep5⟩, s6 _ _ hq5, nxp, by cases out <;> decide, fun H7 r k7 hx7 hr7 => ⟨rfl, ?_⟩⟩
      have kp7 : Kp [p] H H7 := fun a o ha e => by
        by_cases hax : a = x
        · rw [hax, hx0] at e; cases e
        · by_cases haq : a = q
          · rw [haq, hq0] at e; cases e
          · exact k7 a o (by simp; exact hax) (s6 _ _ (kp5 a o (by simp at ha ⊢; exact ⟨ha, haq⟩) e))
      exact kq H7 x dx cnt r ns kp7 ⟨dx5, k7 _ _ (by simp; exact nxp.symm) (s6 _ _ ep5)⟩ hx7 hr7 hnl5
/-- the page that a play begins with -/
abbrev pg0 (t : List Nat) (i : Int) : Pg := ⟨t, i.toNat, none, [], 0⟩
structure PlayE (K : PySem.W.Frag) (n t : List Nat) (i T hd : Int) (H : Hp) (E : XK) : Prop where
  r' : Rlim K n H E
  t' : ∀ its, Good n its → ∀ j, badAt t = some j → Rz (ga K "InvalidText") "place" (.int (j : Nat)) H E
  p' : ∀ its, Good n its → badAt t = none → ¬ (0 ≤ i ∧ i ≤ t.length) → Rz (ga K "InvalidPlace") "place" (.int i) H E
  n' : ∀ its, Good n its → badAt t = none → (0 ≤ i ∧ i ≤ t.length) → ¬ (0 ≤ T ∧ T ≤ 1000) → Rz (ga K "InvalidTimes") "times" (.int T) H E
  h' : ∀ its, Good n its → badAt t = none → (0 ≤ i ∧ i ≤ t.length) → (0 ≤ T ∧ T ≤ 1000) → ¬ (0 ≤ hd ∧ hd ≤ 4) → Rz (ga K "InvalidHold") "hold" (.int hd) H E
def spPlay (K : PySem.W.Frag) : Sp := fun vs H Q E => ∃ (v : V) (n t : List Nat) (i T hd : Int), vs = [v, .str (S t), .int i, .int T, .int hd] ∧ RecV K H v n ∧ n.length ≤ 20000 ∧ t.length ≤ 10000 ∧ PlayE K n t i T hd H E ∧
  (∀ its, Good n its → badAt t = none → (0 ≤ i ∧ i ≤ t.length) → (0 ≤ T ∧ T ≤ 1000) → (0 ≤ hd ∧ hd ≤ 4) → ∃ (N : Nat) (pg : Nat → Pg) (out : Bool), pg 0 = pg0 t i ∧ Plays (rowsM its) hd.toNat T.toNat pg N out ∧
    ∀ H' r dx cnt rr, Same H H' → H' r = some (.ins (ga K "Result") dx (resF (outc out) (pg N) cnt rr)) → Q (.ref r) H')
abbrev s_play : Stmt := top 50
theorem sc_play : FnScope ["recording", "text", "place", "times", "hold"] ["recording", "text", "place", "times", "hold"] (defScope s_play) := ⟨rfl, rfl, rfl, by decide +kernel, rfl, by decide +kernel, by decide +kernel⟩
theorem ok_play (T : TX K mg) (c_laid_rows : KCal P w K mg base 19 "laid_rows" (spLaid K) []) (c_check_text : KCal P w K mg base 3 "check_text" (spCheckText K) []) (c_check_place : KCal P w K mg base 3 "check_place" (spCheckPlace K) []) (c_check_times : KCal P w K mg base 3 "check_times" (spCheckTimes K) []) (k_Page_2_hold : KMak P w K mg base 4 "Page" (ga K "Page") 2 ["hold"] (spInit K) (fun vs zs => vs ++ zs)) (c_play_on : KCal P w K mg base 21 "play_on" (spPlayOn K) []) {f : Addr} {fd : FuncData} (F : FunD K "play" "play" (defArgs s_play) (defBody s_play) (defScope s_play) [.int 1] [("hold", .int 2)] f fd) : FnOk P w K mg base (CX P w) 22 f fd ["recording", "text", "place", "times", "hold"] (spPlay K) := by
  refine F.ok sc_play (fun vs H Q E h => ?_) (fun cdv A outer s H vs Q E hr h => ?_)
  · obtain ⟨v, n, t, i, T', hd, rfl, _⟩ := h
    rfl
  · obtain ⟨v, n, t, i, T', hd, rfl, hv, hn, ht, pe, kq⟩ := h
    refine ⟨_, (pss_cons (ps_expr (kx c_laid_rows (takes_of rfl rfl rfl rfl) hr (by decide) rfl (pa_cons (pv 0) pa_nil))) (pss_cons (ps_expr (kx c_check_text (takes_of rfl rfl rfl rfl) hr (by decide) rfl (pa_cons (pv 1) pa_nil))) (pss_cons (ps_expr (kx c_check_place (takes_of rfl rfl rfl rfl) hr (by decide) rfl (pa_cons (pv 1) (pa_cons (pv 2) pa_nil)))) (pss_cons (ps_expr (kx c_check_times (takes_of rfl rfl rfl rfl) hr (by decide) rfl (pa_cons (pv 3) pa_nil))) (pss_one (ps_ret (kx c_play_on (takes_of rfl rfl rfl rfl) hr (by decide) rfl (pa_cons (pv 0) (pa_cons (kmakx k_Page_2_hold (takes_of rfl rfl rfl rfl) hr (by decide) rfl (pa_cons (pv 1) (pa_cons (pv 2) pa_nil)) (pk_cons (pv 4) pk_nil)) (pa_cons (pv 3) pa_nil)))))))))), ?_⟩
    refine ⟨_, rfl, v, n, rfl, hv, hn, fun its gd H1 l s1 hl0 hR1 => ?_, pe.r'⟩
    refine ⟨_, rfl, t, rfl, fun hb H2 s2 => ?_, fun j hj => (pe.t' its gd j hj).same s1⟩
    have s12 := s1.trans s2
    refine ⟨_, rfl, _, rfl, t, i, rfl, by omega, fun hi => ?_, fun hi => (pe.p' its gd hb hi).same s12⟩
    refine ⟨_, rfl, T', rfl, fun hT => ?_, fun hT => (pe.n' its gd hb hi hT).same s12⟩
    refine ⟨_, rfl, _, rfl, _, rfl, _, rfl, rfl, rfl, fun p dx hp hdx ne => ?_⟩
    have s3 := sIns (C := ga K "Page") hp hdx ne
    have s123 := s12.trans s3
    refine ⟨p, dx, t, i, hd, rfl, by omega, upd_same, fun j hj => (by rw [hb] at hj; cases hj), fun _ z => absurd hi z, fun _ _ hh => (pe.h' its gd hb hi hT hh).same s123, fun _ _ hh H4 k4 hp4 => ⟨rfl, ?_⟩⟩
    obtain ⟨N, pg, out, e0, PL, kq'⟩ := kq its gd hb hi hT hh
    have s4 : Same H2 H4 := fun a o e => k4 a o (by simp; exact ne_of_none e hp) (s3 _ _ e)
    have s14 := s12.trans s4
    refine ⟨_, rfl, v, n, p, hd.toNat, T'.toNat, N, pg, out, ?_, hv.same s14, hn, by omega, fun its2 gd2 => ?_, pe.r'.same s14⟩
    · rw [show ((T'.toNat : Nat) : Int) = T' by omega]; rfl
    · obtain rfl := gd.one gd2
      refine ⟨⟨dx, by rw [e0]; exact hp4⟩, PL, fun H5 r dx5 cnt rr ns5 k5 P5 hr5 _ _ => ?_⟩
      refine kq' H5 r dx5 cnt rr (fun a o e => ?_) hr5
      have e2 := s12 a o e
      exact k5 a o (by simp; exact ne_of_none e2 hp) (s4 a o e2)
def spAcc (K : PySem.W.Frag) : Sp := fun vs H Q E => ∃ (v : V) (n t : List Nat) (i hd : Int), vs = [v, .str (S t), .int i, .int hd] ∧ RecV K H v n ∧ n.length ≤ 20000 ∧ t.length ≤ 10000 ∧ PlayE K n t i 1 hd H E ∧
  (∀ its, Good n its → badAt t = none → (0 ≤ i ∧ i ≤ t.length) → (0 ≤ hd ∧ hd ≤ 4) → ∃ (N : Nat) (pg : Nat → Pg) (out : Bool), pg 0 = pg0 t i ∧ Plays (rowsM its) hd.toNat 1 pg N out ∧ ∀ H', Same H H' → Q (.bl out) H')
abbrev s_accepts : Stmt := top 52
theorem sc_accepts : FnScope ["recording", "text", "place", "hold"] ["recording", "text", "place", "hold"] (defScope s_accepts) := ⟨rfl, rfl, rfl, by decide +kernel, rfl, by decide +kernel, by decide +kernel⟩
theorem ok_accepts (T : TX K mg) (Zr : TRs K) (cn_play_3_hold : KCn P w K mg base 22 "play" 3 ["hold"] (spPlay K) (fun vs zs => vs ++ [.int 1] ++ zs)) {f : Addr} {fd : FuncData} (F : FunD K "accepts" "accepts" (defArgs s_accepts) (defBody s_accepts) (defScope s_accepts) [] [("hold", .int 2)] f fd) : FnOk P w K mg base (CX P w) 23 f fd ["recording", "text", "place", "hold"] (spAcc K) := by
  refine F.ok sc_accepts (fun vs H Q E h => ?_) (fun cdv A outer s H vs Q E hr h => ?_)
  · obtain ⟨v, n, t, i, hd, rfl, _⟩ := h
    rfl
  · obtain ⟨v, n, t, i, hd, rfl, hv, hn, ht, pe, kq⟩ := h
    refine ⟨_, (pss_one (ps_ret (pe_cmpR op_eqS (pe_fld (kxN cn_play_3_hold (takes_of rfl rfl rfl rfl) hr (by decide) rfl (pa_cons (pv 0) (pa_cons (pv 1) (pa_cons (pv 2) pa_nil))) (pk_cons (pv 3) pk_nil)) rfl) (pe_strS [100, 111, 110, 101] (by decide +kernel)) (nomark _)))), ?_⟩
    refine ⟨_, rfl, _, rfl, _, rfl, _, rfl, rfl, rfl, v, n, t, i, 1, hd, rfl, hv, hn, ht, pe, fun its gd hb hi hT hh => ?_⟩
    obtain ⟨N, pg, out, e0, PL, kq'⟩ := kq its gd hb hi hh
    refine ⟨N, pg, out, e0, PL, fun H' r dx cnt rr s' hr' => ?_⟩
    refine ⟨r, _, _, _, _, rfl, hr', Zr.cl, Zr.n_outcome, rfl, _, _, rfl, rfl, ?_⟩
    have e : (if false = true then !decide (outc out = [100, 111, 110, 101]) else decide (outc out = [100, 111, 110, 101])) = out := by cases out <;> decide
    rw [e]
    exact kq' H' s'
abbrev PlF (K : PySem.W.Frag) (f : Addr) (fd : FuncData) : Prop := FunD K "play" "play" (defArgs s_play) (defBody s_play) (defScope s_play) [.int 1] [("hold", .int 2)] f fd
theorem pl_b3h {f : Addr} {fd : FuncData} (F : PlF K f fd) : ∃ g, KBn K fd ["recording", "text", "place", "times", "hold"] 3 ["hold"] g (fun vs zs => vs ++ [.int 1] ++ zs) := by
  obtain ⟨its, mv, b⟩ := FunD.kbinds (ps := ["recording", "text", "place", "times", "hold"]) F 3 ["hold"] [] (fun us its _ ws => us ++ its ++ ws) (by simp) (by simp) (by simp) (fun r1 r2 r3 r4 => Vals.append (Vals.append r1 r2) r4)
    (fun T D doc pm an cdv ct us its mv ws h1 h2 h3 h4 => match us, its, mv, ws, h1, h2, h3, h4 with | [_, _, _], [_], [], [_], _, _, _, _ => ⟨_, rfl, rfl⟩)
  exact ⟨_, b⟩
theorem pl_b4h {f : Addr} {fd : FuncData} (F : PlF K f fd) : ∃ g, KBn K fd ["recording", "text", "place", "times", "hold"] 4 ["hold"] g (fun vs zs => vs ++ zs) := by
  obtain ⟨its, mv, b⟩ := FunD.kbinds (ps := ["recording", "text", "place", "times", "hold"]) F 4 ["hold"] [] (fun us _ _ ws => us ++ ws) (by simp) (by simp) (by simp) (fun r1 r2 r3 r4 => Vals.append r1 r4)
    (fun T D doc pm an cdv ct us its mv ws h1 h2 h3 h4 => match us, its, mv, ws, h1, h2, h3, h4 with | [_, _, _, _], [_], [], [_], _, _, _, _ => ⟨_, rfl, rfl⟩)
  exact ⟨_, b⟩
theorem pl_b3 {f : Addr} {fd : FuncData} (F : PlF K f fd) : ∃ ds, Vals [.int 1, .int 2] ds ∧ Binds K fd ["recording", "text", "place", "times", "hold"] ds :=
  FunD.binds (ps := ["recording", "text", "place", "times", "hold"]) F 3 0 (by simp) (by rfl) (fun T D doc pm an cdv ct us its ks h1 h2 h3 => match us, its, ks, h1, h2, h3 with | [_, _, _], [_], [_], _, _, _ => ⟨_, rfl, ⟨_, _, _, _, _, _, rfl, rfl, rfl⟩⟩) (by simp)
abbrev AcF (K : PySem.W.Frag) (f : Addr) (fd : FuncData) : Prop := FunD K "accepts" "accepts" (defArgs s_accepts) (defBody s_accepts) (defScope s_accepts) [] [("hold", .int 2)] f fd
theorem ac_b3 {f : Addr} {fd : FuncData} (F : AcF K f fd) : ∃ ds, Vals [.int 2] ds ∧ Binds K fd ["recording", "text", "place", "hold"] ds :=
  FunD.binds0 (ps := ["recording", "text", "place", "hold"]) F 3 (by simp) (by rfl) (fun D doc pm an cdv ct us ks h1 h2 => match us, ks, h1, h2 with | [_, _, _], [_], _, _ => ⟨_, _, _, _, _, _, rfl, rfl, rfl⟩)
theorem ac_b3h {f : Addr} {fd : FuncData} (F : AcF K f fd) : ∃ g, KBn K fd ["recording", "text", "place", "hold"] 3 ["hold"] g (fun vs zs => vs ++ zs) := by
  obtain ⟨mv, b⟩ := FunD.kbinds0 (ps := ["recording", "text", "place", "hold"]) F 3 ["hold"] [] (fun us _ ws => us ++ ws) (by simp) (by simp) (fun r1 r2 r3 => Vals.append r1 r3)
    (fun D doc pm an cdv ct us mv ws h1 h2 h3 => match us, mv, ws, h1, h2, h3 with | [_, _, _], [], [_], _, _, _ => rfl)
  exact ⟨_, b⟩
def spCourse (K : PySem.W.Frag) : Sp := fun vs H Q E => ∃ (n : List Nat) (m : Int), vs = [.str (S n), .int m] ∧ n.length ≤ 20000 ∧ (∀ its, Good n its → ∀ H' p, Same H H' → H p = none → H' p = some (.tup [.str (S n)]) → Q (.ref p) H') ∧ Rlim K n H E
abbrev s_course_of : Stmt := top 33
theorem sc_course_of : FnScope ["course", "most", "recording"] ["course", "most"] (defScope s_course_of) := ⟨rfl, rfl, rfl, by decide +kernel, rfl, by decide +kernel, by decide +kernel⟩
theorem ok_course_of (T : TX K mg) (c_items_of : KCal P w K mg base 10 "items_of" (spItems K) []) {f : Addr} {fd : FuncData} (F : FunD K "course_of" "course_of" (defArgs s_course_of) (defBody s_course_of) (defScope s_course_of) [.int 3] [] f fd) : FnOk P w K mg base (CX P w) 11 f fd ["course", "most"] (spCourse K) := by
  refine F.ok sc_course_of (fun vs H Q E h => ?_) (fun cdv A outer s H vs Q E hr h => ?_)
  · obtain ⟨n, m, rfl, _⟩ := h
    rfl
  · obtain ⟨n, m, rfl, hn, kq, kl⟩ := h
    refine ⟨_, (pss_cons (ps_if (pt_not (pt_val (pe_callB call_isi (by rfl) T.b_isinstance (by decide +kernel) (pa_cons (pv 0) (pa_cons (pe_bT "tuple" T.b_tuple (by rfl) (by decide +kernel)) pa_nil))))) (pss_cons (ps_expr (kx c_items_of (takes_of rfl rfl rfl rfl) hr (by decide) rfl (pa_cons (pv 0) pa_nil))) (pss_one (ps_ret (pe_tup (pa_cons (pe_callTy SkE.call_str_str (by rfl) T.b_str (by decide +kernel) (pa_cons (pv 0) pa_nil)) pa_nil))))) pss_nil) pss_no), ?_⟩
    and_intros
    refine ⟨fun its g H1 p s1 hI => ⟨_, rfl, _, rfl, (show 1 ≤ sizeLine by decide), fun r hr => ?_⟩, kl⟩
    exact kq its g _ r (sNew s1 hr) (s1.free hr) upd_same
structure CourseE (K : PySem.W.Frag) (n t : List Nat) (i hd : Int) (H : Hp) (E : XK) : Prop where
  r' : Rlim K n H E
  t' : ∀ its, Good n its → ∀ j, badAt t = some j → Rz (ga K "InvalidText") "place" (.int (j : Nat)) H E
  p' : ∀ its, Good n its → badAt t = none → ¬ (0 ≤ i ∧ i ≤ t.length) → Rz (ga K "InvalidPlace") "place" (.int i) H E
  h' : ∀ its, Good n its → badAt t = none → (0 ≤ i ∧ i ≤ t.length) → ¬ (0 ≤ hd ∧ hd ≤ 4) → Rz (ga K "InvalidHold") "hold" (.int hd) H E
def spPlayC (K : PySem.W.Frag) : Sp := fun vs H Q E => ∃ (n t : List Nat) (i hd : Int), vs = [.str (S n), .str (S t), .int i, .int hd] ∧ n.length ≤ 20000 ∧ t.length ≤ 10000 ∧ CourseE K n t i hd H E ∧
  (∀ its, Good n its → badAt t = none → (0 ≤ i ∧ i ≤ t.length) → (0 ≤ hd ∧ hd ≤ 4) → ∃ (N : Nat) (pg : Nat → Pg) (out : Bool), pg 0 = pg0 t i ∧ Plays (rowsM its) hd.toNat 1 pg N out ∧
    ∀ H' r, Same H H' → Q (.ref r) H')
abbrev s_play_course : Stmt := top 51
theorem sc_play_course : FnScope ["course", "text", "place", "hold", "notations", "page", "presses", "rounds", "outcome", "number", "notation", "result"] ["course", "text", "place", "hold"] (defScope s_play_course) := ⟨rfl, rfl, rfl, by decide +kernel, rfl, by decide +kernel, by decide +kernel⟩
theorem ok_play_course (T : TX K mg) (Zr : TRs K) (c_course_of : KCal P w K mg base 11 "course_of" (spCourse K) [.int 3]) (k_Page_2_hold : KMak P w K mg base 4 "Page" (ga K "Page") 2 ["hold"] (spInit K) (fun vs zs => vs ++ zs)) (c_play_on : KCal P w K mg base 21 "play_on" (spPlayOn K) []) (k_Result_4 : KMap P w K mg base 1 "Result" (ga K "Result") (spRes K) []) {f : Addr} {fd : FuncData} (F : FunD K "play_course" "play_course" (defArgs s_play_course) (defBody s_play_course) (defScope s_play_course) [] [("hold", .int 2)] f fd) : FnOk P w K mg base (CX P w) 22 f fd ["course", "text", "place", "hold"] (spPlayC K) := by
  refine F.ok sc_play_course (fun vs H Q E h => ?_) (fun cdv A outer s H vs Q E hr h => ?_)
  · obtain ⟨n, t, i, hd, rfl, _⟩ := h
    rfl
  · obtain ⟨n, t, i, hd, rfl, hn, ht, pe, kq⟩ := h
    refine ⟨_, (pss_cons (ps_set (i := 4) sc_play_course.nd rfl (Or.inl rfl) (kx c_course_of (takes_of rfl rfl rfl rfl) hr (by decide) rfl (pa_cons (pv 0) pa_nil))) (pss_cons (ps_set (i := 5) sc_play_course.nd rfl (Or.inl rfl) (kmakx k_Page_2_hold (takes_of rfl rfl rfl rfl) hr (by decide) rfl (pa_cons (pv 1) (pa_cons (pv 2) pa_nil)) (pk_cons (pv 3) pk_nil))) (pss_cons (ps_set (i := 6) sc_play_course.nd rfl (Or.inl rfl) pe_int) (pss_cons (ps_set (i := 7) sc_play_course.nd rfl (Or.inl rfl) (pe_lst pa_nil)) (pss_cons (ps_set (i := 8) sc_play_course.nd rfl (Or.inl rfl) (pe_strS [100, 111, 110, 101] (by decide +kernel))) (pss_cons (ps_for (passes_of rfl) rfl (pi_enumT (by rfl) T.b_enumerate (pa_cons (pv 4) pa_nil)) (pg_tup rfl (pgs_cons (pg_name (i := 9) sc_play_course.nd rfl (Or.inl rfl)) (pgs_cons (pg_name (i := 10) sc_play_course.nd rfl (Or.inl rfl)) pgs_nil))) (C8.pss_cut (ps_if (pt_cmpR op_gt (pv 9) pe_int (nomark _)) (pss_one (ps_set (i := 5) sc_play_course.nd rfl (Or.inl rfl) (kmakx k_Page_2_hold (takes_of rfl rfl rfl rfl) hr (by decide) rfl (pa_cons (pe_fld (pv 5) rfl) (pa_cons (pv 2) pa_nil)) (pk_cons (pv 3) pk_nil)))) pss_nil) (pss_cons (ps_set (i := 11) sc_play_course.nd rfl (Or.inl rfl) (kx c_play_on (takes_of rfl rfl rfl rfl) hr (by decide) rfl (pa_cons (pv 10) (pa_cons (pv 5) (pa_cons pe_int pa_nil))))) (pss_cons (ps_set (i := 8) sc_play_course.nd rfl (Or.inl rfl) (pe_fld (pv 11) rfl)) (pss_cons (ps_if (pt_cmpR op_eqS (pv 8) (pe_strS [101, 110, 100, 108, 101, 115, 115] (by decide +kernel)) (nomark _)) (pss_one ps_break) pss_nil) (pss_cons (ps_aug (i := 6) sc_play_course.nd rfl (Or.inl rfl) (pe_fld (pv 11) rfl) ip_add) (pss_one (ps_expr (pe_bm PySem.F.plainAttrs_list PySem.F.slot_list_extend PySem.F.type_list_extend mt_extendT (pv 7) (pa_cons (pe_fld (pv 11) rfl) pa_nil)))))))))) (pss_one (ps_ret (kmapx k_Result_4 (takes_of rfl rfl rfl rfl) hr (by decide) rfl (pa_cons (pv 8) (pa_cons (pv 5) (pa_cons (pv 6) (pa_cons (pv 7) pa_nil))))))))))))), ?_⟩
    refine ⟨_, rfl, n, 3, rfl, hn, fun its gd H1 l s1 hl0 hl1 => ?_, pe.r'⟩
    refine ⟨_, rfl, _, rfl, _, rfl, rfl, rfl, fun p dx hp hdx ne => ?_⟩
    have s3 := sIns (C := ga K "Page") hp hdx ne
    have s13 := s1.trans s3
    refine ⟨p, dx, t, i, hd, rfl, by omega, upd_same, fun j hj => (pe.t' its gd j hj).same s13, fun hb hi => (pe.p' its gd hb hi).same s13, fun hb hi hh => (pe.h' its gd hb hi hh).same s13, fun hb hi hh H4 k4 hp4 => ⟨rfl, ?_⟩⟩
    obtain ⟨N, pg, out, e0, PL, kq'⟩ := kq its gd hb hi hh
    have s4 : Same H1 H4 := fun a o e => k4 a o (by simp; exact ne_of_none e hp) (s3 _ _ e)
    have s14 := s1.trans s4
    refine ⟨by decide, fun D hD => ?_⟩
    have s5 := sNew (o := .lst []) (Same.refl H4) hD
    have s15 := s14.trans s5
    have hp0 : H1 p = none := hp
    have nDp : D ≠ p := (ne_of_none hp4 hD).symm
    have nlp : l ≠ p := ne_of_none hl1 hp
    have nlD : l ≠ D := ne_of_none (s4 _ _ hl1) hD
    have hl5 := s5 _ _ (s4 _ _ hl1)
    refine ⟨_, rfl, l, [.str (S n)], rfl, SqT.of hl5, for_it (walk_enumT (xs := [.str (S n)])) (fun j σ' H' => ∃ (u9 u10 u11 : Option V) (pr : Int) (ns : List V) (o : List Nat), σ' = [some (.str (S n)), some (.str (S t)), some (.int i), some (.int hd), some (.ref l), some (.ref p), some (.int pr), some (.ref D), some (.str (S o)), u9, u10, u11] ∧ Kp [p, D] (upd H4 D (.lst [])) H' ∧ PageAt K H' p (if j = 0 then pg 0 else pg N) hd.toNat ∧ H' D = some (.lst ns) ∧ ns.length ≤ 50000 * j ∧ o ≠ endl) ?_ ?_ ?_ ?_⟩
    · exact ⟨_, _, _, 0, [], _, rfl, Kp.refl, ⟨dx, by rw [if_pos rfl, e0]; exact s5 _ _ hp4⟩, upd_same, by simp, by decide⟩
    · rintro j σ' H' hj ⟨u9, u10, u11, pr, ns, o, rfl, k6, _⟩
      exact SqT.of (k6 _ _ (by simp; exact ⟨nlp, nlD⟩) hl5)
    · rintro j v σ' H6 H7 hj ⟨u9, u10, u11, pr, ns, o, rfl, k6, P6, hD6, hns6, ho6⟩ ⟨tt, x, rfl, htt, rfl, hx⟩
      obtain rfl : j = 0 := by simp at hj; exact hj
      obtain rfl : x = .str (S n) := by simpa using hx.symm
      have s7 := sNew (o := .tup [.int ((0 : Nat) : Int), .str (S n)]) (Same.refl H6) htt
      refine ⟨tt, _, rfl, SqT.of upd_same, rfl, ?_⟩
      refine ⟨_, _, rfl, _, _, rfl, rfl, ?_⟩
      have k7 := k6.trans (Kp.of_same s7)
      have P7 := P6.same s7
      rw [if_pos rfl] at P7
      have hD7 := s7 _ _ hD6
      generalize upd H6 tt (.tup [.int ((0 : Nat) : Int), .str (S n)]) = H7 at *
      refine ⟨fun σ' H' => σ' = [some (.str (S n)), some (.str (S t)), some (.int i), some (.int hd), some (.ref l), some (.ref p), some (.int pr), some (.ref D), some (.str (S o)), some (.int ((0 : Nat) : Int)), some (.str (S n)), u11] ∧ H' = H7, ?_, ?_⟩
      · exact ⟨_, rfl, _, _, rfl, rfl, _, rfl, iff' (by decide) ⟨rfl, rfl⟩⟩
      rintro σ' H' ⟨rfl, rfl⟩
      refine ⟨_, rfl, _, rfl, .str (S n), n, p, hd.toNat, 1, N, pg, out, rfl, .inl rfl, hn, by decide, fun its2 gd2 => ?_, gd.lim⟩
      obtain rfl := gd.one gd2
      refine ⟨P7, PL, fun H8 r dx8 cnt rr ns8 k8 P8 hr8 hrr hnl => ?_⟩
      have hD8 := k8 _ _ (by simp; exact nDp) hD7
      refine ⟨_, rfl, r, _, _, _, _, rfl, hr8, Zr.cl, Zr.n_outcome, rfl, ?_⟩
      refine ⟨_, rfl, _, _, rfl, rfl, _, rfl, iff' (by cases out <;> decide) ?_⟩
      refine ⟨_, rfl, _, rfl, r, _, _, _, _, rfl, hr8, Zr.cl, Zr.n_presses, rfl, _, _, rfl, rfl, ?_⟩
      refine ⟨_, rfl, tyL hD8, _, rfl, r, _, _, _, _, rfl, hr8, Zr.cl, Zr.n_rounds, rfl, D, rr, ns, ns8, rfl, rfl, hD8, hrr, leSz (by omega), ?_⟩
      refine ⟨_, _, _, _, ns ++ ns8, outc out, rfl, (k7.trans (k8.mono (by simp))).upd (by simp), ?_, upd_same, by rw [List.length_append]; omega, by cases out <;> decide⟩
      obtain ⟨d8, e8⟩ := P8
      exact ⟨d8, by rw [upd_ne nDp.symm]; exact e8⟩
    · rintro σ' H6 ⟨u9, u10, u11, pr, ns, o, rfl, k6, P6, hD6, hns6, ho6⟩
      refine ⟨_, rfl, _, rfl, _, rfl, _, rfl, fun x dx' hx hdx' ne' => ?_⟩
      obtain ⟨dx6, ep6⟩ := P6
      have s6 := sIns (C := ga K "Result") hx hdx' ne'
      have nxp : x ≠ p := (ne_of_none ep6 hx).symm
      have nxD : x ≠ D := (ne_of_none hD6 hx).symm
      refine ⟨x, dx', p, D, o, _, hd.toNat, pr, ns, rfl, upd_same, ⟨dx6, s6 _ _ ep6⟩, s6 _ _ hD6, nxp, ho6, fun H7 r k7 hx7 hr7 => ⟨rfl, ?_⟩⟩
      refine kq' H7 x fun a o ha => ?_
      have hap : a ≠ p := ne_of_none (s1 _ _ ha) hp
      have haD : a ≠ D := ne_of_none (s14 _ _ ha) hD
      have h6 := k6 a o (by simp; exact ⟨hap, haD⟩) (s15 _ _ ha)
      exact k7 a o (by simp; exact ne_of_none h6 hx) (s6 _ _ h6)
theorem sg_bad {t : List Nat} (h : badAt t = none) : ∀ a ∈ t, a ∈ sgn := by
  unfold badAt at h
  rw [List.findIdx?_eq_none_iff] at h
  intro a ha
  simpa using h a ha
structure TraceE (K : PySem.W.Frag) (n t : List Nat) (i hd m : Int) (H : Hp) (E : XK) : Prop where
  r' : Rlim K n H E
  t' : ∀ its, Good n its → ∀ j, badAt t = some j → Rz (ga K "InvalidText") "place" (.int (j : Nat)) H E
  p' : ∀ its, Good n its → badAt t = none → ¬ (0 ≤ i ∧ i ≤ t.length) → Rz (ga K "InvalidPlace") "place" (.int i) H E
  h' : ∀ its, Good n its → badAt t = none → (0 ≤ i ∧ i ≤ t.length) → ¬ (0 ≤ hd ∧ hd ≤ 4) → Rz (ga K "InvalidHold") "hold" (.int hd) H E
  n' : ∀ its, Good n its → badAt t = none → (0 ≤ i ∧ i ≤ t.length) → (0 ≤ hd ∧ hd ≤ 4) → ¬ (0 ≤ m ∧ m ≤ 1000) → Rz (ga K "InvalidTimes") "times" (.int m) H E
def spTrace (K : PySem.W.Frag) : SpG := fun vs H cont E => ∃ (v : V) (n t : List Nat) (i hd m : Int), vs = [v, .str (S t), .int i, .int hd, .int m] ∧ RecV K H v n ∧ n.length ≤ 20000 ∧ t.length ≤ 10000 ∧ TraceE K n t i hd m H E ∧
  (∀ its, Good n its → badAt t = none → (0 ≤ i ∧ i ≤ t.length) → (0 ≤ hd ∧ hd ≤ 4) → (0 ≤ m ∧ m ≤ 1000) → ∀ out H', Same H H' → cont out H')
abbrev s_trace : Stmt := top 53
theorem sc_trace : GScope ["recording", "text", "place", "hold", "most", "rows", "page", "number", "presses", "worked", "key", "sign", "onward", "failing"] ["recording", "text", "place", "hold", "most"] (defScope s_trace) := ⟨rfl, rfl, rfl, by decide +kernel, rfl, by decide +kernel, by decide +kernel⟩
theorem ok_trace (T : TX K mg) (Z : TP K) (c_laid_rows : KCal P w K mg base 19 "laid_rows" (spLaid K) []) (c_check_times : KCal P w K mg base 3 "check_times" (spCheckTimes K) []) (k_Page_2_hold : KMak P w K mg base 4 "Page" (ga K "Page") 2 ["hold"] (spInit K) (fun vs zs => vs ++ zs)) (m_Page_act : KMet P w K mg base 5 (ga K "Page") "act" (spAct K)) {f : Addr} {fd : FuncData} (F : FunD K "trace" "trace" (defArgs s_trace) (defBody s_trace) (defScope s_trace) [] [("hold", .int 2), ("most", .int 100)] f fd) : GFn P w K mg base (20 + 1) f fd ["recording", "text", "place", "hold", "most"] (spTrace K) := by
  obtain ⟨oc, od, dV, kV, doc, pm, an, cdv, ct, osl, rfl, lk, hcd, hD, hK⟩ := F.ex
  refine gfn_of (k := 20) lk hcd sc_trace (fun vs H Q E h => ?_) (fun A outer s H vs Q E pn hr h => ?_)
  · obtain ⟨v, n, t, i, hd, m, rfl, _⟩ := h
    rfl
  · obtain ⟨v, n, t, i, hd, m, rfl, hv, hn, ht, pe, kq⟩ := h
    refine ⟨_, (gss_cons (gs_ps (ps_set (i := 5) sc_trace.nd rfl (Or.inl rfl) (kx c_laid_rows takes_gcx hr (by decide) rfl (pa_cons (pv 0) pa_nil)))) (gss_cons (gs_ps (ps_set (i := 6) sc_trace.nd rfl (Or.inl rfl) (kmakx k_Page_2_hold takes_gcx hr (by decide) rfl (pa_cons (pv 1) (pa_cons (pv 2) pa_nil)) (pk_cons (pv 3) pk_nil)))) (gss_cons (gs_ps (ps_expr (kx c_check_times takes_gcx hr (by decide) rfl (pa_cons (pv 4) pa_nil)))) (gss_cons (gs_ps (ps_set (i := 7) sc_trace.nd rfl (Or.inl rfl) pe_int)) (gss_cons (gs_ps (ps_set (i := 8) sc_trace.nd rfl (Or.inl rfl) pe_int)) (gss_cons (gs_while owns_gcx (pt_cut (PW.pt (pw_and (pt_cmpR op_lt (pv 7) (pe_callB call_len_seq (by rfl) T.b_len PySem.boot_len (pa_cons (pv 5) pa_nil)) (nomark _)) (pw_and1 (pt_cmpR op_lt (pv 8) (pv 4) (nomark _)))))) (gss_cons (gs_ps (ps_asg (pe_ix ix_list (pv 5) (pv 7) (fun _ _ => rfl)) (pg_tup rfl (pgs_cons (pg_name (i := 10) sc_trace.nd rfl (Or.inl rfl)) (pgs_cons (pg_name (i := 11) sc_trace.nd rfl (Or.inl rfl)) (pgs_cons (pg_name (i := 12) sc_trace.nd rfl (Or.inl rfl)) (pgs_cons (pg_name (i := 13) sc_trace.nd rfl (Or.inl rfl)) pgs_nil))))))) (gss_cons (gs_ps (ps_set (i := 9) sc_trace.nd rfl (Or.inl rfl) (km m_Page_act hr (by decide) (pv 6) (pa_cons (pv 10) (pa_cons (pv 11) pa_nil))))) (gss_cons (gs_ps (ps_aug (i := 8) sc_trace.nd rfl (Or.inl rfl) pe_int ip_add)) (gss_cons (gs_yield (pe_tup (pa_cons (pv 7) (pa_cons (pv 9) (pa_cons (pe_fld (pv 6) rfl) (pa_cons (pe_fld (pv 6) rfl) pa_nil)))))) (gss_pss (pss_one (ps_set (i := 7) sc_trace.nd rfl (Or.inl rfl) (pe_ifExp (pt_val (pv 9)) (pe_ix ix_tup (pv 12) pe_int (fun _ _ => rfl)) (pe_ix ix_tup (pv 13) pe_int (fun _ _ => rfl))))))))))) gss_nil)))))), ?_⟩
    refine ⟨_, rfl, v, n, rfl, hv, hn, fun its gd H1 l s1 hl0 hR1 => ?_, pe.r'⟩
    refine ⟨_, rfl, _, rfl, _, rfl, rfl, rfl, fun p dx hp hdx ne => ?_⟩
    have s3 := sIns (C := ga K "Page") hp hdx ne
    have s13 := s1.trans s3
    refine ⟨p, dx, t, i, hd, rfl, by omega, upd_same, fun j hj => (pe.t' its gd j hj).same s13, fun hb hi => (pe.p' its gd hb hi).same s13, fun hb hi hh => (pe.h' its gd hb hi hh).same s13, fun hb hi hh H4 k4 hp4 => ⟨rfl, ?_⟩⟩
    have s4 : Same H1 H4 := fun a o e => k4 a o (by simp; exact ne_of_none e hp) (s3 _ _ e)
    have s14 := s1.trans s4
    refine ⟨_, rfl, m, rfl, fun hm => ?_, fun hm => (pe.n' its gd hb hi hh hm).same s14⟩
    have kq := kq its gd hb hi hh hm
    obtain ⟨xs, hl1, hRv⟩ := hR1
    have hxl : xs.length = (rowsM its).length := Paired.length hRv
    have hl4 := s4 _ _ hl1
    have nlp : l ≠ p := ne_of_none hl1 hp
    have fin : ∀ out H', Kp [p] H4 H' → Q out H' := fun out H' k => kq out H' fun a o ha => k a o (by simp; exact ne_of_none (s1 _ _ ha) hp) (s14 _ _ ha)
    refine ⟨fun mm ys σ' H' => ∃ (num k : Nat) (g : Pg) (u9 u10 u11 u12 u13 : Option V), σ' = [some v, some (.str (S t)), some (.int i), some (.int hd), some (.int m), some (.ref l), some (.ref p), some (.int (num : Nat)), some (.int (k : Nat)), u9, u10, u11, u12, u13] ∧ mm = m.toNat - k ∧ k ≤ m.toNat ∧ Kp [p] H4 H' ∧ PageAt K H' p g hd.toNat ∧ PgOk hd.toNat g ∧ g.t.length ≤ 10000 + 5 * k ∧ ys.length ≤ k,
      ⟨m.toNat, 0, 0, _, none, none, none, none, none, rfl, rfl, Nat.zero_le _, Kp.refl, ⟨dx, hp4⟩, ⟨by show i.toNat ≤ t.length; omega, (fun x hx => by cases hx), Nat.zero_le _, sg_bad hb, by simp, by omega⟩, ht, Nat.le_refl _⟩, ?_⟩
    rintro mm ys σ' H5 ⟨num, k, g, u9, u10, u11, u12, u13, rfl, rfl, hk, k5, P5, ok5, ht5, hys⟩
    have hl5 := k5 _ _ (by simp; exact nlp) hl4
    refine ⟨fun b H' => H' = H5 ∧ (b = true → num < (rowsM its).length ∧ k < m.toNat), ?_, ?_⟩
    · refine ⟨_, rfl, _, rfl, l, _, rfl, .inl (SqL.of hl5), _, _, rfl, rfl, _, rfl, ?_⟩
      rw [hxl]
      refine if2 (fun c1 => ?_) (fun c1 => ⟨rfl, fun z => by cases z⟩)
      have c1 := of_decide_eq_true c1
      refine ⟨_, rfl, _, rfl, _, _, rfl, rfl, _, rfl, rfl, fun c2 => ?_⟩
      have c2 := of_decide_eq_true c2
      omega
    · rintro b H' ⟨rfl, hb'⟩
      refine if2 (fun c => ?_) (fun c => fin _ _ k5)
      obtain ⟨hnum, hkm⟩ := hb' c
      refine ⟨fun ys' σ' H' => ∃ (num' : Nat) (g : Pg) (u9 u10 u11 u12 u13 : Option V), σ' = [some v, some (.str (S t)), some (.int i), some (.int hd), some (.int m), some (.ref l), some (.ref p), some (.int (num' : Nat)), some (.int ((k + 1 : Nat) : Int)), u9, u10, u11, u12, u13] ∧ Kp [p] H4 H' ∧ PageAt K H' p g hd.toNat ∧ PgOk hd.toNat g ∧ g.t.length ≤ 10000 + 5 * (k + 1) ∧ ys'.length ≤ k + 1, ?_, ?_⟩
      · rintro ys' σ2 H2 ⟨num', g', v9, v10, v11, v12, v13, rfl, e1, e2, e3, e4, e5⟩
        exact ⟨m.toNat - (k + 1), by omega, num', k + 1, g', v9, v10, v11, v12, v13, rfl, rfl, by omega, e1, e2, e3, e4, e5⟩
      have hrow : (rowsM its)[num]? = some (rowsM its)[num] := List.getElem?_eq_getElem hnum
      generalize (rowsM its)[num] = row at hrow
      have tk5 : Tk H1 H' := fun x u e => k5 x _ (by simp; exact ne_of_none e hp) (s4 _ _ e)
      have hRk : RowsV H' xs (rowsM its) := RowsV.keep tk5 hRv
      obtain ⟨x, hx, rp, ro, rf, rfl, hrp, hro4, hrf4⟩ := pairAt' hRk hrow
      obtain ⟨⟨c, hc, hvk⟩, hro1, hro2⟩ := rowsM_ok gd.1 row (List.mem_of_getElem? hrow)
      rw [hc] at hrp
      refine ⟨_, rfl, _, rfl, l, _, _, _, rfl, rfl, SqL.of hl5, atIn hx, ?_⟩
      refine ⟨rp, _, rfl, SqT.of hrp, rfl, ?_⟩
      refine ⟨_, _, rfl, _, _, rfl, _, _, rfl, _, _, rfl, rfl, ?_⟩
      obtain ⟨dx5, hp5⟩ := id P5
      refine ⟨_, rfl, p, dx5, _, rfl, hp5, nm_act, _, rfl, _, rfl, p, g, hd.toNat, c, row.s, rfl, hvk, P5, ok5, by omega, fun H6 k6 P6 => ?_⟩
      obtain ⟨okA, lenA⟩ := act_ok ok5 hvk
      refine ⟨_, rfl, _, _, rfl, rfl, ?_⟩
      obtain ⟨dx6, hp6⟩ := id P6
      refine ⟨ltSz (by omega), _, rfl, _, rfl, _, rfl, p, _, _, _, _, rfl, hp6, Z.cl, Z.n_text, lk_text, _, rfl, p, _, _, _, _, rfl, hp6, Z.cl, Z.n_caret, lk_caret, (show 4 ≤ sizeLine by decide), fun tt htt => ?_⟩
      have s7 := sNew (o := .tup [.int (num : Nat), .bl (Pg.act hd.toNat g c row.s).1, .str (S (Pg.act hd.toNat g c row.s).2.t), .int ((Pg.act hd.toNat g c row.s).2.c : Nat)]) (Same.refl H6) htt
      have k7 : Kp [p] H4 _ := (k5.trans k6).trans (Kp.of_same s7)
      have P7 := P6.same s7
      have tk6 : Tk H' H6 := fun x u e => k6 x _ (by simp; exact ne_of e hp5 (by intro z; cases z)) e
      have hro6 : TgAt H6 ro row.o := tk6 _ _ hro4
      have hrf6 : TgAt H6 rf row.f := tk6 _ _ hrf4
      have hro7 := s7 _ _ hro6
      have hrf7 := s7 _ _ hrf6
      generalize upd H6 tt (.tup [.int (num : Nat), .bl (Pg.act hd.toNat g c row.s).1, .str (S (Pg.act hd.toNat g c row.s).2.t), .int ((Pg.act hd.toNat g c row.s).2.c : Nat)]) = H7 at *
      have hlen : ∀ z : V, (ys ++ [z]).length ≤ k + 1 := fun z => by rw [List.length_append]; simp only [List.length_cons, List.length_nil]; omega
      refine ⟨_, rfl, _, rfl, ?_⟩
      refine if2 (fun cw => ?_) (fun cw => ?_)
      · refine ⟨_, rfl, ro, _, 0, _, rfl, rfl, SqT.of hro7, rfl, ?_⟩
        exact ⟨row.o.1, _, _, _, _, _, _, rfl, k7, P7, okA, by omega, hlen _⟩
      · refine ⟨_, rfl, rf, _, 0, _, rfl, rfl, SqT.of hrf7, rfl, ?_⟩
        exact ⟨row.f.1, _, _, _, _, _, _, rfl, k7, P7, okA, by omega, hlen _⟩
def spReplays (K : PySem.W.Frag) : SpG := fun vs H cont E => ∃ (v : V) (n t : List Nat) (i hd m : Int), vs = [v, .str (S t), .int i, .int hd, .int m] ∧ RecV K H v n ∧ n.length ≤ 20000 ∧ t.length ≤ 10000 ∧ TraceE K n t i hd m H E ∧
  (∀ its, Good n its → badAt t = none → (0 ≤ i ∧ i ≤ t.length) → (0 ≤ hd ∧ hd ≤ 4) → (0 ≤ m ∧ m ≤ 1000) → ∃ G : Nat → List Nat → Prop, G 0 t ∧ (∀ j t', j < m.toNat → G j t' → t'.length ≤ 10000 ∧ badAt t' = none ∧ (0 ≤ i ∧ i ≤ t'.length) ∧ ∃ (N : Nat) (pg : Nat → Pg) (out : Bool), pg 0 = pg0 t' i ∧ Plays (rowsM its) hd.toNat 1 pg N out ∧ G (j + 1) (pg N).t) ∧ ∀ out H', Same H H' → cont out H')
abbrev s_replays : Stmt := top 54
theorem sc_replays : GScope ["recording", "text", "place", "hold", "most", "_", "result"] ["recording", "text", "place", "hold", "most"] (defScope s_replays) := ⟨rfl, rfl, rfl, by decide +kernel, rfl, by decide +kernel, by decide +kernel⟩
theorem ok_replays (T : TX K mg) (Zr : TRs K) (c_laid_rows : KCal P w K mg base 19 "laid_rows" (spLaid K) []) (c_check_text : KCal P w K mg base 3 "check_text" (spCheckText K) []) (c_check_place : KCal P w K mg base 3 "check_place" (spCheckPlace K) []) (c_check_hold : KCal P w K mg base 3 "check_hold" (spCheckHold K) []) (c_check_times : KCal P w K mg base 3 "check_times" (spCheckTimes K) []) (cn_play_3_hold : KCn P w K mg base 22 "play" 3 ["hold"] (spPlay K) (fun vs zs => vs ++ [.int 1] ++ zs)) {f : Addr} {fd : FuncData} (F : FunD K "replays" "replays" (defArgs s_replays) (defBody s_replays) (defScope s_replays) [] [("hold", .int 2), ("most", .int 20)] f fd) : GFn P w K mg base (23 + 1) f fd ["recording", "text", "place", "hold", "most"] (spReplays K) := by
  obtain ⟨oc, od, dV, kV, doc, pm, an, cdv, ct, osl, rfl, lk, hcd, hD, hK⟩ := F.ex
  refine gfn_of (k := 23) lk hcd sc_replays (fun vs H Q E h => ?_) (fun A outer s H vs Q E pn hr h => ?_)
  · obtain ⟨v, n, t, i, hd, m, rfl, _⟩ := h
    rfl
  · obtain ⟨v, n, t, i, hd, m, rfl, hv, hn, ht, pe, kq⟩ := h
    refine ⟨_, (gss_cons (gs_ps (ps_expr (kx c_laid_rows takes_gcx hr (by decide) rfl (pa_cons (pv 0) pa_nil)))) (gss_cons (gs_ps (ps_expr (kx c_check_text takes_gcx hr (by decide) rfl (pa_cons (pv 1) pa_nil)))) (gss_cons (gs_ps (ps_expr (kx c_check_place takes_gcx hr (by decide) rfl (pa_cons (pv 1) (pa_cons (pv 2) pa_nil))))) (gss_cons (gs_ps (ps_expr (kx c_check_hold takes_gcx hr (by decide) rfl (pa_cons (pv 3) pa_nil)))) (gss_cons (gs_ps (ps_expr (kx c_check_times takes_gcx hr (by decide) rfl (pa_cons (pv 4) pa_nil)))) (gss_cons (gs_for owns_gcx rfl (pi_range1 (by rfl) T.b_range (pa_cons (pv 4) pa_nil)) (pg_name (i := 5) sc_replays.nd rfl (Or.inl rfl)) (gss_cons (gs_ps (ps_set (i := 6) sc_replays.nd rfl (Or.inl rfl) (kxN cn_play_3_hold takes_gcx hr (by decide) rfl (pa_cons (pv 0) (pa_cons (pv 1) (pa_cons (pv 2) pa_nil))) (pk_cons (pv 3) pk_nil)))) (gss_cons (gs_ps (ps_if (pt_cut (PW.pt (pw_or (pt_cmpR op_isN (pe_fld (pv 6) rfl) pe_non (nomark _)) (pw_or1 (pt_cmpR op_eqS (pe_fld (pv 6) rfl) (pv 1) (nomark _)))))) (pss_one ps_retN) pss_nil)) (gss_cons (gs_ps (ps_set (i := 1) sc_replays.nd rfl (Or.inl rfl) (pe_fld (pv 6) rfl))) (gss_cons (gs_yield (pv 1)) gss_nil))))) gss_nil)))))), ?_⟩
    refine ⟨_, rfl, v, n, rfl, hv, hn, fun its gd H1 l s1 hl0 hR1 => ?_, pe.r'⟩
    refine ⟨_, rfl, t, rfl, fun hb H2 s2 => ?_, fun j hj => (pe.t' its gd j hj).same s1⟩
    have s12 := s1.trans s2
    refine ⟨_, rfl, _, rfl, t, i, rfl, by omega, fun hi => ?_, fun hi => (pe.p' its gd hb hi).same s12⟩
    refine ⟨_, rfl, hd, rfl, fun hh => ?_, fun hh => (pe.h' its gd hb hi hh).same s12⟩
    refine ⟨_, rfl, m, rfl, fun hm => ?_, fun hm => (pe.n' its gd hb hi hh hm).same s12⟩
    obtain ⟨G, g0, gs, kq⟩ := kq its gd hb hi hh hm
    refine ⟨_, rfl, m, rfl, by omega, by omega, ?_⟩
    refine ⟨fun j mm ys σ' H' => ∃ (t' : List Nat) (u5 u6 : Option V), σ' = [some v, some (.str (S t')), some (.int i), some (.int hd), some (.int m), u5, u6] ∧ j + mm = m.toNat ∧ Same H H' ∧ G j t' ∧ ys.length ≤ j, ⟨m.toNat, t, none, none, rfl, by omega, s12, g0, Nat.le_refl _⟩, ?_⟩
    rintro j mm ys σ' H3 ⟨t', u5, u6, rfl, hj, s3, gt, hys⟩
    by_cases hjm : j < m.toNat
    · refine .inr ⟨hjm, fun ys' σ' H' => ∃ (t' : List Nat) (u5 u6 : Option V), σ' = [some v, some (.str (S t')), some (.int i), some (.int hd), some (.int m), u5, u6] ∧ Same H H' ∧ G (j + 1) t' ∧ ys'.length ≤ j + 1, ?_, ?_⟩
      · rintro ys' σ2 H2 ⟨t2, v5, v6, rfl, e1, e2, e3⟩
        exact ⟨mm - 1, by omega, t2, v5, v6, rfl, by omega, e1, e2, e3⟩
      rintro x H4 ⟨rfl, hx⟩
      obtain ⟨tl, tb, ti, N, pg, out, e0, PL, gN⟩ := gs j t' hjm gt
      refine ⟨_, rfl, _, rfl, _, rfl, _, rfl, rfl, rfl, v, n, t', i, 1, hd, rfl, hv.same s3, hn, tl, ⟨gd.lim, fun _ _ j hj => (by rw [tb] at hj; cases hj), fun _ _ _ z => absurd ti z, fun _ _ _ _ z => absurd ⟨by decide, by decide⟩ z, fun _ _ _ _ _ z => absurd hh z⟩, fun its2 gd2 _ _ _ _ => ?_⟩
      obtain rfl := gd.one gd2
      refine ⟨N, pg, out, e0, PL, fun H5 r dx5 cnt rr s5 hr5 => ?_⟩
      have s35 := s3.trans s5
      refine ⟨fun b H' => H' = H5, ?_, ?_⟩
      · refine ⟨_, rfl, r, _, _, _, _, rfl, hr5, Zr.cl, Zr.n_text, rfl, rfl, _, rfl, iff' (by simp) ?_⟩
        exact ⟨_, rfl, r, _, _, _, _, rfl, hr5, Zr.cl, Zr.n_text, rfl, _, rfl, _, _, rfl, rfl, _, rfl, rfl⟩
      rintro b H' rfl
      refine if2 (fun _ => ⟨rfl, kq _ _ s35⟩) (fun _ => ?_)
      refine ⟨_, rfl, r, _, _, _, _, rfl, hr5, Zr.cl, Zr.n_text, rfl, ?_⟩
      refine ⟨ltSz (by omega), _, rfl, ?_⟩
      exact ⟨(pg N).t, _, _, rfl, s35, gN, by rw [List.length_append]; simp only [List.length_cons, List.length_nil]; omega⟩
    · refine .inl ⟨by show m.toNat ≤ j; omega, ?_⟩
      exact kq _ _ s3
abbrev TrF (K : PySem.W.Frag) (f : Addr) (fd : FuncData) : Prop := FunD K "trace" "trace" (defArgs s_trace) (defBody s_trace) (defScope s_trace) [] [("hold", .int 2), ("most", .int 100)] f fd
theorem vals_take1 {vs : List V} {us : List Value} (r : Vals vs us) : Vals (vs.take 1) (us.take 1) := by
  cases r with
  | nil => exact .nil
  | cons h _ => exact .cons h .nil
theorem tr_b {f : Addr} {fd : FuncData} (F : TrF K f fd) : ∃ g, KBn K fd ["recording", "text", "place", "hold", "most"] 3 ["most", "hold"] g (fun vs zs => vs ++ (zs.drop 1 ++ zs.take 1)) := by
  obtain ⟨mv, b⟩ := FunD.kbinds0 (ps := ["recording", "text", "place", "hold", "most"]) F 3 ["most", "hold"] [] (fun us _ ws => us ++ (ws.drop 1 ++ ws.take 1)) (by simp) (by simp) (fun r1 r2 r3 => Vals.append r1 (Vals.append (r3.drop 1) (vals_take1 r3)))
    (fun D doc pm an cdv ct us mv ws h1 h2 h3 => match us, mv, ws, h1, h2, h3 with | [_, _, _], [], [_, _], _, _, _ => rfl)
  exact ⟨_, b⟩
abbrev RpF (K : PySem.W.Frag) (f : Addr) (fd : FuncData) : Prop := FunD K "replays" "replays" (defArgs s_replays) (defBody s_replays) (defScope s_replays) [] [("hold", .int 2), ("most", .int 20)] f fd
theorem rp_b {f : Addr} {fd : FuncData} (F : RpF K f fd) : ∃ g, KBn K fd ["recording", "text", "place", "hold", "most"] 3 ["hold", "most"] g (fun vs zs => vs ++ zs) := by
  obtain ⟨mv, b⟩ := FunD.kbinds0 (ps := ["recording", "text", "place", "hold", "most"]) F 3 ["hold", "most"] [] (fun us _ ws => us ++ ws) (by simp) (by simp) (fun r1 r2 r3 => Vals.append r1 r3)
    (fun D doc pm an cdv ct us mv ws h1 h2 h3 => match us, mv, ws, h1, h2, h3 with | [_, _, _], [], [_, _], _, _, _ => rfl)
  exact ⟨_, b⟩
abbrev PcF (K : PySem.W.Frag) (f : Addr) (fd : FuncData) : Prop := FunD K "play_course" "play_course" (defArgs s_play_course) (defBody s_play_course) (defScope s_play_course) [] [("hold", .int 2)] f fd
theorem pc_b {f : Addr} {fd : FuncData} (F : PcF K f fd) : ∃ g, KBn K fd ["course", "text", "place", "hold"] 3 ["hold"] g (fun vs zs => vs ++ zs) := by
  obtain ⟨mv, b⟩ := FunD.kbinds0 (ps := ["course", "text", "place", "hold"]) F 3 ["hold"] [] (fun us _ ws => us ++ ws) (by simp) (by simp) (fun r1 r2 r3 => Vals.append r1 r3)
    (fun D doc pm an cdv ct us mv ws h1 h2 h3 => match us, mv, ws, h1, h2, h3 with | [_, _, _], [], [_], _, _, _ => rfl)
  exact ⟨_, b⟩
/-- these end no iterator -/
structure TS19 (K : PySem.W.Frag) : Prop where
  sR : PySem.W.subIn K (.ref (ga K "InvalidRecording")) (.type "StopIteration") = some false
  sM : PySem.W.subIn K (.ref (ga K "TooManyKeys")) (.type "StopIteration") = some false
  sT : PySem.W.subIn K (.ref (ga K "InvalidText")) (.type "StopIteration") = some false
  sP : PySem.W.subIn K (.ref (ga K "InvalidPlace")) (.type "StopIteration") = some false
  sN : PySem.W.subIn K (.ref (ga K "InvalidTimes")) (.type "StopIteration") = some false
  sH : PySem.W.subIn K (.ref (ga K "InvalidHold")) (.type "StopIteration") = some false
theorem Rz.ns {K : PySem.W.Frag} {C : Addr} {f : Str} {v : V} {H : Hp} {E : XK} (r : Rz C f v H E) (h : PySem.W.subIn K (.ref C) (.type "StopIteration") = some false) : Rz C f v H (NS K E) := fun H' d s hd => ⟨r H' d s hd, h⟩
abbrev tOk (t : List Nat) : Prop := badAt t = none
abbrev pOk (t : List Nat) (i : Int) : Prop := 0 ≤ i ∧ i ≤ t.length
abbrev nOk (m : Int) : Prop := 0 ≤ m ∧ m ≤ 1000
abbrev hOk (h : Int) : Prop := 0 ≤ h ∧ h ≤ 4
/-- what may be raised -/
structure CallE (K : PySem.W.Frag) (w : Int) (n t : List Nat) (i m hd : Int) (H : Hp) (E : XK) : Prop where
  r' : w < 5 → Rlim K n H E
  t' : (w < 5 → ∃ its, Good n its) → ∀ j, badAt t = some j → Rz (ga K "InvalidText") "place" (.int (j : Nat)) H E
  p' : (w < 5 → ∃ its, Good n its) → tOk t → ¬ pOk t i → Rz (ga K "InvalidPlace") "place" (.int i) H E
  n0 : w = 0 → (∃ its, Good n its) → tOk t → pOk t i → ¬ nOk m → Rz (ga K "InvalidTimes") "times" (.int m) H E
  h0 : w = 0 → (∃ its, Good n its) → tOk t → pOk t i → nOk m → ¬ hOk hd → Rz (ga K "InvalidHold") "hold" (.int hd) H E
  h1 : ¬ w = 0 → (w < 5 → ∃ its, Good n its) → tOk t → pOk t i → ¬ hOk hd → Rz (ga K "InvalidHold") "hold" (.int hd) H E
  n2 : w = 2 ∨ w = 3 → (∃ its, Good n its) → tOk t → pOk t i → hOk hd → ¬ nOk m → Rz (ga K "InvalidTimes") "times" (.int m) H E
/-- the plays are known -/
structure Know (n t : List Nat) (i hd m : Int) : Prop where
  pl : ∀ its, Good n its → tOk t → pOk t i → hOk hd → nOk m → ∃ (N : Nat) (pg : Nat → Pg) (out : Bool), pg 0 = pg0 t i ∧ Plays (rowsM its) hd.toNat m.toNat pg N out
  p1 : ∀ its, Good n its → tOk t → pOk t i → hOk hd → ∃ (N : Nat) (pg : Nat → Pg) (out : Bool), pg 0 = pg0 t i ∧ Plays (rowsM its) hd.toNat 1 pg N out
  re : ∀ its, Good n its → tOk t → pOk t i → hOk hd → nOk m → ∃ G : Nat → List Nat → Prop, G 0 t ∧ ∀ j t', j < m.toNat → G j t' → t'.length ≤ 10000 ∧ tOk t' ∧ pOk t' i ∧ ∃ (N : Nat) (pg : Nat → Pg) (out : Bool), pg 0 = pg0 t' i ∧ Plays (rowsM its) hd.toNat 1 pg N out ∧ G (j + 1) (pg N).t
def spLCall (K : PySem.W.Frag) : Sp := fun vs H Q E => ∃ (w : Int) (n t : List Nat) (i m hd : Int), vs = [.int w, .str (S n), .str (S t), .int i, .int m, .int hd] ∧ 0 ≤ w ∧ n.length ≤ 20000 ∧ t.length ≤ 10000 ∧ CallE K w n t i m hd H E ∧ Know n t i hd m ∧
  ((w < 5 → ∃ its, Good n its) → tOk t → pOk t i → hOk hd → (w = 0 ∨ w = 2 ∨ w = 3 → nOk m) → ∀ H', Same H H' → Q .non H')
abbrev s_lcall : Stmt := top 59
theorem sc_lcall : FnScope ["_law_way", "_law_notation", "_law_text_here", "_law_place", "_law_number", "_law_hold"] ["_law_way", "_law_notation", "_law_text_here", "_law_place", "_law_number", "_law_hold"] (defScope s_lcall) := ⟨rfl, rfl, rfl, by decide +kernel, rfl, by decide +kernel, by decide +kernel⟩
theorem ok_lcall (T : TX K mg) (SS : TS19 K) (cn_play_4_hold : KCn P w K mg base 22 "play" 4 ["hold"] (spPlay K) (fun vs zs => vs ++ zs)) (cn_accepts_3_hold : KCn P w K mg base 23 "accepts" 3 ["hold"] (spAcc K) (fun vs zs => vs ++ zs)) (cg_trace_3_most_hold : KGn P w K mg base 21 "trace" 3 ["most", "hold"] (spTrace K) (fun vs zs => vs ++ (zs.drop 1 ++ zs.take 1))) (cg_replays_3_hold_most : KGn P w K mg base 24 "replays" 3 ["hold", "most"] (spReplays K) (fun vs zs => vs ++ zs)) (cn_play_course_3_hold : KCn P w K mg base 22 "play_course" 3 ["hold"] (spPlayC K) (fun vs zs => vs ++ zs)) (k_Page_2_hold : KMak P w K mg base 4 "Page" (ga K "Page") 2 ["hold"] (spInit K) (fun vs zs => vs ++ zs)) {f : Addr} {fd : FuncData} (F : FunD K "_law_call" "_law_call" (defArgs s_lcall) (defBody s_lcall) (defScope s_lcall) [] [] f fd) : FnOk P w K mg base (CX P w) 28 f fd ["_law_way", "_law_notation", "_law_text_here", "_law_place", "_law_number", "_law_hold"] (spLCall K) := by
  refine F.ok sc_lcall (fun vs H Q E h => ?_) (fun cdv A outer s H vs Q E hr h => ?_)
  · obtain ⟨w, n, t, i, m, hd, rfl, _⟩ := h
    rfl
  · obtain ⟨w, n, t, i, m, hd, rfl, hw, hn, ht, ce, kn, kq⟩ := h
    refine ⟨_, (pss_one (ps_if (pt_cmpR op_eq (pv 0) pe_int (nomark _)) (pss_one (ps_expr (kxN cn_play_4_hold (takes_of rfl rfl rfl rfl) hr (by decide) rfl (pa_cons (pv 1) (pa_cons (pv 2) (pa_cons (pv 3) (pa_cons (pv 4) pa_nil)))) (pk_cons (pv 5) pk_nil)))) (pss_one (ps_if (pt_cmpR op_eq (pv 0) pe_int (nomark _)) (pss_one (ps_expr (kxN cn_accepts_3_hold (takes_of rfl rfl rfl rfl) hr (by decide) rfl (pa_cons (pv 1) (pa_cons (pv 2) (pa_cons (pv 3) pa_nil))) (pk_cons (pv 5) pk_nil)))) (pss_one (ps_if (pt_cmpR op_eq (pv 0) pe_int (nomark _)) (pss_one (ps_expr (pe_listG (pgen_callN (E := NS K E) cg_trace_3_most_hold (hr.mono (by decide)) rfl (pa_cons (pv 1) (pa_cons (pv 2) (pa_cons (pv 3) pa_nil))) (pk_cons (pv 4) (pk_cons (pv 5) pk_nil))) (passes_call (takes_of rfl rfl rfl rfl) (fun _ _ _ _ h => h.1)) noStop_ns (hr.mono (by decide)) rfl T.b_list (by decide +kernel)))) (pss_one (ps_if (pt_cmpR op_eq (pv 0) pe_int (nomark _)) (pss_one (ps_expr (pe_listG (pgen_callN (E := NS K E) cg_replays_3_hold_most (hr.mono (by decide)) rfl (pa_cons (pv 1) (pa_cons (pv 2) (pa_cons (pv 3) pa_nil))) (pk_cons (pv 5) (pk_cons (pv 4) pk_nil))) (passes_call (takes_of rfl rfl rfl rfl) (fun _ _ _ _ h => h.1)) noStop_ns (hr.mono (by decide)) rfl T.b_list (by decide +kernel)))) (pss_one (ps_if (pt_cmpR op_eq (pv 0) pe_int (nomark _)) (pss_one (ps_expr (kxN cn_play_course_3_hold (takes_of rfl rfl rfl rfl) hr (by decide) rfl (pa_cons (pv 1) (pa_cons (pv 2) (pa_cons (pv 3) pa_nil))) (pk_cons (pv 5) pk_nil)))) (pss_one (ps_expr (kmakx k_Page_2_hold (takes_of rfl rfl rfl rfl) hr (by decide) rfl (pa_cons (pv 2) (pa_cons (pv 3) pa_nil)) (pk_cons (pv 5) pk_nil)))))))))))))), ?_⟩
    refine ⟨_, rfl, rfl, _, rfl, ?_⟩
    rw [dI]
    refine if2 (fun q => ?_) (fun q => ?_)
    · have q := of_decide_eq_true q
      subst q
      refine ⟨_, rfl, _, rfl, _, rfl, _, rfl, _, rfl, rfl, rfl, .str (S n), n, t, i, m, hd, rfl, .inl rfl, hn, ht, ⟨ce.r' (by decide), fun its g j hj => ce.t' (fun _ => ⟨its, g⟩) j hj, fun its g h1 h2 => ce.p' (fun _ => ⟨its, g⟩) h1 h2, fun its g h1 h2 h3 => ce.n0 rfl ⟨its, g⟩ h1 h2 h3, fun its g h1 h2 h3 h4 => ce.h0 rfl ⟨its, g⟩ h1 h2 h3 h4⟩, fun its g h1 h2 h3 h4 => ?_⟩
      obtain ⟨N, pg, out, e0, PL⟩ := kn.pl its g h1 h2 h4 h3
      exact ⟨N, pg, out, e0, PL, fun H' r dx cnt rr s' hr' => kq (fun _ => ⟨its, g⟩) h1 h2 h4 (fun _ => h3) H' s'⟩
    have q0 := of_decide_eq_false q
    refine ⟨_, rfl, rfl, _, rfl, ?_⟩
    rw [dI]
    refine if2 (fun q => ?_) (fun q => ?_)
    · have q := of_decide_eq_true q
      subst q
      refine ⟨_, rfl, _, rfl, _, rfl, _, rfl, rfl, rfl, .str (S n), n, t, i, hd, rfl, .inl rfl, hn, ht, ⟨ce.r' (by decide), fun its g j hj => ce.t' (fun _ => ⟨its, g⟩) j hj, fun its g h1 h2 => ce.p' (fun _ => ⟨its, g⟩) h1 h2, fun its g h1 h2 h3 => absurd ⟨by decide, by decide⟩ h3, fun its g h1 h2 h3 h4 => ce.h1 q0 (fun _ => ⟨its, g⟩) h1 h2 h4⟩, fun its g h1 h2 h4 => ?_⟩
      obtain ⟨N, pg, out, e0, PL⟩ := kn.p1 its g h1 h2 h4
      exact ⟨N, pg, out, e0, PL, fun H' s' => kq (fun _ => ⟨its, g⟩) h1 h2 h4 (fun z => by omega) H' s'⟩
    have q1 := of_decide_eq_false q
    have teE : (w = 2 ∨ w = 3) → TraceE K n t i hd m H (NS K E) := fun hw2 => ⟨⟨fun j e => ((ce.r' (by omega)).1 j e).ns SS.sR, fun its e h => ((ce.r' (by omega)).2 its e h).ns SS.sM⟩, fun its g j hj => (ce.t' (fun _ => ⟨its, g⟩) j hj).ns SS.sT, fun its g h1 h2 => (ce.p' (fun _ => ⟨its, g⟩) h1 h2).ns SS.sP, fun its g h1 h2 h3 => (ce.h1 q0 (fun _ => ⟨its, g⟩) h1 h2 h3).ns SS.sH, fun its g h1 h2 h3 h4 => (ce.n2 hw2 ⟨its, g⟩ h1 h2 h3 h4).ns SS.sN⟩
    refine ⟨_, rfl, rfl, _, rfl, ?_⟩
    rw [dI]
    refine if2 (fun q => ?_) (fun q => ?_)
    · have q := of_decide_eq_true q
      refine ⟨_, rfl, _, rfl, _, rfl, _, rfl, _, rfl, rfl, rfl, .str (S n), n, t, i, hd, m, rfl, .inl rfl, hn, ht, teE (.inl q), fun its g h1 h2 h3 h4 out H' s' p hp => ?_⟩
      exact kq (fun _ => ⟨its, g⟩) h1 h2 h3 (fun _ => h4) _ (sNew s' hp)
    have q2 := of_decide_eq_false q
    refine ⟨_, rfl, rfl, _, rfl, ?_⟩
    rw [dI]
    refine if2 (fun q => ?_) (fun q => ?_)
    · have q := of_decide_eq_true q
      refine ⟨_, rfl, _, rfl, _, rfl, _, rfl, _, rfl, rfl, rfl, .str (S n), n, t, i, hd, m, rfl, .inl rfl, hn, ht, teE (.inr q), fun its g h1 h2 h3 h4 => ?_⟩
      obtain ⟨G, g0, gs⟩ := kn.re its g h1 h2 h3 h4
      refine ⟨G, g0, gs, fun out H' s' p hp => ?_⟩
      exact kq (fun _ => ⟨its, g⟩) h1 h2 h3 (fun _ => h4) _ (sNew s' hp)
    have q3 := of_decide_eq_false q
    refine ⟨_, rfl, rfl, _, rfl, ?_⟩
    rw [dI]
    refine if2 (fun q => ?_) (fun q => ?_)
    · have q := of_decide_eq_true q
      refine ⟨_, rfl, _, rfl, _, rfl, _, rfl, rfl, rfl, n, t, i, hd, rfl, hn, ht, ⟨ce.r' (by omega), fun its g j hj => ce.t' (fun _ => ⟨its, g⟩) j hj, fun its g h1 h2 => ce.p' (fun _ => ⟨its, g⟩) h1 h2, fun its g h1 h2 h3 => ce.h1 q0 (fun _ => ⟨its, g⟩) h1 h2 h3⟩, fun its g h1 h2 h3 => ?_⟩
      obtain ⟨N, pg, out, e0, PL⟩ := kn.p1 its g h1 h2 h3
      exact ⟨N, pg, out, e0, PL, fun H' r s' => kq (fun _ => ⟨its, g⟩) h1 h2 h3 (fun z => by omega) H' s'⟩
    have q4 := of_decide_eq_false q
    have h5 : ¬ w < 5 := by omega
    refine ⟨_, rfl, _, rfl, _, rfl, rfl, rfl, fun p dx hp hdx ne => ?_⟩
    have s3 := sIns (C := ga K "Page") hp hdx ne
    refine ⟨p, dx, t, i, hd, rfl, by omega, upd_same, fun j hj => (ce.t' (fun z => absurd z h5) j hj).same s3, fun h1 h2 => (ce.p' (fun z => absurd z h5) h1 h2).same s3, fun h1 h2 h3 => (ce.h1 q0 (fun z => absurd z h5) h1 h2 h3).same s3, fun h1 h2 h3 H4 k4 hp4 => ⟨rfl, ?_⟩⟩
    exact kq (fun z => absurd z h5) h1 h2 h3 (fun z => by omega) _ fun a o e => k4 a o (by simp; exact ne_of_none e hp) (s3 _ _ e)
structure TY19 (K : PySem.W.Frag) (mg : Str → Option Value) : Prop where
  gK : mg "KeyreelError" = some (.ref (ga K "KeyreelError"))
  rr : PySem.W.exmOne K (.ref (ga K "InvalidRecording")) (.ref (ga K "InvalidRecording")) = some true
  tr : PySem.W.exmOne K (.ref (ga K "InvalidText")) (.ref (ga K "InvalidRecording")) = some false
  tt : PySem.W.exmOne K (.ref (ga K "InvalidText")) (.ref (ga K "InvalidText")) = some true
  pr : PySem.W.exmOne K (.ref (ga K "InvalidPlace")) (.ref (ga K "InvalidRecording")) = some false
  pt : PySem.W.exmOne K (.ref (ga K "InvalidPlace")) (.ref (ga K "InvalidText")) = some false
  pp : PySem.W.exmOne K (.ref (ga K "InvalidPlace")) (.ref (ga K "InvalidPlace")) = some true
  nr : PySem.W.exmOne K (.ref (ga K "InvalidTimes")) (.ref (ga K "InvalidRecording")) = some false
  nt : PySem.W.exmOne K (.ref (ga K "InvalidTimes")) (.ref (ga K "InvalidText")) = some false
  np : PySem.W.exmOne K (.ref (ga K "InvalidTimes")) (.ref (ga K "InvalidPlace")) = some false
  nn : PySem.W.exmOne K (.ref (ga K "InvalidTimes")) (.ref (ga K "InvalidTimes")) = some true
  hr : PySem.W.exmOne K (.ref (ga K "InvalidHold")) (.ref (ga K "InvalidRecording")) = some false
  ht : PySem.W.exmOne K (.ref (ga K "InvalidHold")) (.ref (ga K "InvalidText")) = some false
  hp : PySem.W.exmOne K (.ref (ga K "InvalidHold")) (.ref (ga K "InvalidPlace")) = some false
  hn : PySem.W.exmOne K (.ref (ga K "InvalidHold")) (.ref (ga K "InvalidTimes")) = some false
  hh : PySem.W.exmOne K (.ref (ga K "InvalidHold")) (.ref (ga K "InvalidHold")) = some true
structure XK1 (mg : Str → Option Value) (x : Str) (C : Addr) : Prop where
  gC : mg x = some (.ref C)
abbrev nmR : List Nat := [114, 101, 99, 111, 114, 100, 105, 110, 103]
abbrev nmT : List Nat := [116, 101, 120, 116]
abbrev nmP : List Nat := [112, 108, 97, 99, 101]
abbrev nmN : List Nat := [116, 105, 109, 101, 115]
abbrev nmH : List Nat := [104, 111, 108, 100]
abbrev nmO : List Nat := [110, 111, 110, 101]
/-- the first error that is due -/
inductive Due (w : Int) (n t : List Nat) (i m hd : Int) : List Nat → Int → Prop
  | rcd {j : Nat} (h : w < 5) (e : read false n = .inl j) : Due w n t i m hd nmR (j : Nat)
  | txt {j : Nat} (h : w < 5 → ∃ its, Good n its) (e : badAt t = some j) : Due w n t i m hd nmT (j : Nat)
  | plc (h : w < 5 → ∃ its, Good n its) (e : tOk t) (x : ¬ pOk t i) : Due w n t i m hd nmP i
  | tms (h : w < 5 → ∃ its, Good n its) (e : tOk t) (x : pOk t i) (o : w = 0 ∨ ((w = 2 ∨ w = 3) ∧ hOk hd)) (y : ¬ nOk m) : Due w n t i m hd nmN m
  | hld (h : w < 5 → ∃ its, Good n its) (e : tOk t) (x : pOk t i) (o : w = 0 → nOk m) (y : ¬ hOk hd) : Due w n t i m hd nmH hd
  | non (h : w < 5 → ∃ its, Good n its) (e : tOk t) (x : pOk t i) (y : hOk hd) (o : w = 0 ∨ w = 2 ∨ w = 3 → nOk m) : Due w n t i m hd nmO 0
def spLTold19 (K : PySem.W.Frag) : Sp := fun vs H Q _ => ∃ (w : Int) (n t : List Nat) (i m hd : Int), vs = [.int w, .str (S n), .str (S t), .int i, .int m, .int hd] ∧ 0 ≤ w ∧ n.length ≤ 20000 ∧ t.length ≤ 10000 ∧ (∀ its, read false n = .inr its → (keysL its).length ≤ 60) ∧ Know n t i hd m ∧
  ∀ nm x, Due w n t i m hd nm x → ∀ H' r, Same H H' → H' r = some (.tup [.str (S nm), .int x]) → Q (.ref r) H'
abbrev s_ltold19 : Stmt := top 60
theorem sc_ltold19 : FnScope ["_law_way", "_law_notation", "_law_text_here", "_law_place", "_law_number", "_law_hold", "e"] ["_law_way", "_law_notation", "_law_text_here", "_law_place", "_law_number", "_law_hold"] (defScope s_ltold19) := ⟨rfl, rfl, rfl, by decide +kernel, rfl, by decide +kernel, by decide +kernel⟩
theorem ok_ltold19 (T : TX K mg) (Y : TY19 K mg) (x_InvalidRecording : Ex1 P w K mg base "InvalidRecording" "place" (ga K "InvalidRecording")) (x_InvalidText : Ex1 P w K mg base "InvalidText" "place" (ga K "InvalidText")) (x_InvalidPlace : Ex1 P w K mg base "InvalidPlace" "place" (ga K "InvalidPlace")) (x_InvalidTimes : Ex1 P w K mg base "InvalidTimes" "times" (ga K "InvalidTimes")) (x_InvalidHold : Ex1 P w K mg base "InvalidHold" "hold" (ga K "InvalidHold")) (c__law_call : KCal P w K mg base 28 "_law_call" (spLCall K) []) {f : Addr} {fd : FuncData} (F : FunD K "_law_told" "_law_told" (defArgs s_ltold19) (defBody s_ltold19) (defScope s_ltold19) [] [] f fd) : FnOk P w K mg base (CX P w) 29 f fd ["_law_way", "_law_notation", "_law_text_here", "_law_place", "_law_number", "_law_hold"] (spLTold19 K) := by
  have x_KeyreelError : XK1 mg "KeyreelError" (ga K "KeyreelError") := ⟨Y.gK⟩
  refine F.ok sc_ltold19 (fun vs H Q E h => ?_) (fun cdv A outer s H vs Q E hr h => ?_)
  · obtain ⟨w, n, t, i, m, hd, rfl, _⟩ := h
    rfl
  · obtain ⟨w, n, t, i, m, hd, rfl, hw, hn, ht, few, kn, kq⟩ := h
    refine ⟨_, (pss_cons (ps_tryMy (Wout := fun cls d _ H => E cls d H) rfl rfl sc_ltold19.nd (takes_of rfl rfl rfl rfl) (fun W pn xe tk ps => (pss_one (ps_expr (kx c__law_call tk hr (by decide) rfl (pa_cons (pv 0) (pa_cons (pv 1) (pa_cons (pv 2) (pa_cons (pv 3) (pa_cons (pv 4) (pa_cons (pv 5) pa_nil)))))))))) (HdMy.named (i := 6) ⟨rfl, by decide, Or.inl x_InvalidRecording.gC⟩ rfl rfl (fun a oe cls d pn hz hf => (pss_one (ps_ret (pe_tup (pa_cons (pe_strS [114, 101, 99, 111, 114, 100, 105, 110, 103] (by decide +kernel)) (pa_cons (pe_xf x_InvalidRecording.xf x_InvalidRecording.no hz hf (pv 6)) pa_nil)))))) (HdMy.named (i := 6) ⟨rfl, by decide, Or.inl x_InvalidText.gC⟩ rfl rfl (fun a oe cls d pn hz hf => (pss_one (ps_ret (pe_tup (pa_cons (pe_strS [116, 101, 120, 116] (by decide +kernel)) (pa_cons (pe_xf x_InvalidText.xf x_InvalidText.no hz hf (pv 6)) pa_nil)))))) (HdMy.named (i := 6) ⟨rfl, by decide, Or.inl x_InvalidPlace.gC⟩ rfl rfl (fun a oe cls d pn hz hf => (pss_one (ps_ret (pe_tup (pa_cons (pe_strS [112, 108, 97, 99, 101] (by decide +kernel)) (pa_cons (pe_xf x_InvalidPlace.xf x_InvalidPlace.no hz hf (pv 6)) pa_nil)))))) (HdMy.named (i := 6) ⟨rfl, by decide, Or.inl x_InvalidTimes.gC⟩ rfl rfl (fun a oe cls d pn hz hf => (pss_one (ps_ret (pe_tup (pa_cons (pe_strS [116, 105, 109, 101, 115] (by decide +kernel)) (pa_cons (pe_xf x_InvalidTimes.xf x_InvalidTimes.no hz hf (pv 6)) pa_nil)))))) (HdMy.named (i := 6) ⟨rfl, by decide, Or.inl x_InvalidHold.gC⟩ rfl rfl (fun a oe cls d pn hz hf => (pss_one (ps_ret (pe_tup (pa_cons (pe_strS [104, 111, 108, 100] (by decide +kernel)) (pa_cons (pe_xf x_InvalidHold.xf x_InvalidHold.no hz hf (pv 6)) pa_nil)))))) (HdMy.plain ⟨rfl, by decide, Or.inl x_KeyreelError.gC⟩ (fun a oe cls d pn hz hf => (pss_one (ps_ret (pe_tup (pa_cons (pe_strS [111, 116, 104, 101, 114] (by decide +kernel)) (pa_cons pe_int pa_nil)))))) HdMy.nil))))))) (pss_one (ps_ret (pe_tup (pa_cons (pe_strS [110, 111, 110, 101] (by decide +kernel)) (pa_cons pe_int pa_nil)))))), ?_⟩
    refine ⟨_, rfl, _, rfl, _, rfl, _, rfl, _, rfl, _, rfl, w, n, t, i, m, hd, rfl, hw, hn, ht, ⟨fun h => ⟨fun j e => ?_, fun its e h => absurd (few its e) (by omega)⟩, fun h j e => ?_, fun h e x => ?_, fun h g e x y => ?_, fun h g e x z y => ?_, fun h g e x y => ?_, fun h g e x z y => ?_⟩, kn, fun h e x y o H' s' => ?_⟩
    · intro H1 dd s1 hdd
      refine ⟨true, Y.rr, fun _ a0 ha0 => ?_, fun z => Bool.noConfusion z⟩
      refine ⟨_, rfl, rfl, rfl, dd, _, _, rfl, upd_same, rfl, (show 2 ≤ sizeLine by decide), fun r hr => ?_⟩
      exact kq _ _ (.rcd h e) _ r (sNew (sNew s1 hdd) hr) upd_same
    · intro H1 dd s1 hdd
      refine ⟨false, Y.tr, fun z => Bool.noConfusion z, fun _ => ⟨true, Y.tt, fun _ a0 ha0 => ?_, fun z => Bool.noConfusion z⟩⟩
      refine ⟨_, rfl, rfl, rfl, dd, _, _, rfl, upd_same, rfl, (show 2 ≤ sizeLine by decide), fun r hr => ?_⟩
      exact kq _ _ (.txt h e) _ r (sNew (sNew s1 hdd) hr) upd_same
    · intro H1 dd s1 hdd
      refine ⟨false, Y.pr, fun z => Bool.noConfusion z, fun _ => ⟨false, Y.pt, fun z => Bool.noConfusion z, fun _ => ⟨true, Y.pp, fun _ a0 ha0 => ?_, fun z => Bool.noConfusion z⟩⟩⟩
      refine ⟨_, rfl, rfl, rfl, dd, _, _, rfl, upd_same, rfl, (show 2 ≤ sizeLine by decide), fun r hr => ?_⟩
      exact kq _ _ (.plc h e x) _ r (sNew (sNew s1 hdd) hr) upd_same
    · intro H1 dd s1 hdd
      refine ⟨false, Y.nr, fun z => Bool.noConfusion z, fun _ => ⟨false, Y.nt, fun z => Bool.noConfusion z, fun _ => ⟨false, Y.np, fun z => Bool.noConfusion z, fun _ => ⟨true, Y.nn, fun _ a0 ha0 => ?_, fun z => Bool.noConfusion z⟩⟩⟩⟩
      refine ⟨_, rfl, rfl, rfl, dd, _, _, rfl, upd_same, rfl, (show 2 ≤ sizeLine by decide), fun r hr => ?_⟩
      exact kq _ _ (.tms (fun _ => g) e x (.inl h) y) _ r (sNew (sNew s1 hdd) hr) upd_same
    · intro H1 dd s1 hdd
      refine ⟨false, Y.hr, fun z => Bool.noConfusion z, fun _ => ⟨false, Y.ht, fun z => Bool.noConfusion z, fun _ => ⟨false, Y.hp, fun z => Bool.noConfusion z, fun _ => ⟨false, Y.hn, fun z => Bool.noConfusion z, fun _ => ⟨true, Y.hh, fun _ a0 ha0 => ?_, fun z => Bool.noConfusion z⟩⟩⟩⟩⟩
      refine ⟨_, rfl, rfl, rfl, dd, _, _, rfl, upd_same, rfl, (show 2 ≤ sizeLine by decide), fun r hr => ?_⟩
      exact kq _ _ (.hld (fun _ => g) e x (fun _ => z) y) _ r (sNew (sNew s1 hdd) hr) upd_same
    · intro H1 dd s1 hdd
      refine ⟨false, Y.hr, fun z => Bool.noConfusion z, fun _ => ⟨false, Y.ht, fun z => Bool.noConfusion z, fun _ => ⟨false, Y.hp, fun z => Bool.noConfusion z, fun _ => ⟨false, Y.hn, fun z => Bool.noConfusion z, fun _ => ⟨true, Y.hh, fun _ a0 ha0 => ?_, fun z => Bool.noConfusion z⟩⟩⟩⟩⟩
      refine ⟨_, rfl, rfl, rfl, dd, _, _, rfl, upd_same, rfl, (show 2 ≤ sizeLine by decide), fun r hr => ?_⟩
      exact kq _ _ (.hld g e x (fun z => absurd z h) y) _ r (sNew (sNew s1 hdd) hr) upd_same
    · intro H1 dd s1 hdd
      refine ⟨false, Y.nr, fun z => Bool.noConfusion z, fun _ => ⟨false, Y.nt, fun z => Bool.noConfusion z, fun _ => ⟨false, Y.np, fun z => Bool.noConfusion z, fun _ => ⟨true, Y.nn, fun _ a0 ha0 => ?_, fun z => Bool.noConfusion z⟩⟩⟩⟩
      refine ⟨_, rfl, rfl, rfl, dd, _, _, rfl, upd_same, rfl, (show 2 ≤ sizeLine by decide), fun r hr => ?_⟩
      exact kq _ _ (.tms (fun _ => g) e x (.inr ⟨h, z⟩) y) _ r (sNew (sNew s1 hdd) hr) upd_same
    · refine ⟨(show 2 ≤ sizeLine by decide), fun r hr => ?_⟩
      exact kq _ _ (.non h e x y o) _ r (sNew s' hr) upd_same
/-! ### plays that always read on or go down the rows -/
structure Sk (h : Nat) (s : Stt) : Prop where
  ok : PgOk h s.2
  l : s.2.t.length ≤ 40000
  r : s.2.r = 0
  n : s.1 < 999
def mu (s : Stt) : Nat := (s.2.t.length - s.2.c) * 1000 + (999 - s.1)
inductive Sg (rs : List Row) (h : Nat) : Stt → Nat → Stt → Prop
  | nil {s : Stt} : Sk h s → Sg rs h s 0 s
  | cons {s s' t : Stt} {n : Nat} : Sk h s → s.1 < rs.length → stepM rs h s = s' → mu s' < mu s → Sg rs h s' n t → Sg rs h s (n + 1) t
theorem Sg.app {rs : List Row} {h : Nat} {s u t : Stt} {n m : Nat} (a : Sg rs h s n u) (b : Sg rs h u m t) : Sg rs h s (n + m) t := by
  induction a with
  | nil _ => rw [Nat.zero_add]; exact b
  | cons k1 k2 k3 k4 _ ih => rw [Nat.succ_add]; exact .cons k1 k2 k3 k4 (ih b)
def itr (rs : List Row) (h : Nat) (s : Stt) : Nat → Stt
  | 0 => s
  | i + 1 => stepM rs h (itr rs h s i)
theorem itr_shift (rs : List Row) (h : Nat) (s : Stt) : ∀ i, itr rs h (stepM rs h s) i = itr rs h s (i + 1)
  | 0 => rfl
  | i + 1 => by show stepM rs h _ = stepM rs h _; rw [itr_shift rs h s i]
theorem Sg.facts {rs : List Row} {h : Nat} {s t : Stt} {n : Nat} (a : Sg rs h s n t) : itr rs h s n = t ∧ (∀ i, i < n → (itr rs h s i).1 < rs.length) ∧ (∀ i, i ≤ n → Sk h (itr rs h s i)) ∧ ∀ i j, i < j → j ≤ n → mu (itr rs h s j) < mu (itr rs h s i) := by
  induction a with
  | nil k => exact ⟨rfl, (fun i hi => by omega), (fun i hi => by rw [show i = 0 by omega]; exact k), (fun i j _ _ => by omega)⟩
  | @cons s s' t n k1 k2 k3 k4 _ ih =>
    obtain ⟨e1, e2, e3, e4⟩ := ih
    have sh : ∀ i, itr rs h s' i = itr rs h s (i + 1) := fun i => by rw [← k3]; exact itr_shift rs h s i
    have dn : ∀ j, j ≤ n → mu (itr rs h s (j + 1)) < mu s := fun j hj => by
      rw [← sh]
      rcases Nat.eq_zero_or_pos j with rfl | hp
      · exact k4
      · exact Nat.lt_trans (e4 0 j hp hj) k4
    refine ⟨by rw [← sh]; exact e1, fun i hi => ?_, fun i hi => ?_, fun i j hij hj => ?_⟩
    · cases i with
      | zero => exact k2
      | succ i => rw [← sh]; exact e2 i (by omega)
    · cases i with
      | zero => exact k1
      | succ i => rw [← sh]; exact e3 i (by omega)
    · cases j with
      | zero => omega
      | succ j =>
        cases i with
        | zero => exact dn j (by omega)
        | succ i => rw [← sh, ← sh]; exact e4 i j (by omega) (by omega)
theorem ky_mu {h : Nat} {a b : Stt} (ka : Sk h a) (kb : Sk h b) (e : a.ky = b.ky) : mu a = mu b := by
  have e' : kyO (.tuple [.int (a.1 : Nat), a.2.sitD]) = kyO (.tuple [.int (b.1 : Nat), b.2.sitD]) := e
  simp only [kyO, kyL, Pg.sitD] at e'
  have h1 : (a.1 : Int) = b.1 := by
    injection e' with e'
    injection e' with e1 e2
    injection e1
  have h2 : a.2.unread = b.2.unread := by
    injection e' with e'
    injection e' with e1 e2
    injection e2 with e2 _
    injection e2 with e2
    injection e2 with e2 _
    injection e2
  unfold Pg.unread at h2
  rw [ka.r, kb.r] at h2
  have c1 := ka.ok.c
  have c2 := kb.ok.c
  unfold mu
  have h3 : a.2.t.length - a.2.c = b.2.t.length - b.2.c := by omega
  rw [h3]
  omega
theorem Sg.play {rs : List Row} {h : Nat} {g : Pg} {t : Stt} {n : Nat} (a : Sg rs h (0, g) n t) (he : rs.length ≤ t.1) (hn : n < 63) : Play rs h g (itr rs h (0, g)) n ∧ itr rs h (0, g) n = t := by
  obtain ⟨e1, e2, e3, e4⟩ := a.facts
  refine ⟨⟨rfl, fun i hi => ⟨e2 i hi, rfl⟩, by rw [e1]; exact he, hn, fun i j hij hj e => ?_, fun i hi => ⟨(e3 i hi).ok, (e3 i hi).l, by rw [(e3 i hi).r]; omega⟩⟩, e1⟩
  have := e4 i j hij (by omega)
  have := ky_mu (e3 i (by omega)) (e3 j (by omega)) e
  omega
/-- one play -/
theorem Sg.plays {rs : List Row} {h : Nat} {g : Pg} {t : Stt} {n : Nat} (a : Sg rs h (0, g) n t) (he : rs.length ≤ t.1) (hn : n < 63) : Plays rs h 1 (fun j => if j = 0 then g else t.2) 1 (decide (t.1 = rs.length)) := by
  obtain ⟨p, e⟩ := a.play he hn
  refine ⟨fun j hj => ?_, by omega, fun _ => rfl, fun z => by omega⟩
  obtain rfl : j = 0 := by omega
  refine ⟨_, n, p, by rw [e]; rfl, by rw [e]; simp⟩
/-! ### pages without a mark that only read -/
abbrev pgc (t : List Nat) (c : Nat) : Pg := ⟨t, c, none, [], 0⟩
theorem pgc_ok {t : List Nat} {c h : Nat} (hc : c ≤ t.length) (ht : ∀ a ∈ t, a ∈ sgn) (hh : h ≤ 4) : PgOk h (pgc t c) := ⟨hc, (fun x z => by cases z), by simp, ht, by simp, hh⟩
theorem pass_pgc (t : List Nat) (c h : Nat) : (pgc t c).pass h = pgc t (c + 1) := rfl
theorem act_eq (t s : List Nat) (c h : Nat) : (pgc t c).act h 61 s = (decide ((t.drop c).take 1 = s), pgc t c) := rfl
theorem act_fresh (t : List Nat) (c h : Nat) : (pgc t c).act h 94 [] = ((pgc t c).fresh, pgc t c) := rfl
theorem act_step (t : List Nat) (c h : Nat) : (pgc t c).act h 62 [] = if (t.drop c).take 1 = [] then (false, pgc t c) else (true, pgc t (c + 1)) := rfl
theorem travel_pgc {h key : Nat} {s : List Nat} (t : List Nat) : ∀ (m c : Nat), t.length < c + m → c ≤ t.length → ∃ c', c ≤ c' ∧ c' ≤ t.length ∧ (∀ i a, c ≤ i → i < c' → t[i]? = some a → Pg.stops key s a = false) ∧
    ((∃ a, t[c']? = some a ∧ Pg.stops key s a = true ∧ (pgc t c).travel h key s m = (true, pgc t c')) ∨ (c' = t.length ∧ (pgc t c).travel h key s m = (decide (key ∈ [119, 36]), pgc t c')))
  | 0, c, hm, hc => by omega
  | m + 1, c, hm, hc => by
    cases e : t[c]? with
    | none =>
      have hl : c = t.length := by
        have := List.getElem?_eq_none_iff.mp e
        omega
      refine ⟨c, Nat.le_refl _, hc, fun i a h1 h2 => by omega, .inr ⟨hl, ?_⟩⟩
      show (match t[c]? with | none => _ | some a => _) = _
      rw [e]
    | some a =>
      have hlt := (List.getElem?_eq_some_iff.mp e).1
      by_cases hs : Pg.stops key s a = true
      · refine ⟨c, Nat.le_refl _, hc, fun i a h1 h2 => by omega, .inl ⟨a, e, hs, ?_⟩⟩
        show (match t[c]? with | none => _ | some a => _) = _
        rw [e]
        dsimp only
        rw [if_pos hs]
      · obtain ⟨c', h1, h2, h3, h4⟩ := travel_pgc (h := h) (key := key) (s := s) t m (c + 1) (by omega) (by omega)
        have et : (pgc t c).travel h key s (m + 1) = (pgc t (c + 1)).travel h key s m := by
          show (match t[c]? with | none => _ | some a => _) = _
          rw [e]
          dsimp only
          rw [if_neg hs, pass_pgc]
        refine ⟨c', by omega, h2, fun i b i1 i2 eb => ?_, ?_⟩
        · by_cases hi : i = c
          · subst hi
            rw [e] at eb
            cases eb
            simpa using hs
          · exact h3 i b (by omega) i2 eb
        · rw [et]; exact h4
/-! ### rows by their numbers -/
def At (rs : List Row) (i k : Nat) (s : List Nat) (o f : Nat) : Prop := ∃ r, rs[i]? = some r ∧ r.k = [k] ∧ r.s = s ∧ r.o.1 = o ∧ r.f.1 = f
theorem At.lt {rs : List Row} {i k o f : Nat} {s : List Nat} (a : At rs i k s o f) : i < rs.length := by
  obtain ⟨r, e, _⟩ := a
  exact (List.getElem?_eq_some_iff.mp e).1
theorem At.step {rs : List Row} {i k o f : Nat} {s : List Nat} (a : At rs i k s o f) (h : Nat) (g : Pg) : stepM rs h (i, g) = (if (g.act h k s).1 = true then o else f, (g.act h k s).2) := by
  obtain ⟨r, e, e1, e2, e3, e4⟩ := a
  unfold stepM
  dsimp only
  rw [e]
  dsimp only
  rw [e1, e2]
  show ((if (g.act h k s).1 = true then r.o else r.f).1, _) = _
  split
  · rw [e3]; rfl
  · rw [e4]; rfl
/-- the rows of a word from b on -/
def WordAt (rs : List Row) (b : Nat) (w : List Nat) (O F : Nat) : Prop := ∀ j c, w[j]? = some c → At rs (b + 2 * j) 61 [c] (b + 2 * j + 1) F ∧ At rs (b + 2 * j + 1) 62 [] (if j + 1 = w.length then O else b + 2 * j + 2) F
theorem WordAt.tail {rs : List Row} {b O F c : Nat} {w : List Nat} (h : WordAt rs b (c :: w) O F) : WordAt rs (if w.length = 0 then O else b + 2) w O F := fun j d hj => by
  have hl := (List.getElem?_eq_some_iff.mp hj).1
  rw [if_neg (by omega)]
  have := h (j + 1) d (by simpa using hj)
  rw [show b + 2 * (j + 1) = b + 2 + 2 * j by omega] at this
  simp only [List.length_cons, Nat.add_right_cancel_iff] at this
  exact this
theorem take1 {t : List Nat} {c a : Nat} (h : t[c]? = some a) : (t.drop c).take 1 = [a] := by
  have hl := (List.getElem?_eq_some_iff.mp h).1
  rw [List.drop_eq_getElem_cons hl, (List.getElem?_eq_some_iff.mp h).2]; rfl
theorem take1n {t : List Nat} {c : Nat} (h : t.length ≤ c) : (t.drop c).take 1 = [] := by
  rw [List.drop_eq_nil_of_le h]; rfl
section
variable {rs : List Row} {h F : Nat} {t : List Nat}
theorem sk_pgc (ht : ∀ a ∈ t, a ∈ sgn) (hh : h ≤ 4) (hl : t.length ≤ 40000) {i c : Nat} (hc : c ≤ t.length) (hi : i < 999) : Sk h (i, pgc t c) := ⟨pgc_ok hc ht hh, hl, rfl, hi⟩
/-- the length of the common prefix -/
def cpl : List Nat → List Nat → Nat
  | a :: w, b :: u => if a = b then cpl w u + 1 else 0
  | _, _ => 0
theorem cpl_le : ∀ w u : List Nat, cpl w u ≤ w.length ∧ cpl w u ≤ u.length
  | [], u => by cases u <;> simp [cpl]
  | a :: w, [] => by simp [cpl]
  | a :: w, b :: u => by
    have := cpl_le w u
    simp only [cpl]
    split
    · simp; omega
    · simp
theorem cpl_pre : ∀ w u : List Nat, cpl w u = w.length ↔ u.take w.length = w
  | [], u => by cases u <;> simp [cpl]
  | a :: w, [] => by simp [cpl]
  | a :: w, b :: u => by
    have := cpl_pre w u
    simp only [cpl]
    split
    · rename_i e
      subst e
      simp [this]
    · rename_i e
      simp
      intro z
      exact absurd z.symm e
theorem word_sg (ht : ∀ a ∈ t, a ∈ sgn) (hh : h ≤ 4) (hl : t.length ≤ 40000) (hF : F < 999) {O : Nat} (hO : O < 999) : ∀ (w : List Nat) (b c : Nat), WordAt rs b w O F → c ≤ t.length → (w ≠ [] → b + 2 * w.length ≤ F) → b + 2 * w.length ≤ O → (w = [] → O = b) →
    ∃ n, n ≤ 2 * w.length ∧ Sg rs h (b, pgc t c) n (if cpl w (t.drop c) = w.length then O else F, pgc t (c + cpl w (t.drop c)))
  | [], b, c, hw, hc, hb, hb2, h0 => ⟨0, by simp, by
    have e : cpl [] (t.drop c) = 0 := by cases t.drop c <;> rfl
    rw [e]
    rw [h0 rfl]
    simp
    exact .nil (sk_pgc ht hh hl hc (by omega))⟩
  | a :: w, b, c, hw, hc, hb', hb2, h0 => by
    have hb := hb' (by simp)
    clear hb'
    simp at hb hb2
    obtain ⟨A1, A2⟩ := hw 0 a rfl
    rw [show b + 2 * 0 = b by omega] at A1 A2
    have eb' : (if 0 + 1 = (a :: w).length then O else b + 2) = (if w.length = 0 then O else b + 2) := by cases w <;> simp
    rw [eb'] at A2
    have sk := sk_pgc (t := t) ht hh hl hc (show b < 999 by omega)
    cases e : t[c]? with
    | none =>
      have hcl : t.length ≤ c := List.getElem?_eq_none_iff.mp e
      have ed : t.drop c = [] := List.drop_eq_nil_of_le hcl
      rw [ed]
      refine ⟨1, by simp; omega, ?_⟩
      have ec : cpl (a :: w) [] = 0 := rfl
      rw [ec, if_neg (by simp)]
      refine .cons sk A1.lt ?_ ?_ (.nil (sk_pgc ht hh hl hc hF))
      · rw [A1.step, act_eq, take1n hcl]; rfl
      · show (t.length - (c + 0)) * 1000 + (999 - F) < (t.length - c) * 1000 + (999 - b); rw [Nat.add_zero]; omega
    | some d =>
      have hlt := (List.getElem?_eq_some_iff.mp e).1
      have ed : t.drop c = d :: t.drop (c + 1) := by rw [List.drop_eq_getElem_cons hlt, (List.getElem?_eq_some_iff.mp e).2]
      by_cases had : a = d
      · subst had
        obtain ⟨n, hn, sg⟩ := word_sg ht hh hl hF hO w (if w.length = 0 then O else b + 2) (c + 1) hw.tail (by omega) (fun z => by rw [if_neg (by simpa using z)]; omega) (by split <;> omega) (fun z => by rw [z]; rfl)
        generalize hb' : (if w.length = 0 then O else b + 2) = b' at *
        have hb9 : b' < 999 := by rw [← hb']; split <;> omega
        rw [ed]
        have ec : cpl (a :: w) (a :: t.drop (c + 1)) = cpl w (t.drop (c + 1)) + 1 := by simp [cpl]
        rw [ec]
        refine ⟨n + 2, by simp; omega, ?_⟩
        refine .cons sk A1.lt (s' := (b + 1, pgc t c)) ?_ ?_ (.cons (sk_pgc ht hh hl hc (by omega)) A2.lt (s' := (b', pgc t (c + 1))) ?_ ?_ ?_)
        · rw [A1.step, act_eq, take1 e]; simp
        · show (t.length - c) * 1000 + (999 - (b + 1)) < (t.length - c) * 1000 + (999 - b); omega
        · rw [A2.step, act_step, take1 e]; rfl
        · show (t.length - (c + 1)) * 1000 + (999 - b') < (t.length - c) * 1000 + (999 - (b + 1)); omega
        · have e2 : c + 1 + cpl w (t.drop (c + 1)) = c + (cpl w (t.drop (c + 1)) + 1) := by omega
          rw [e2] at sg
          have e3 : (cpl w (t.drop (c + 1)) = w.length) = (cpl w (t.drop (c + 1)) + 1 = (a :: w).length) := by simp
          simp only [e3] at sg
          exact sg
      · rw [ed]
        have ec : cpl (a :: w) (d :: t.drop (c + 1)) = 0 := by simp [cpl, had]
        rw [ec, if_neg (by simp)]
        refine ⟨1, by simp; omega, .cons sk A1.lt ?_ ?_ (.nil (sk_pgc ht hh hl hc hF))⟩
        · rw [A1.step, act_eq, take1 e]
          have : ¬ [d] = [a] := by simpa using fun z => had z.symm
          simp [this]
        · show (t.length - (c + 0)) * 1000 + (999 - F) < (t.length - c) * 1000 + (999 - b); rw [Nat.add_zero]; omega
end
theorem keysL_cons (i : It) (r : List It) : keysL (i :: r) = i.keys ++ keysL r := rfl
theorem layL_app : ∀ (a b : List It) (nu re : Nat) (on fa : Tg), on = (nu + (keysL (a ++ b)).length, -1) → layL (a ++ b) nu re on fa = layL a nu re (nu + (keysL a).length, -1) fa ++ layL b (nu + (keysL a).length) (re + repsL a) on fa
  | [], b, nu, re, on, fa, _ => by simp [layL, keysL, repsL]
  | i :: r, b, nu, re, on, fa, ho => by
    have h1 : on = (nu + i.keys.length + (keysL (r ++ b)).length, -1) := by
      rw [ho, List.cons_append, keysL_cons, List.length_append, Nat.add_assoc]
    have ih := layL_app r b (nu + i.keys.length) (re + i.reps) on fa h1
    rw [List.cons_append, layL, ih, layL, List.append_assoc]
    have e1 : (if (r ++ b).isEmpty = true then on else (nu + i.keys.length, -1)) = (if r.isEmpty = true then (nu + (keysL (i :: r)).length, -1) else (nu + i.keys.length, -1)) := by
      cases r with
      | nil =>
        cases b with
        | nil => simp at h1 ⊢; rw [h1]; simp [keysL]
        | cons x b => simp [keysL]
      | cons x r => simp
    have e2 : nu + (keysL (i :: r)).length = nu + i.keys.length + (keysL r).length := by rw [keysL_cons, List.length_append]; omega
    have e3 : re + repsL (i :: r) = re + i.reps + repsL r := by simp [repsL]; omega
    rw [e1, e2, e3]
/-- the items of a word -/
def wk : List Nat → List It
  | [] => []
  | c :: w => .key [61, c] :: .key [62] :: wk w
theorem wk_keys : ∀ w : List Nat, (keysL (wk w)).length = 2 * w.length ∧ repsL (wk w) = 0
  | [] => ⟨rfl, rfl⟩
  | c :: w => by
    obtain ⟨a, b⟩ := wk_keys w
    simp [wk, keysL, It.keys, repsL, It.reps, a, b]
    omega
theorem wk_lay (c : Nat) (w : List Nat) (nu re : Nat) (on fa : Tg) : layL (wk (c :: w)) nu re on fa = ⟨[61], [c], (nu + 1, -1), fa⟩ :: ⟨[62], [], (if w.length = 0 then on else (nu + 2, -1)), fa⟩ :: layL (wk w) (nu + 2) re on fa := by
  cases w <;> rfl
theorem word_at : ∀ (w : List Nat) (pre post : List Row) (nu re O F : Nat) (y z : Int), pre.length = nu → WordAt (pre ++ layL (wk w) nu re (O, y) (F, z) ++ post) nu w O F
  | [], pre, post, nu, re, O, F, y, z, hp => fun j c hj => by simp at hj
  | c :: w, pre, post, nu, re, O, F, y, z, hp => by
    rw [wk_lay]
    have ih := word_at w (pre ++ [⟨[61], [c], (nu + 1, -1), (F, z)⟩, ⟨[62], [], (if w.length = 0 then (O, y) else (nu + 2, -1)), (F, z)⟩]) post (nu + 2) re O F y z (by simp [hp])
    have eA : pre ++ (⟨[61], [c], (nu + 1, -1), (F, z)⟩ :: ⟨[62], [], (if w.length = 0 then (O, y) else (nu + 2, -1)), (F, z)⟩ :: layL (wk w) (nu + 2) re (O, y) (F, z)) ++ post = pre ++ [⟨[61], [c], (nu + 1, -1), (F, z)⟩, ⟨[62], [], (if w.length = 0 then (O, y) else (nu + 2, -1)), (F, z)⟩] ++ layL (wk w) (nu + 2) re (O, y) (F, z) ++ post := by simp
    intro j d hj
    cases j with
    | zero =>
      have : c = d := by simpa using hj
      subst this
      refine ⟨⟨⟨[61], [c], (nu + 1, -1), (F, z)⟩, ?_, rfl, rfl, rfl, rfl⟩, ⟨⟨[62], [], (if w.length = 0 then (O, y) else (nu + 2, -1)), (F, z)⟩, ?_, rfl, rfl, ?_, rfl⟩⟩
      · rw [List.append_assoc, List.getElem?_append_right (by omega), hp]; simp
      · rw [List.append_assoc, List.getElem?_append_right (by omega), hp]; simp
      · cases w <;> simp
    | succ j =>
      have := ih j d (by simpa using hj)
      rw [eA, show nu + 2 * (j + 1) = nu + 2 + 2 * j by omega]
      simp only [List.length_cons, Nat.add_right_cancel_iff]
      exact this
/-! ### the four recordings of the law -/
theorem Plays.zero {rs : List Row} {h : Nat} {g : Pg} : Plays rs h 0 (fun _ => g) 0 true := ⟨fun j hj => absurd hj (Nat.not_lt_zero _), Nat.le_refl _, fun _ => rfl, fun _ => rfl⟩
theorem Plays.cons {rs : List Row} {h n T E : Nat} {g : Pg} {f : Nat → Stt} {pg : Nat → Pg} {out : Bool} (p : Play rs h g f n) (d : (f n).1 = rs.length) (q : Plays rs h T pg E out) (e : (f n).2 = pg 0) : Plays rs h (T + 1) (fun j => if j = 0 then g else pg (j - 1)) (E + 1) out := by
  refine ⟨fun j hj => ?_, by have := q.le; omega, fun z => by rw [q.en z], fun z => by omega⟩
  cases j with
  | zero =>
    refine ⟨f, n, p, by simpa using e, ?_⟩
    rw [decide_eq_true d]
    by_cases hE : E = 0
    · rw [q.e0 hE]; simp
    · rw [decide_eq_true (show 0 + 1 < E + 1 by omega)]; rfl
  | succ j =>
    obtain ⟨f', n', p', e1, e2⟩ := q.pl j (by omega)
    refine ⟨f', n', by simpa using p', by simpa using e1, ?_⟩
    rw [e2]
    congr 1
    rw [decide_eq_decide]; omega
theorem Plays.fail {rs : List Row} {h n T : Nat} {g : Pg} {f : Nat → Stt} (p : Play rs h g f n) (d : ¬ (f n).1 = rs.length) : Plays rs h (T + 1) (fun j => if j = 0 then g else (f n).2) 1 false := by
  refine ⟨fun j hj => ?_, by omega, (fun z => by cases z), (fun z => by omega)⟩
  obtain rfl : j = 0 := by omega
  exact ⟨f, n, p, rfl, by rw [decide_eq_false d]; rfl⟩
/-- a recording of which one play is known from every page without a mark -/
structure One (rs : List Row) : Prop where
  ex : ∀ (t : List Nat) (c h : Nat), h ≤ 4 → c ≤ t.length → t.length ≤ 50 → (∀ a ∈ t, a ∈ sgn) → ∃ (n : Nat) (s : Stt) (t' : List Nat) (c' : Nat), Sg rs h (0, pgc t c) n s ∧ rs.length ≤ s.1 ∧ n < 63 ∧ s.2 = pgc t' c' ∧ c ≤ c' ∧ c' ≤ t'.length ∧ (∀ a ∈ t', a ∈ sgn) ∧ t'.length ≤ t.length + 1
theorem One.times {rs : List Row} (o : One rs) {h : Nat} (hh : h ≤ 4) : ∀ (T : Nat) (t : List Nat) (c : Nat), c ≤ t.length → t.length + T ≤ 50 → (∀ a ∈ t, a ∈ sgn) → ∃ (N : Nat) (pg : Nat → Pg) (out : Bool), pg 0 = pgc t c ∧ Plays rs h T pg N out
  | 0, t, c, _, _, _ => ⟨0, fun _ => pgc t c, true, rfl, Plays.zero⟩
  | T + 1, t, c, hc, hl, ht => by
    obtain ⟨n, s, t', c', sg, h1, h2, h3, h4, h5, h6, h7⟩ := o.ex t c h hh hc (by omega) ht
    obtain ⟨p, e⟩ := sg.play h1 h2
    by_cases d : s.1 = rs.length
    · obtain ⟨N, pg, out, e0, PL⟩ := o.times hh T t' c' h5 (by omega) h6
      exact ⟨N + 1, fun j => if j = 0 then pgc t c else pg (j - 1), out, rfl, Plays.cons p (by rw [e]; exact d) PL (by rw [e, h3, e0])⟩
    · exact ⟨1, fun j => if j = 0 then pgc t c else (itr rs h (0, pgc t c) n).2, false, rfl, Plays.fail p (by rw [e]; exact d)⟩
theorem One.one {rs : List Row} (o : One rs) {h : Nat} (hh : h ≤ 4) {t : List Nat} {c : Nat} (hc : c ≤ t.length) (hl : t.length ≤ 50) (ht : ∀ a ∈ t, a ∈ sgn) : ∃ (N : Nat) (pg : Nat → Pg) (out : Bool), pg 0 = pgc t c ∧ Plays rs h 1 pg N out ∧ c ≤ (pg N).t.length ∧ (∀ a ∈ (pg N).t, a ∈ sgn) ∧ (pg N).t.length ≤ t.length + 1 := by
  obtain ⟨n, s, t', c', sg, h1, h2, h3, h4, h5, h6, h7⟩ := o.ex t c h hh hc hl ht
  refine ⟨1, fun j => if j = 0 then pgc t c else s.2, _, rfl, sg.plays h1 h2, ?_⟩
  show c ≤ s.2.t.length ∧ (∀ a ∈ s.2.t, a ∈ sgn) ∧ s.2.t.length ≤ t.length + 1
  rw [h3]
  exact ⟨Nat.le_trans h4 h5, h6, h7⟩
theorem bad_sg {t : List Nat} (h : ∀ a ∈ t, a ∈ sgn) : badAt t = none := by
  unfold badAt
  rw [List.findIdx?_eq_none_iff]
  intro a ha
  simpa using h a ha
theorem One.know {n : List Nat} {its : List It} (g : Good n its) (o : One (rowsM its)) {t : List Nat} {i m hd : Int} (ht : t.length ≤ 10) (hm : nOk m → m ≤ 4) : Know n t i hd m := by
  refine ⟨fun its' g' h1 h2 h3 h4 => ?_, fun its' g' h1 h2 h3 => ?_, fun its' g' h1 h2 h3 h4 => ?_⟩
  · obtain rfl := g.one g'
    have := hm h4
    exact o.times (by omega) m.toNat t i.toNat (by omega) (by omega) (sg_bad h1)
  · obtain rfl := g.one g'
    obtain ⟨N, pg, out, e, PL, _⟩ := o.one (h := hd.toNat) (by omega) (t := t) (c := i.toNat) (by omega) (by omega) (sg_bad h1)
    exact ⟨N, pg, out, e, PL⟩
  · obtain rfl := g.one g'
    have := hm h4
    refine ⟨fun j t' => t'.length ≤ t.length + j ∧ (∀ a ∈ t', a ∈ sgn) ∧ i.toNat ≤ t'.length, ⟨by omega, sg_bad h1, by omega⟩, fun j t' hj ⟨e1, e2, e3⟩ => ⟨by omega, bad_sg e2, ⟨by omega, by omega⟩, ?_⟩⟩
    obtain ⟨N, pg, out, e, PL, q1, q2, q3⟩ := o.one (h := hd.toNat) (by omega) (t := t') (c := i.toNat) e3 (by omega) e2
    exact ⟨N, pg, out, e, PL, by omega, q2, q1⟩
theorem one_nil : One (rowsM []) := ⟨fun t c h hh hc hl ht => ⟨0, (0, pgc t c), t, c, .nil (sk_pgc ht hh (by omega) hc (by decide)), Nat.le_refl _, by decide, rfl, Nat.le_refl _, hc, ht, by omega⟩⟩
theorem mu1 {t u : List Nat} {i j c d : Nat} (hj : j < 999) (hi : i < 999) (h : u.length - d < t.length - c ∨ (u.length - d = t.length - c ∧ i < j)) : mu (j, pgc u d) < mu (i, pgc t c) := by
  show (u.length - d) * 1000 + (999 - j) < (t.length - c) * 1000 + (999 - i)
  omega
theorem one_rep : One (rowsM [.rep [.key [62]]]) := by
  have A0 : At (rowsM [.rep [.key [62]]]) 0 62 [] 0 1 := ⟨⟨[62], [], (0, 0), (1, -1)⟩, rfl, rfl, rfl, rfl, rfl⟩
  refine ⟨fun t c h hh hc hl ht => ?_⟩
  have key : ∀ m c, t.length - c = m → c ≤ t.length → Sg (rowsM [.rep [.key [62]]]) h (0, pgc t c) (m + 1) (1, pgc t t.length) := by
    intro m
    induction m with
    | zero =>
      intro c e hc
      obtain rfl : c = t.length := by omega
      refine .cons (sk_pgc ht hh (by omega) hc (by decide)) A0.lt (s' := (1, pgc t t.length)) ?_ (mu1 (by decide) (by decide) (.inr ⟨rfl, by decide⟩)) (.nil (sk_pgc ht hh (by omega) (Nat.le_refl _) (by decide)))
      rw [A0.step, act_step, take1n (Nat.le_refl _)]; rfl
    | succ m ih =>
      intro c e hc
      have hlt : c < t.length := by omega
      refine .cons (sk_pgc ht hh (by omega) hc (by decide)) A0.lt (s' := (0, pgc t (c + 1))) ?_ (mu1 (by decide) (by decide) (.inl (by omega))) (ih (c + 1) (by omega) (by omega))
      rw [A0.step, act_step, take1 (List.getElem?_eq_getElem hlt)]; rfl
  exact ⟨_, _, t, t.length, key _ c rfl hc, Nat.le_refl 1, by omega, rfl, hc, Nat.le_refl _, ht, by omega⟩
theorem act_del (t : List Nat) (c h : Nat) : (pgc t c).act h 120 [] = if (t.drop c).take 1 = [] then (false, pgc t c) else (true, pgc (t.take c ++ t.drop (c + 1)) c) := rfl
theorem act_ins (t : List Nat) (a c h : Nat) : (pgc t c).act h 39 [a] = (true, pgc (t.take c ++ a :: t.drop c) (c + 1)) := rfl
theorem one_sx : One (rowsM [.key [62], .key [120]]) := by
  have A0 : At (rowsM [.key [62], .key [120]]) 0 62 [] 1 3 := ⟨⟨[62], [], (1, -1), (3, -1)⟩, rfl, rfl, rfl, rfl, rfl⟩
  have A1 : At (rowsM [.key [62], .key [120]]) 1 120 [] 2 3 := ⟨⟨[120], [], (2, -1), (3, -1)⟩, rfl, rfl, rfl, rfl, rfl⟩
  refine ⟨fun t c h hh hc hl ht => ?_⟩
  have k0 := sk_pgc (h := h) (i := 0) ht hh (by omega) hc (by decide)
  by_cases h1 : c < t.length
  · have e0 : stepM (rowsM [.key [62], .key [120]]) h (0, pgc t c) = (1, pgc t (c + 1)) := by
      rw [A0.step, act_step, take1 (List.getElem?_eq_getElem h1)]; rfl
    have k1 := sk_pgc (h := h) (i := 1) (c := c + 1) ht hh (by omega) (by omega) (by decide)
    by_cases h2 : c + 1 < t.length
    · have ht' : ∀ a ∈ t.take (c + 1) ++ t.drop (c + 1 + 1), a ∈ sgn := fun a ha => (List.mem_append.mp ha).elim (fun z => ht a (List.mem_of_mem_take z)) fun z => ht a (List.mem_of_mem_drop z)
      have hl' : (t.take (c + 1) ++ t.drop (c + 1 + 1)).length = t.length - 1 := by rw [List.length_append, List.length_take, List.length_drop]; omega
      refine ⟨2, (2, pgc (t.take (c + 1) ++ t.drop (c + 1 + 1)) (c + 1)), _, _, .cons k0 A0.lt e0 (mu1 (by decide) (by decide) (.inl (by omega))) (.cons k1 A1.lt ?_ (mu1 (by decide) (by decide) (.inl (by omega))) (.nil (sk_pgc ht' hh (by omega) (by omega) (by decide)))), Nat.le_refl 2, by decide, rfl, by omega, by omega, ht', by omega⟩
      rw [A1.step, act_del, take1 (List.getElem?_eq_getElem h2)]; rfl
    · refine ⟨2, (3, pgc t (c + 1)), _, _, .cons k0 A0.lt e0 (mu1 (by decide) (by decide) (.inl (by omega))) (.cons k1 A1.lt ?_ (mu1 (by decide) (by decide) (.inr ⟨rfl, by decide⟩)) (.nil (sk_pgc ht hh (by omega) (by omega) (by decide)))), (by show 2 ≤ 3; decide), by decide, rfl, by omega, by omega, ht, by omega⟩
      rw [A1.step, act_del, take1n (by omega)]; rfl
  · refine ⟨1, (3, pgc t c), _, _, .cons k0 A0.lt ?_ (mu1 (by decide) (by decide) (.inr ⟨rfl, by decide⟩)) (.nil (sk_pgc ht hh (by omega) hc (by decide))), (by show 2 ≤ 3; decide), by decide, rfl, by omega, hc, ht, by omega⟩
    rw [A0.step, act_step, take1n (by omega)]; rfl
theorem one_is : One (rowsM [.key [39, 97], .key [62]]) := by
  have A0 : At (rowsM [.key [39, 97], .key [62]]) 0 39 [97] 1 3 := ⟨⟨[39], [97], (1, -1), (3, -1)⟩, rfl, rfl, rfl, rfl, rfl⟩
  have A1 : At (rowsM [.key [39, 97], .key [62]]) 1 62 [] 2 3 := ⟨⟨[62], [], (2, -1), (3, -1)⟩, rfl, rfl, rfl, rfl, rfl⟩
  refine ⟨fun t c h hh hc hl ht => ?_⟩
  have k0 := sk_pgc (h := h) (i := 0) ht hh (by omega) hc (by decide)
  have ht' : ∀ a ∈ t.take c ++ 97 :: t.drop c, a ∈ sgn := fun a ha => by
    rcases List.mem_append.mp ha with z | z
    · exact ht a (List.mem_of_mem_take z)
    · rcases List.mem_cons.mp z with rfl | z
      · decide
      · exact ht a (List.mem_of_mem_drop z)
  have hl' : (t.take c ++ 97 :: t.drop c).length = t.length + 1 := by rw [List.length_append, List.length_cons, List.length_take, List.length_drop]; omega
  have e0 : stepM (rowsM [.key [39, 97], .key [62]]) h (0, pgc t c) = (1, pgc (t.take c ++ 97 :: t.drop c) (c + 1)) := by
    rw [A0.step, act_ins]; rfl
  generalize t.take c ++ 97 :: t.drop c = u at ht' hl' e0
  have k1 := sk_pgc (h := h) (i := 1) (c := c + 1) ht' hh (by omega) (by omega) (by decide)
  have m0 : mu (1, pgc u (c + 1)) < mu (0, pgc t c) := mu1 (by decide) (by decide) (.inr ⟨by omega, by decide⟩)
  by_cases h2 : c + 1 < u.length
  · refine ⟨2, (2, pgc u (c + 2)), _, _, .cons k0 A0.lt e0 m0 (.cons k1 A1.lt ?_ (mu1 (by decide) (by decide) (.inl (by omega))) (.nil (sk_pgc ht' hh (by omega) (by omega) (by decide)))), Nat.le_refl 2, by decide, rfl, by omega, by omega, ht', by omega⟩
    rw [A1.step, act_step, take1 (List.getElem?_eq_getElem h2)]; rfl
  · refine ⟨2, (3, pgc u (c + 1)), _, _, .cons k0 A0.lt e0 m0 (.cons k1 A1.lt ?_ (mu1 (by decide) (by decide) (.inr ⟨rfl, by decide⟩)) (.nil (sk_pgc ht' hh (by omega) (by omega) (by decide)))), (by show 2 ≤ 3; decide), by decide, rfl, by omega, by omega, ht', by omega⟩
    rw [A1.step, act_step, take1n (by omega)]; rfl
/-- the law's recordings -/
inductive Rc19 : List Nat → Prop
  | a : Rc19 [40, 62, 41]
  | b : Rc19 [62, 120]
  | c : Rc19 [39, 97, 62]
  | d : Rc19 []
theorem Rc19.good {n : List Nat} (h : Rc19 n) : ∃ its, Good n its ∧ One (rowsM its) := by
  cases h with
  | a => exact ⟨_, ⟨rfl, by decide, by decide⟩, one_rep⟩
  | b => exact ⟨_, ⟨rfl, by decide, by decide⟩, one_sx⟩
  | c => exact ⟨_, ⟨rfl, by decide, by decide⟩, one_is⟩
  | d => exact ⟨_, ⟨rfl, by decide, by decide⟩, one_nil⟩
theorem Rc19.bad {n : List Nat} (h : Rc19 n) : read false (n ++ [41]) = .inl n.length := by
  cases h <;> rfl
theorem Rc19.len {n : List Nat} (h : Rc19 n) : n.length ≤ 3 := by
  cases h <;> decide
/-! ### the box -/
def spTake : Sp := fun vs H Q _ => ∃ (b l : Addr) (n : Int), vs = [.ref b, .int n] ∧ Box H b l ∧ 0 < n ∧ n ≤ 2 ^ 100 ∧ ∀ (H' : Hp) (r : Int), Kp [b, l] H H' → Box H' b l → 0 ≤ r → r < n → Q (.int r) H'
abbrev s_take : Stmt := top 57
theorem sc_take : FnScope ["_law_box_here", "_law_size", "_law_cell", "_law_digit"] ["_law_box_here", "_law_size"] (defScope s_take) := ⟨rfl, rfl, rfl, by decide +kernel, rfl, by decide +kernel, by decide +kernel⟩
theorem ok_take (T : TX K mg) {f : Addr} {fd : FuncData} (F : FnP K "_law_take" s_take f fd) : FnOk P w K mg base (CX P w) 1 f fd ["_law_box_here", "_law_size"] spTake := by
  refine F.ok sc_take (fun vs H Q E h => ?_) (fun cdv A outer s H vs Q E hr h => ?_)
  · obtain ⟨b, l, n, rfl, _⟩ := h
    rfl
  · obtain ⟨b, l, n, rfl, B, hn, hn2, k⟩ := h
    obtain ⟨ne, cs, x, y, hb, hl, hx, hy, hy2⟩ := B
    refine ⟨_, (C8.pss_cut (ps_if (PW.pt (pw_and (pt_cmpR op_eq (pe_ix ix_list (pv 0) pe_int (fun _ _ => rfl)) pe_int (nomark _)) (pw_and1 (pt_cmpR (op_neD hr.units) (pe_ix ix_list (pv 0) pe_int (fun _ _ => rfl)) (pe_lst pa_nil) (nomark _))))) (pss_cons (ps_set (i := 2) sc_take.nd rfl (Or.inl rfl) (pe_bm PySem.F.plainAttrs_list PySem.F.slot_list_pop PySem.F.type_list_pop mt_popAt (pe_ix ix_list (pv 0) pe_int (fun _ _ => rfl)) (pa_cons pe_int pa_nil))) (pss_one (ps_if (pt_cmpR op_ge (pv 2) (pe_op op_pow pe_int pe_int) (nomark _)) (pss_one (ps_asg (pe_op op_sub (pv 2) (pe_op op_pow pe_int pe_int)) (pg_sub (pv 0) pe_int set_list))) (pss_one (ps_asg (pe_op op_mod (pe_callTy call_int1 (by rfl) T.b_int (by decide +kernel) (pa_cons (pe_op op_add (pe_op op_mul (pe_ix ix_list (pv 0) pe_int (fun _ _ => rfl)) pe_int) (pe_op op_mul (pv 2) pe_int)) pa_nil)) pe_int) (pg_sub (pv 0) pe_int set_list)))))) pss_nil) (pss_cons (ps_if (pt_cmpR op_gt (pe_ix ix_list (pv 0) pe_int (fun _ _ => rfl)) pe_int (nomark _)) (pss_cons (ps_set (i := 3) sc_take.nd rfl (Or.inl rfl) (pe_op op_mod (pe_callTy call_int1 (by rfl) T.b_int (by decide +kernel) (pa_cons (pe_ix ix_list (pv 0) pe_int (fun _ _ => rfl)) pa_nil)) (pv 1))) (pss_cons (ps_asg (pe_op op_fdivW (pe_ix ix_list (pv 0) pe_int (fun _ _ => rfl)) (pv 1)) (pg_sub (pv 0) pe_int set_list)) (pss_one (ps_ret (pv 3))))) pss_nil) (pss_cons (ps_asg (pe_op op_mod (pe_callTy call_int1 (by rfl) T.b_int (by decide +kernel) (pa_cons (pe_op op_mul (pe_ix ix_list (pv 0) pe_int (fun _ _ => rfl)) pe_int) pa_nil)) pe_int) (pg_sub (pv 0) pe_int set_list)) (pss_one (ps_ret (pe_op op_mod (pe_callTy call_int1 (by rfl) T.b_int (by decide +kernel) (pa_cons (pe_op op_fdivW (pe_ix ix_list (pv 0) pe_int (fun _ _ => rfl)) pe_int) pa_nil)) (pv 1))))))), ?_⟩
    refine ⟨fun σ' H' => ∃ (u v : Option V) (cs : List Int) (x y : Int), σ' = [some (.ref b), some (.int n), u, v] ∧ Kp [b, l] H H' ∧ H' b = some (.lst [.ref l, .int x, .int y]) ∧ H' l = some (.lst (cs.map V.int)) ∧ 0 ≤ x ∧ 0 ≤ y ∧ y < 2147483647, ?_, ?_⟩
    · refine ⟨_, rfl, b, _, 1, _, rfl, rfl, SqL.of hb, rfl, rfl, _, rfl, ?_⟩
      refine if2 (fun c => ?_) (fun c => ?_)
      · rw [dI] at c
        have x0 : x = 0 := of_decide_eq_true c
        refine ⟨_, rfl, b, _, 0, _, rfl, rfl, SqL.of hb, rfl, Nat.zero_le _, fun p hp => ?_⟩
        have nl : l ≠ p := ne_of_none hl hp
        have nb : b ≠ p := ne_of_none hb hp
        cases cs with
        | nil =>
          refine ⟨_, _, .lst (SqL.of (by rw [upd_ne nl]; exact hl)) .nil, .lst (SqL.of upd_same) .nil, rfl, rfl, _, rfl, ?_⟩
          refine iff' (by rfl) ?_
          exact ⟨none, none, [], x, y, rfl, Kp.refl.new hp, by rw [upd_ne nb]; exact hb, by rw [upd_ne nl]; exact hl, hx, hy, hy2⟩
        | cons c0 cs =>
          refine ⟨_, _, .lst (SqL.of (by rw [upd_ne nl]; exact hl)) (dpInts (c0 :: cs)), .lst (SqL.of upd_same) .nil, shInts (c0 :: cs), rfl, _, rfl, ?_⟩
          refine ift (by rfl) ?_
          refine ⟨_, rfl, b, _, 0, _, rfl, rfl, SqL.of (by rw [upd_ne nb]; exact hb), rfl, tyL (by rw [upd_ne nl]; exact hl), ?_⟩
          refine ⟨l, _, 0, 0, .int c0, rfl, rfl, (by rw [upd_ne nl]; exact hl), by decide, by decide, six0 (by simp), rfl, ?_⟩
          have hb1 : upd (upd H p (.lst [])) l (.lst (cs.map V.int)) b = some (.lst [.ref l, .int x, .int y]) := by rw [upd_ne ne, upd_ne nb]; exact hb
          have hl1 : upd (upd H p (.lst [])) l (.lst (cs.map V.int)) l = some (.lst (cs.map V.int)) := upd_same
          have k1 : Kp [b, l] H (upd (upd H p (.lst [])) l (.lst (cs.map V.int))) := (Kp.refl.new hp).upd (by simp)
          refine ⟨_, rfl, 10, 18, rfl, rfl, ⟨by decide, by decide, by decide⟩, _, _, rfl, rfl, _, rfl, ?_⟩
          refine if2 (fun c => ?_) (fun c => ?_)
          · have hc : (10 : Int) ^ 18 ≤ c0 := of_decide_eq_true c
            refine ⟨_, rfl, 10, 18, rfl, rfl, ⟨by decide, by decide, by decide⟩, _, _, rfl, rfl, _, rfl, b, _, 1, 1, rfl, rfl, hb1, rfl, ?_⟩
            exact ⟨_, none, cs, _, y, rfl, k1.upd (by simp), upd_same, by rw [upd_ne ne.symm]; exact hl1, (show (0 : Int) ≤ c0 - 10 ^ 18 by omega), hy, hy2⟩
          · refine ⟨_, rfl, b, _, 2, _, rfl, rfl, SqL.of hb1, rfl, _, _, rfl, rfl, .inr ⟨by decide, by decide⟩, _, rfl, _, _, rfl, rfl, .inr ⟨by decide, by decide⟩, _, _, rfl, rfl, .inl ⟨_, rfl, _, _, rfl, rfl, (show (0 : Int) < 2147483647 by decide), _, rfl, b, _, 2, 2, rfl, rfl, hb1, rfl, ?_⟩⟩
            exact ⟨_, none, cs, x, _, rfl, k1.upd (by simp), upd_same, by rw [upd_ne ne.symm]; exact hl1, hx, Int.emod_nonneg _ (by decide), Int.emod_lt_of_pos _ (by decide)⟩
      · refine iff' rfl ?_
        exact ⟨none, none, cs, x, y, rfl, Kp.refl, hb, hl, hx, hy, hy2⟩
    · rintro σ' H' ⟨u, v, cs, x, y, rfl, kp, hb, hl, hx, hy, hy2⟩
      refine ⟨_, rfl, b, _, 1, _, rfl, rfl, SqL.of hb, rfl, _, _, rfl, rfl, _, rfl, ?_⟩
      refine if2 (fun c => ?_) (fun c => ?_)
      · have hc : (0 : Int) < x := of_decide_eq_true c
        refine ⟨_, rfl, b, _, 1, _, rfl, rfl, SqL.of hb, rfl, .inl ⟨_, rfl, _, rfl, _, _, rfl, rfl, hn, ?_⟩⟩
        refine ⟨_, rfl, b, _, 1, _, rfl, rfl, SqL.of hb, rfl, _, rfl, _, _, rfl, rfl, wide_div (b := 200) hn ?_ (by decide) (by decide), _, rfl, b, _, 1, 1, rfl, rfl, hb, rfl, _, rfl, ?_⟩
        · omega
        · exact k _ _ (kp.upd (by simp)) ⟨ne, cs, _, y, upd_same, by rw [upd_ne ne.symm]; exact hl, Int.ediv_nonneg hx (by omega), hy, hy2⟩ (Int.emod_nonneg _ (by omega)) (Int.emod_lt_of_pos _ hn)
      · refine ⟨_, rfl, b, _, 2, _, rfl, rfl, SqL.of hb, rfl, _, _, rfl, rfl, .inr ⟨by decide, by decide⟩, .inl ⟨_, rfl, _, _, rfl, rfl, (show (0 : Int) < 2147483647 by decide), _, rfl, b, _, 2, 2, rfl, rfl, hb, rfl, ?_⟩⟩
        refine ⟨_, rfl, b, _, 2, _, rfl, rfl, SqL.of upd_same, rfl, _, _, rfl, rfl, ⟨by decide, by decide⟩, .inl ⟨_, rfl, _, rfl, _, _, rfl, rfl, hn, ?_⟩⟩
        exact k _ _ (kp.upd (by simp)) ⟨ne, cs, x, _, upd_same, by rw [upd_ne ne.symm]; exact hl, hx, Int.emod_nonneg _ (by decide), Int.emod_lt_of_pos _ (by decide)⟩ (Int.emod_nonneg _ (by omega)) (Int.emod_lt_of_pos _ hn)
def spSigns : Sp := fun vs H Q _ => vs = [] ∧ Q (.str (S sgn)) H
def spBox (K : PySem.W.Frag) : Sp := fun vs H Q _ => ∃ (a : Addr) (ns : List Int), vs = [.ref a] ∧ SqL K H a (ns.map V.int) ∧ ∀ H' b l, Same H H' → H b = none → H l = none → Box H' b l → Q (.ref b) H'
abbrev s_box : Stmt := top 56
theorem sc_box : FnScope ["_law_script"] ["_law_script"] (defScope s_box) := ⟨rfl, rfl, rfl, by decide +kernel, rfl, by decide +kernel, by decide +kernel⟩
theorem ok_box (T : TX K mg) {f : Addr} {fd : FuncData} (F : FnP K "_law_box" s_box f fd) : FnOk P w K mg base (CX P w) 1 f fd ["_law_script"] (spBox K) := by
  refine F.ok sc_box (fun vs H Q E h => ?_) (fun cdv A outer s H vs Q E hr h => ?_)
  · obtain ⟨a, ns, rfl, _⟩ := h
    rfl
  · obtain ⟨a, ns, rfl, hS, k⟩ := h
    refine ⟨_, (pss_one (ps_ret (pe_lst (pa_cons (pe_callTy call_list_of (by rfl) T.b_list (by decide +kernel) (pa_cons (pv 0) pa_nil)) (pa_cons pe_int (pa_cons pe_int pa_nil)))))), ?_⟩
    refine ⟨_, rfl, a, _, rfl, .inl hS, fun l hl => ⟨(show 3 ≤ sizeLine by decide), fun b hb => ?_⟩⟩
    have ne : l ≠ b := fun q => by rw [q, upd_same] at hb; cases hb
    have hb' : H b = none := by rw [upd_ne ne.symm] at hb; exact hb
    exact k _ b l (Same.new (Same.new (Same.refl H) hl) hb) hb' hl ⟨ne.symm, ns, 0, 0, upd_same, by rw [upd_ne ne]; exact upd_same, by decide, by decide, by decide⟩
def spText : Sp := fun vs H Q _ => ∃ (b l : Addr) (sg : List Nat) (m : Int), vs = [.ref b, .str (S sg), .int m] ∧ Box H b l ∧ 0 ≤ m ∧ m ≤ 1000 ∧ sg ≠ [] ∧ sg.length ≤ 1000 ∧ ∀ H' (t : List Nat), Kp [b, l] H H' → Box H' b l → (t.length : Int) ≤ m → (∀ c ∈ t, c ∈ sg) → Q (.str (S t)) H'
abbrev s_text : Stmt := top 58
theorem sc_text : FnScope ["_law_box_here", "_law_signs", "_law_most", "_law_size", "_law_k"] ["_law_box_here", "_law_signs", "_law_most"] (defScope s_text) := ⟨rfl, rfl, rfl, by decide +kernel, rfl, by decide +kernel, by decide +kernel⟩
theorem ok_text (T : TX K mg) (c__law_take : KCal P w K mg base 1 "_law_take" spTake []) {f : Addr} {fd : FuncData} (F : FnP K "_law_text" s_text f fd) : FnOk P w K mg base (CX P w) 2 f fd ["_law_box_here", "_law_signs", "_law_most"] spText := by
  refine F.ok sc_text (fun vs H Q E h => ?_) (fun cdv A outer s H vs Q E hr h => ?_)
  · obtain ⟨b, l, sg, m, rfl, _⟩ := h
    rfl
  · obtain ⟨b, l, sg, m, rfl, B, hm, hm2, hne, hsl, k⟩ := h
    refine ⟨_, (pss_cons (ps_set (i := 3) sc_text.nd rfl (Or.inl rfl) (kc c__law_take hr (by decide) rfl (pa_cons (pv 0) (pa_cons (pe_op op_add (pv 2) pe_int) pa_nil)))) (pss_one (ps_ret (pe_join0 (pe_strS [] (by decide +kernel)) (pe_lc (own := [("_law_k", 4)]) rfl sc_text.nd (pi_range1 (by rfl) T.b_range (pa_cons (pv 3) pa_nil)) (blkOk_by (own := [("_law_k", 4)]) (N := ["_law_box_here", "_law_signs", "_law_most", "_law_size", "_law_k"]) (sc := defScope s_text) (by decide +kernel)) (fun _ _ _ _ _ => (pg_name (i := 4) sc_text.nd rfl (Or.inl rfl))) (fun _ _ _ _ _ => pts_nil) (fun _ _ _ _ _ => (pe_ix ix_S (pv 1) (kc c__law_take hr (by decide) rfl (pa_cons (pv 0) (pa_cons (pe_callB call_lenS (by rfl) T.b_len PySem.boot_len (pa_cons (pv 1) pa_nil)) pa_nil))) (fun _ _ => rfl)))))))), ?_⟩
    refine ⟨_, rfl, _, rfl, _, _, rfl, rfl, b, l, m + 1, rfl, B, by omega, by omega, fun H1 r k1 B1 r0 r1 => ?_⟩
    refine ⟨⟨_, rfl⟩, _, rfl, r, rfl, by omega, by omega, fun D hD => ?_⟩
    have nDb : b ≠ D := fun q => by obtain ⟨_, _, _, _, hb, _⟩ := B1; rw [q, hD] at hb; cases hb
    have nDl : l ≠ D := fun q => by obtain ⟨_, _, _, _, _, hb, _⟩ := B1; rw [q, hD] at hb; cases hb
    refine lc_range (lo := 0) (n := r.toNat) (fun i H2 => ∃ ys : List (List Nat), H2 D = some (.lst (ys.map fun y => V.str (S y))) ∧ Kp [b, l] H1 H2 ∧ Box H2 b l ∧ ys.length = i ∧ ys.flatten.length = i ∧ ∀ c ∈ ys.flatten, c ∈ sg) ?_ ?_ ?_
    · refine ⟨[], upd_same, Kp.refl.new hD, B1.new hD, rfl, rfl, by simp⟩
    · rintro i H2 hi ⟨ys, hY, k2, B2, e1, e2, hc⟩
      refine ⟨rfl, ?_⟩
      refine ⟨_, rfl, _, rfl, _, rfl, _, rfl, by omega, b, l, (sg.length : Int), rfl, B2, ?_, by omega, fun H3 q k3 B3 q0 q1 => ?_⟩
      · have := List.length_pos_iff.mpr hne
        omega
      have hq : q.toNat < sg.length := by omega
      refine ⟨_, _, _, rfl, rfl, by omega, q0, List.getElem?_eq_getElem hq, ?_⟩
      have hD3 := k3 D _ (by simp [nDb.symm, nDl.symm]) hY
      refine ⟨_, hD3, ?_, ys ++ [[sg[q.toNat]]], ?_, (k2.trans k3).mut hD, B3.mut (nDb.symm) (nDl.symm), ?_, ?_, ?_⟩
      · rw [List.length_map]; exact ltSz (by omega)
      · rw [upd_same, List.map_append]; rfl
      · simp [e1]
      · simp [e2]
      · intro c hc'
        simp at hc'
        rcases hc' with ⟨y, hy, hy2⟩ | rfl
        · exact hc c (by simp; exact ⟨y, hy, hy2⟩)
        · exact List.getElem_mem hq
    · rintro H2 ⟨ys, hY, k2, B2, e1, e2, hc⟩
      refine ⟨_, _, rfl, rfl, SqL.of hY, by omega, ?_⟩
      exact k _ _ (k1.trans k2) B2 (by omega) hc
/-- a list of pairs of a name and a number -/
abbrev Pr := List Nat × Int
def PrV (H : Hp) (v : V) (p : Pr) : Prop := ∃ r, v = .ref r ∧ H r = some (.tup [.str (S p.1), .int p.2])
abbrev Prs (H : Hp) (xs : List V) (ps : List Pr) : Prop := Paired (PrV H) xs ps
theorem PrV.keep {H H' : Hp} (k : Tk H H') {v : V} {p : Pr} (h : PrV H v p) : PrV H' v p := by
  obtain ⟨r, e, h⟩ := h
  exact ⟨r, e, k _ _ h⟩
theorem Prs.keep {H H' : Hp} (k : Tk H H') {xs : List V} {ps : List Pr} (h : Prs H xs ps) : Prs H' xs ps := Paired.mapP h fun _ _ q => q.keep k
theorem Prs.app {H : Hp} {xs : List V} {ps : List Pr} (h : Prs H xs ps) {v : V} {p : Pr} (q : PrV H v p) : Prs H (xs ++ [v]) (ps ++ [p]) := by
  induction h with
  | nil => exact .cons q .nil
  | cons r _ ih => exact .cons r ih
theorem Prs.apps {H : Hp} {xs ys : List V} {ps qs : List Pr} (h : Prs H xs ps) (g : Prs H ys qs) : Prs H (xs ++ ys) (ps ++ qs) := by
  induction h with
  | nil => exact g
  | cons r _ ih => exact .cons r ih
theorem Prs.rev {H : Hp} {xs : List V} {ps : List Pr} (h : Prs H xs ps) : Prs H xs.reverse ps.reverse := by
  induction h with
  | nil => exact .nil
  | cons r _ ih => rw [List.reverse_cons, List.reverse_cons]; exact ih.app r
structure L19 (H : Hp) (b l D : Addr) (ds : List Pr) : Prop where
  B : Box H b l
  nb : D ≠ b
  nl : D ≠ l
  ex : ∃ xs, H D = some (.lst xs) ∧ Prs H xs ds
theorem L19.take {H H' : Hp} {b l D : Addr} {ds : List Pr} (h : L19 H b l D ds) (k : Kp [b, l] H H') (B' : Box H' b l) : L19 H' b l D ds := by
  obtain ⟨xs, e, r⟩ := h.ex
  exact ⟨B', h.nb, h.nl, xs, k _ _ (by simp; exact ⟨h.nb, h.nl⟩) e, r.keep (Tk.bx k h.B Tk.refl)⟩
theorem L19.new {H : Hp} {b l D p : Addr} {o : HO} {ds : List Pr} (h : L19 H b l D ds) (hp : H p = none) : L19 (upd H p o) b l D ds := by
  obtain ⟨xs, e, r⟩ := h.ex
  exact ⟨h.B.new hp, h.nb, h.nl, xs, by rw [upd_ne (ne_of_none e hp)]; exact e, r.keep (Tk.nw hp Tk.refl)⟩
theorem L19.put {H : Hp} {b l D : Addr} {ds ds' : List Pr} {ys : List V} (h : L19 H b l D ds) (r : Prs H ys ds') : L19 (upd H D (.lst ys)) b l D ds' := by
  obtain ⟨xs, e, _⟩ := h.ex
  exact ⟨h.B.mut h.nb h.nl, h.nb, h.nl, ys, upd_same, r.keep (Tk.ls e Tk.refl)⟩
theorem L19.other {H : Hp} {b l D F : Addr} {ds fs : List Pr} {ys : List V} (h : L19 H b l D ds) (g : L19 H b l F fs) (ne : D ≠ F) : L19 (upd H F (.lst ys)) b l D ds := by
  obtain ⟨xs, e, r⟩ := h.ex
  obtain ⟨zs, e2, _⟩ := g.ex
  exact ⟨h.B.mut g.nb g.nl, h.nb, h.nl, xs, by rw [upd_ne ne]; exact e, r.keep (Tk.ls e2 Tk.refl)⟩
theorem L19.nil {H : Hp} {b l D : Addr} (B : Box H b l) (hD : H D = none) : L19 (upd H D (.lst [])) b l D [] := by
  obtain ⟨ns, d, a, c, h1, h2, _⟩ := id B
  exact ⟨B.new hD, (ne_of_none h1 hD).symm, (ne_of_none h2 hD).symm, [], upd_same, .nil⟩
/-- one more -/
theorem L19.app {H : Hp} {b l D rr : Addr} {ds : List Pr} (h : L19 H b l D ds) (nm : List Nat) (x : Int) (hr : H rr = none) : ∃ xs, upd H rr (.tup [.str (S nm), .int x]) D = some (.lst xs) ∧ xs.length = ds.length ∧ L19 (upd (upd H rr (.tup [.str (S nm), .int x])) D (.lst (xs ++ [.ref rr]))) b l D (ds ++ [(nm, x)]) := by
  have h2 := h.new (o := .tup [.str (S nm), .int x]) hr
  obtain ⟨xs, e, r⟩ := h2.ex
  exact ⟨xs, e, Paired.length r, h2.put (r.app ⟨rr, rfl, upd_same⟩)⟩
theorem bad_tab {u v : List Nat} (hu : ∀ a ∈ u, a ∈ sgn) : badAt (u ++ [9] ++ v) = some u.length := by
  unfold badAt
  induction u with
  | nil => rfl
  | cons a u ih =>
    have ha := hu a (List.mem_cons_self ..)
    rw [List.cons_append, List.cons_append, List.findIdx?_cons, ih fun x hx => hu x (List.mem_cons_of_mem _ hx)]
    simp [ha]
theorem cp20 : CPow 10 20 := ⟨by decide, by decide, by decide⟩
/-- the law's notation, its text, its place, its number and its hold, with what is due for them -/
def N19 (n : List Nat) (ds : List Pr) : Prop := (∃ its, ds = [] ∧ Good n its ∧ One (rowsM its)) ∨ (∃ j : Nat, ds = [((nmR, ((j : Nat) : Int)) : Pr)] ∧ read false n = .inl j)
def T19 (t : List Nat) (ds : List Pr) : Prop := (ds = [] ∧ tOk t) ∨ (∃ j : Nat, ds = [((nmT, ((j : Nat) : Int)) : Pr)] ∧ badAt t = some j)
def V19 (ok : Prop) (nm : List Nat) (i : Int) (ds : List Pr) : Prop := (ds = [] ∧ ok) ∨ (ds = [(nm, i)] ∧ ¬ ok)
theorem filter_tkP {α : Type} {p : α → Bool} {a : List α} {i : Nat} {c : α} (h : a[i]? = some c) : (a.take (i + 1)).filter p = (a.take i).filter p ++ if p c then [c] else [] := by
  have e : a.take (i + 1) = a.take i ++ [c] := by rw [List.take_succ, h]; rfl
  rw [e, List.filter_append]
  congr 1
  by_cases q : p c
  · simp [q]
  · simp [q]
/-- [x for x in pairs if p x] -/
theorem lcPr {K : PySem.W.Frag} {a : Addr} {xs : List V} {ps : List Pr} {p : Pr → Bool} {i : Nat} {tt : TT} {vs : List Nat} {σ : L2.St} {H1 : Hp} {D : Addr} {Qd : Hp → Prop} (hl : ps.length ≤ 1000) (hD : H1 D = none) (ha : H1 a = some (.lst xs)) (hp : Prs H1 xs ps)
    (ht : ∀ (q : Pr) (r : Addr) (H2 : Hp) (R : Bool → Hp → Prop), Same H1 H2 → H2 r = some (.tup [.str (S q.1), .int q.2]) → (∀ H3, Same H2 H3 → R (p q) H3) → tt ((wipe σ vs).set i (some (.ref r))) H2 R)
    (hw : ∀ v, wipe ((wipe σ vs).set i v) vs = wipe σ vs) (hv : ∀ v, ((wipe σ vs).set i v)[i]? = some v)
    (hd : ∀ H2 ys, Same H1 H2 → H2 D = some (.lst ys) → Prs H2 ys (ps.filter p) → Qd H2) :
    ∃ W : Nat → Nat → Hp → Prop, (∃ m, W 0 m (upd H1 D (.lst []))) ∧ ∀ j m H, W j m H →
      ((Itl K a).stop j H ∧ Qd H) ∨ ((Itl K a).go j H ∧ ∃ Nx : Hp → Prop, (∀ H', Nx H' → ∃ m', m' < m ∧ W (j + 1) m' H') ∧ ∀ x H', (Itl K a).yld j H x H' → gName i x (wipe σ vs) H' fun σ2 H2 => wipe σ2 vs = wipe σ vs ∧ tt σ2 H2 fun b H3 =>
        if b = true then tVar i σ2 H3 fun y H4 => ∃ acc, H4 D = some (.lst acc) ∧ acc.length < sizeLine ∧ Nx (upd H4 D (.lst (acc ++ [y]))) else Nx H3) := by
  refine lc_list (K := K) (a := a) (xs := xs) (fun j H2 => ∃ ys, H2 D = some (.lst ys) ∧ Prs H2 ys ((ps.take j).filter p) ∧ Same H1 H2) ?_ ?_ ?_ ?_
  · exact ⟨[], upd_same, .nil, sNew (Same.refl _) hD⟩
  · rintro j H2 hj ⟨ys, _, _, s2⟩
    exact SqL.of (s2 _ _ ha)
  · rintro j x H2 hx ⟨ys, h1, h2, s2⟩
    obtain ⟨q, hq, r, rfl, hr⟩ := pairAt hp hx
    have ef := filter_tkP (p := p) hq
    refine ⟨hw _, ht q r H2 _ s2 (s2 _ _ hr) fun H3 s3 => ?_⟩
    have hfl : ys.length ≤ 1000 := by
      rw [Paired.length h2]
      exact Nat.le_trans (List.length_filter_le _ _) (by rw [List.length_take]; omega)
    have s13 := s2.trans s3
    have h13 := s3 _ _ h1
    have h23 := h2.keep (Tk.same s3)
    refine if2 (fun bq => ?_) (fun bq => ?_)
    · refine ⟨_, hv _, ys, h13, ltSz (by omega), ys ++ [.ref r], upd_same, ?_, sMut s13 hD⟩
      rw [ef, bq]
      exact (h23.app ⟨r, rfl, s13 _ _ hr⟩).keep (Tk.ls h13 Tk.refl)
    · refine ⟨ys, h13, ?_, s13⟩
      rw [ef, bq]
      simpa using h23
  · rintro H2 ⟨ys, h1, h2, s2⟩
    have hxl : xs.length = ps.length := Paired.length hp
    rw [hxl, List.take_length] at h2
    exact hd H2 ys s2 h1 h2
theorem in023 (w : Int) : inV (.int w) [.int 0, .int 2, .int 3] = (decide (w = 0) || (decide (w = 2) || decide (w = 3))) := by
  have e : ∀ a : Int, eqV (.int a) (.int w) = decide (w = a) := fun a => by
    show decide (a = w) = decide (w = a)
    rw [decide_eq_decide]
    exact eq_comm
  show (eqV (.int 0) (.int w) || (eqV (.int 2) (.int w) || (eqV (.int 3) (.int w) || false))) = _
  rw [e, e, e, Bool.or_false]
/-- what is due, in order -/
def due19 (w : Int) (ds fs : List Pr) : List Pr := ds.filter (fun p => !decide (p.1 = nmR) || decide (w < 5)) ++ (if w = 2 ∨ w = 3 then fs.reverse else fs).filter (fun p => decide (p.1 = nmH) || (decide (w = 0) || (decide (w = 2) || decide (w = 3)))) ++ [(nmO, 0)]
theorem due_first {w i m hd x : Int} {n t nm : List Nat} {ds1 ds2 ds3 fs1 fs2 : List Pr} (h1 : N19 n ds1) (h2 : T19 t ds2) (h3 : V19 (pOk t i) nmP i ds3) (h4 : V19 (nOk m) nmN m fs1) (h5 : V19 (hOk hd) nmH hd fs2) (d : Due w n t i m hd nm x) : ∃ r, due19 w (ds1 ++ ds2 ++ ds3) (fs1 ++ fs2) = (nm, x) :: r := by
  have hh : (due19 w (ds1 ++ ds2 ++ ds3) (fs1 ++ fs2)).head? = some (nm, x) := by
    have clear1 : (w < 5 → ∃ its, Good n its) → ds1.filter (fun p => !decide (p.1 = nmR) || decide (w < 5)) = [] := fun g => by
      rcases h1 with ⟨its, rfl, _⟩ | ⟨j, rfl, e⟩
      · rfl
      · have h5 : ¬ w < 5 := fun z => by
          obtain ⟨its, g⟩ := g z
          have := g.1
          rw [e] at this
          cases this
        simp [h5]
    have noT : tOk t → ds2 = [] := fun e => by
      rcases h2 with ⟨rfl, _⟩ | ⟨j, _, e'⟩
      · rfl
      · rw [show badAt t = none from e] at e'
        cases e'
    have noV : ∀ {ok : Prop} {nm : List Nat} {i : Int} {ds : List Pr}, V19 ok nm i ds → ok → ds = [] := fun h o => h.elim (fun z => z.1) fun z => absurd o z.2
    have isV : ∀ {ok : Prop} {nm : List Nat} {i : Int} {ds : List Pr}, V19 ok nm i ds → ¬ ok → ds = [(nm, i)] := fun h o => h.elim (fun z => absurd z.2 o) fun z => z.1
    unfold due19
    rw [List.filter_append, List.filter_append]
    cases d with
    | rcd h e =>
      rcases h1 with ⟨its, _, g, _⟩ | ⟨j', rfl, e'⟩
      · have := g.1
        rw [e] at this
        cases this
      · rw [e] at e'
        cases e'
        simp [h]
    | txt h e =>
      rw [clear1 h]
      rcases h2 with ⟨_, e'⟩ | ⟨j, rfl, e'⟩
      · rw [show badAt t = none from e'] at e
        cases e
      · rw [e] at e'
        cases e'
        simp
    | plc h e x =>
      rw [clear1 h, noT e, isV h3 x]
      simp
    | tms h e x o y =>
      rw [clear1 h, noT e, noV h3 x, isV h4 y]
      rcases o with rfl | ⟨o, z⟩
      · simp
      · rw [noV h5 z]
        rcases o with rfl | rfl <;> simp
    | hld h e x o y =>
      rw [clear1 h, noT e, noV h3 x, isV h5 y]
      by_cases h0 : w = 0
      · rw [noV h4 (o h0)]
        simp [h0]
      · by_cases h23 : w = 2 ∨ w = 3
        · rw [if_pos h23]
          simp
        · rw [if_neg h23]
          have h2' : ¬ w = 2 := fun z => h23 (.inl z)
          have h3' : ¬ w = 3 := fun z => h23 (.inr z)
          rcases h4 with ⟨rfl, _⟩ | ⟨rfl, _⟩ <;> simp [h0, h2', h3']
    | non h e x y o =>
      rw [clear1 h, noT e, noV h3 x, noV h5 y]
      by_cases h023 : w = 0 ∨ w = 2 ∨ w = 3
      · rw [noV h4 (o h023)]
        simp
      · have h0 : ¬ w = 0 := fun z => h023 (.inl z)
        have h2' : ¬ w = 2 := fun z => h023 (.inr (.inl z))
        have h3' : ¬ w = 3 := fun z => h023 (.inr (.inr z))
        rcases h4 with ⟨rfl, _⟩ | ⟨rfl, _⟩ <;> simp [h0, h2', h3']
  cases hl : due19 w (ds1 ++ ds2 ++ ds3) (fs1 ++ fs2) with
  | nil => rw [hl] at hh; cases hh
  | cons p r =>
    rw [hl] at hh
    have : p = (nm, x) := by simpa using hh
    exact ⟨r, by rw [this]⟩
theorem due_sg {w i m hd x : Int} {n t nm : List Nat} (d : Due w n t i m hd nm x) : ∀ c ∈ nm, c ∈ sgn := by
  cases d <;> decide
theorem lay2 {nm : List Nat} (x : Int) (h : ∀ c ∈ nm, c ∈ sgn) : PyData.canLayAll0 [.str (S nm), .int x] = true := by
  have sg : PyData.canLay0 (.str (S nm)) = true := strOk_sgn h
  show (PyData.canLay0 (.str (S nm)) && (PyData.canLay0 (.int x) && true)) = true
  rw [sg]; rfl
theorem sh2 {nm : List Nat} (x : Int) (h : ∀ c ∈ nm, c ∈ sgn) : SeqAt.shaped (.tuple [.str (S nm), .int x]) = true := by
  unfold SeqAt.shaped
  rw [Bool.and_eq_true]
  exact ⟨lay2 x h, rfl⟩
abbrev s_law : Stmt := top 61
theorem sc_law : FnScope ["_law_script", "_law_box_here", "_law_way", "_law_notation", "_law_text_here", "_law_place", "_law_number", "_law_hold", "_law_dues", "_law_faults", "_law_at", "_law_fault"] ["_law_script"] (defScope s_law) := ⟨rfl, rfl, rfl, by decide +kernel, rfl, by decide +kernel, by decide +kernel⟩
theorem ok_law (T : TX K mg) (c__law_box : KCal P w K mg base 1 "_law_box" (spBox K) []) (c__law_take : KCal P w K mg base 1 "_law_take" spTake []) (c__law_text : KCal P w K mg base 2 "_law_text" spText []) (c__law_told : KCal P w K mg base 29 "_law_told" (spLTold19 K) []) {f : Addr} {fd : FuncData} (F : FunD K "law" "law" (defArgs s_law) (defBody s_law) (defScope s_law) [] [] f fd) : FnOk P w K mg base (CX P w) 30 f fd ["_law_script"] (spLaw K) := by
  refine F.ok sc_law (fun vs H Q E h => ?_) (fun cdv A outer s H vs Q E hr h => ?_)
  · obtain ⟨a, ns, rfl, _⟩ := h
    rfl
  · obtain ⟨a, ns, rfl, hS, kq⟩ := h
    refine ⟨_, (pss_cons (ps_set (i := 1) sc_law.nd rfl (Or.inl rfl) (kc c__law_box hr (by decide) rfl (pa_cons (pv 0) pa_nil))) (pss_cons (ps_set (i := 2) sc_law.nd rfl (Or.inr rfl) (kc c__law_take hr (by decide) rfl (pa_cons (pv 1) (pa_cons pe_int pa_nil)))) (pss_cons (ps_set (i := 3) sc_law.nd rfl (Or.inl rfl) (pe_ix ix_list (pe_lst (pa_cons (pe_strS [40, 62, 41] (by decide +kernel)) (pa_cons (pe_strS [62, 120] (by decide +kernel)) (pa_cons (pe_strS [39, 97, 62] (by decide +kernel)) (pa_cons (pe_strS [] (by decide +kernel)) pa_nil))))) (kc c__law_take hr (by decide) rfl (pa_cons (pv 1) (pa_cons pe_int pa_nil))) (fun _ _ => rfl))) (pss_cons (ps_set (i := 4) sc_law.nd rfl (Or.inl rfl) (kc c__law_text hr (by decide) rfl (pa_cons (pv 1) (pa_cons (pe_strS [97, 98, 10] (by decide +kernel)) (pa_cons pe_int pa_nil))))) (pss_cons (ps_set (i := 5) sc_law.nd rfl (Or.inl rfl) (kc c__law_take hr (by decide) rfl (pa_cons (pv 1) (pa_cons (pe_op op_add (pe_callB call_lenS (by rfl) T.b_len PySem.boot_len (pa_cons (pv 4) pa_nil)) pe_int) pa_nil)))) (pss_cons (ps_set (i := 6) sc_law.nd rfl (Or.inl rfl) (kc c__law_take hr (by decide) rfl (pa_cons (pv 1) (pa_cons pe_int pa_nil)))) (pss_cons (ps_set (i := 7) sc_law.nd rfl (Or.inl rfl) (kc c__law_take hr (by decide) rfl (pa_cons (pv 1) (pa_cons pe_int pa_nil)))) (pss_cons (ps_set (i := 8) sc_law.nd rfl (Or.inl rfl) (pe_lst pa_nil)) (C8.pss_cut (ps_if (pt_cmpR op_eq (kc c__law_take hr (by decide) rfl (pa_cons (pv 1) (pa_cons pe_int pa_nil))) pe_int (nomark _)) (pss_cons (ps_set (i := 3) sc_law.nd rfl (Or.inl rfl) (pe_op op_addS (pv 3) (pe_strS [41] (by decide +kernel)))) (pss_one (ps_expr (pe_bm PySem.F.plainAttrs_list PySem.F.slot_list_append PySem.F.type_list_append mt_append (pv 8) (pa_cons (pe_tup (pa_cons (pe_strS [114, 101, 99, 111, 114, 100, 105, 110, 103] (by decide +kernel)) (pa_cons (pe_op op_sub (pe_callB call_lenS (by rfl) T.b_len PySem.boot_len (pa_cons (pv 3) pa_nil)) pe_int) pa_nil))) pa_nil))))) pss_nil) (C8.pss_cut (ps_if (pt_cmpR op_eq (kc c__law_take hr (by decide) rfl (pa_cons (pv 1) (pa_cons pe_int pa_nil))) pe_int (nomark _)) (pss_cons (ps_set (i := 10) sc_law.nd rfl (Or.inl rfl) (kc c__law_take hr (by decide) rfl (pa_cons (pv 1) (pa_cons (pe_op op_add (pe_callB call_lenS (by rfl) T.b_len PySem.boot_len (pa_cons (pv 4) pa_nil)) pe_int) pa_nil)))) (pss_cons (ps_set (i := 4) sc_law.nd rfl (Or.inl rfl) (pe_op op_addS (pe_op op_addS (pe_slice sl_S (pv 4) po_none (po_some (pv 10))) (pe_strS [9] (by decide +kernel))) (pe_slice sl_S (pv 4) (po_some (pv 10)) po_none))) (pss_one (ps_expr (pe_bm PySem.F.plainAttrs_list PySem.F.slot_list_append PySem.F.type_list_append mt_append (pv 8) (pa_cons (pe_tup (pa_cons (pe_strS [116, 101, 120, 116] (by decide +kernel)) (pa_cons (pv 10) pa_nil))) pa_nil)))))) pss_nil) (C8.pss_cut (ps_if (pt_cmpR op_eq (kc c__law_take hr (by decide) rfl (pa_cons (pv 1) (pa_cons pe_int pa_nil))) pe_int (nomark _)) (pss_cons (ps_set (i := 5) sc_law.nd rfl (Or.inl rfl) (pe_ix ix_list (pe_lst (pa_cons (pe_op op_sub (pe_un un_neg pe_int) (kc c__law_take hr (by decide) rfl (pa_cons (pv 1) (pa_cons (pe_op op_pow pe_int pe_int) pa_nil)))) (pa_cons (pe_op op_add (pe_op op_add (pe_callB call_lenS (by rfl) T.b_len PySem.boot_len (pa_cons (pv 4) pa_nil)) pe_int) (kc c__law_take hr (by decide) rfl (pa_cons (pv 1) (pa_cons (pe_op op_pow pe_int pe_int) pa_nil)))) pa_nil))) (kc c__law_take hr (by decide) rfl (pa_cons (pv 1) (pa_cons pe_int pa_nil))) (fun _ _ => rfl))) (pss_one (ps_expr (pe_bm PySem.F.plainAttrs_list PySem.F.slot_list_append PySem.F.type_list_append mt_append (pv 8) (pa_cons (pe_tup (pa_cons (pe_strS [112, 108, 97, 99, 101] (by decide +kernel)) (pa_cons (pv 5) pa_nil))) pa_nil))))) pss_nil) (pss_cons (ps_set (i := 9) sc_law.nd rfl (Or.inl rfl) (pe_lst pa_nil)) (C8.pss_cut (ps_if (pt_cmpR op_eq (kc c__law_take hr (by decide) rfl (pa_cons (pv 1) (pa_cons pe_int pa_nil))) pe_int (nomark _)) (pss_cons (ps_set (i := 6) sc_law.nd rfl (Or.inl rfl) (pe_ix ix_list (pe_lst (pa_cons (pe_op op_sub (pe_un un_neg pe_int) (kc c__law_take hr (by decide) rfl (pa_cons (pv 1) (pa_cons (pe_op op_pow pe_int pe_int) pa_nil)))) (pa_cons (pe_op op_add pe_int (kc c__law_take hr (by decide) rfl (pa_cons (pv 1) (pa_cons (pe_op op_pow pe_int pe_int) pa_nil)))) pa_nil))) (kc c__law_take hr (by decide) rfl (pa_cons (pv 1) (pa_cons pe_int pa_nil))) (fun _ _ => rfl))) (pss_one (ps_expr (pe_bm PySem.F.plainAttrs_list PySem.F.slot_list_append PySem.F.type_list_append mt_append (pv 9) (pa_cons (pe_tup (pa_cons (pe_strS [116, 105, 109, 101, 115] (by decide +kernel)) (pa_cons (pv 6) pa_nil))) pa_nil))))) pss_nil) (C8.pss_cut (ps_if (pt_cmpR op_eq (kc c__law_take hr (by decide) rfl (pa_cons (pv 1) (pa_cons pe_int pa_nil))) pe_int (nomark _)) (pss_cons (ps_set (i := 7) sc_law.nd rfl (Or.inl rfl) (pe_ix ix_list (pe_lst (pa_cons (pe_op op_sub (pe_un un_neg pe_int) (kc c__law_take hr (by decide) rfl (pa_cons (pv 1) (pa_cons (pe_op op_pow pe_int pe_int) pa_nil)))) (pa_cons (pe_op op_add pe_int (kc c__law_take hr (by decide) rfl (pa_cons (pv 1) (pa_cons (pe_op op_pow pe_int pe_int) pa_nil)))) pa_nil))) (kc c__law_take hr (by decide) rfl (pa_cons (pv 1) (pa_cons pe_int pa_nil))) (fun _ _ => rfl))) (pss_one (ps_expr (pe_bm PySem.F.plainAttrs_list PySem.F.slot_list_append PySem.F.type_list_append mt_append (pv 9) (pa_cons (pe_tup (pa_cons (pe_strS [104, 111, 108, 100] (by decide +kernel)) (pa_cons (pv 7) pa_nil))) pa_nil))))) pss_nil) (C8.pss_cut (ps_if (pt_cut (PW.pt (pw_or (pt_cmpR op_eq (pv 2) pe_int (nomark _)) (pw_or1 (pt_cmpR op_eq (pv 2) pe_int (nomark _)))))) (pss_one (ps_set (i := 9) sc_law.nd rfl (Or.inl rfl) (pe_revL (pv 9)))) pss_nil) (pss_cons (ps_setLc (i := 9) (own := [("_law_fault", 11)]) rfl sc_law.nd rfl rfl (sw_true rfl rfl rfl (by decide +kernel)) (pi_list (pv 9)) (blkOk_by (own := [("_law_fault", 11)]) (N := ["_law_script", "_law_box_here", "_law_way", "_law_notation", "_law_text_here", "_law_place", "_law_number", "_law_hold", "_law_dues", "_law_faults", "_law_at", "_law_fault"]) (sc := defScope s_law) (by decide +kernel)) (fun _ _ _ _ _ => (pg_name (i := 11) sc_law.nd rfl (Or.inl rfl))) (fun _ _ _ _ _ => (pts_one (PW.pt (pw_or (pt_cmpR op_eqS (pe_ix (ix_tupK (K := K) rfl) (pv 11) pe_int (fun _ _ => rfl)) (pe_strS [104, 111, 108, 100] (by decide +kernel)) (nomark _)) (pw_or1 (pt_cmpR (op_in_seqK (K := K) rfl) (pv 2) (pe_lst (pa_cons pe_int (pa_cons pe_int (pa_cons pe_int pa_nil)))) rfl)))))) (fun _ _ _ _ _ => (pv 11))) (pss_cons (ps_set (i := 8) sc_law.nd rfl (Or.inl rfl) (pe_op op_cat (pe_op op_cat (pe_lc (own := [("_law_fault", 11)]) rfl sc_law.nd (pi_list (pv 8)) (blkOk_by (own := [("_law_fault", 11)]) (N := ["_law_script", "_law_box_here", "_law_way", "_law_notation", "_law_text_here", "_law_place", "_law_number", "_law_hold", "_law_dues", "_law_faults", "_law_at", "_law_fault"]) (sc := defScope s_law) (by decide +kernel)) (fun _ _ _ _ _ => (pg_name (i := 11) sc_law.nd rfl (Or.inl rfl))) (fun _ _ _ _ _ => (pts_one (PW.pt (pw_or (pt_cmpR op_neS (pe_ix (ix_tupK (K := K) rfl) (pv 11) pe_int (fun _ _ => rfl)) (pe_strS [114, 101, 99, 111, 114, 100, 105, 110, 103] (by decide +kernel)) (nomark _)) (pw_or1 (pt_cmpR op_lt (pv 2) pe_int (nomark _))))))) (fun _ _ _ _ _ => (pv 11))) (pv 9)) (pe_lst (pa_cons (pe_tup (pa_cons (pe_strS [110, 111, 110, 101] (by decide +kernel)) (pa_cons pe_int pa_nil))) pa_nil)))) (pss_one (ps_ret (pe_cmpR (op_eqD hr.units) (kc c__law_told hr (by decide) rfl (pa_cons (pv 2) (pa_cons (pv 3) (pa_cons (pv 4) (pa_cons (pv 5) (pa_cons (pv 6) (pa_cons (pv 7) pa_nil))))))) (pe_ix ix_list (pv 8) pe_int (fun _ _ => rfl)) (nomark _))))))))))))))))))))), ?_⟩
    and_intros
    rintro H1 b l s1 hb hl B1
    refine ⟨_, rfl, b, l, 6, rfl, B1, by decide, by decide, fun H2 w k2 B2 w0 w1 => ?_⟩
    refine ⟨(show 4 ≤ sizeLine by decide), fun D0 hD0 => ?_⟩
    have nD0 : D0 ≠ b ∧ D0 ≠ l := by
      obtain ⟨_, _, _, _, h1, h2, _⟩ := id B2
      exact ⟨(ne_of_none h1 hD0).symm, (ne_of_none h2 hD0).symm⟩
    refine ⟨_, rfl, b, l, 4, rfl, B2.new hD0, by decide, by decide, fun H3 r k3 B3 r0 r1 => ?_⟩
    have hD3 := k3 D0 _ (by simp; exact nD0) upd_same
    obtain ⟨n0, hn0, hat⟩ : ∃ n0, Rc19 n0 ∧ [V.str (S [40, 62, 41]), V.str (S [62, 120]), V.str (S [39, 97, 62]), V.str (S [])][r.toNat]? = some (.str (S n0)) := by
      obtain rfl | rfl | rfl | rfl : r = 0 ∨ r = 1 ∨ r = 2 ∨ r = 3 := by omega
      · exact ⟨_, .a, rfl⟩
      · exact ⟨_, .b, rfl⟩
      · exact ⟨_, .c, rfl⟩
      · exact ⟨_, .d, rfl⟩
    refine ⟨D0, _, r, _, rfl, rfl, SqL.of hD3, atI_pos r0 hat, ?_⟩
    refine ⟨_, rfl, b, l, [97, 98, 10], 6, rfl, B3, by decide, by decide, by decide, by decide, fun H4 t k4 B4 tl ts => ?_⟩
    have tsg : ∀ x ∈ t, x ∈ sgn := fun x hx => (show ∀ x ∈ [97, 98, 10], x ∈ sgn by decide) x (ts x hx)
    refine ⟨_, rfl, _, rfl, _, rfl, by omega, _, _, rfl, rfl, b, l, _, rfl, B4, by omega, by omega, fun H5 i0 k5 B5 i00 i01 => ?_⟩
    refine ⟨_, rfl, b, l, 5, rfl, B5, by decide, by decide, fun H6 m0 k6 B6 m00 m01 => ?_⟩
    refine ⟨_, rfl, b, l, 5, rfl, B6, by decide, by decide, fun H7 h0 k7 B7 h00 h01 => ?_⟩
    refine ⟨by decide, fun D hD => ?_⟩
    have L8 := L19.nil B7 hD
    generalize upd H7 D (.lst []) = H8 at L8
    clear k2 k3 k4 k5 k6 k7 B2 B3 B4 B5 B6 B7 hD hD3 s1
    refine ⟨fun σ' H' => ∃ (n : List Nat) (ds : List Pr), σ' = [some (.ref a), some (.ref b), some (.int w), some (.str (S n)), some (.str (S t)), some (.int i0), some (.int m0), some (.int h0), some (.ref D), none, none, none] ∧ L19 H' b l D ds ∧ N19 n ds ∧ n.length ≤ 4, ?_, ?_⟩
    · refine ⟨_, rfl, b, l, 3, rfl, L8.B, by decide, by decide, fun H9 r9 k9 B9 r90 r91 => ?_⟩
      have L9 := L8.take k9 B9
      refine ⟨rfl, _, rfl, if2 (fun _ => ?_) (fun _ => ?_)⟩
      · have hl0 := hn0.len
        refine ⟨_, rfl, _, _, rfl, rfl, by simp; omega, ?_⟩
        obtain ⟨xs, hD9, rs9⟩ := id L9.ex
        refine ⟨_, rfl, tyL hD9, _, rfl, _, rfl, by simp; omega, _, _, rfl, rfl, (show 2 ≤ sizeLine by decide), fun rr hrr => ?_⟩
        obtain ⟨xs', hD', hxl, L10⟩ := L9.app nmR ((((n0 ++ [41]).length : Nat) : Int) - 1) hrr
        refine ⟨D, xs', .ref rr, rfl, rfl, hD', ltSz (by rw [hxl]; decide), ?_⟩
        have e : (((n0 ++ [41]).length : Nat) : Int) - 1 = (n0.length : Nat) := by simp
        exact ⟨n0 ++ [41], _, rfl, L10, .inr ⟨n0.length, by rw [e]; rfl, hn0.bad⟩, by simp; omega⟩
      · obtain ⟨its, g, o⟩ := hn0.good
        exact ⟨n0, [], rfl, L9, .inl ⟨its, rfl, g, o⟩, by have := hn0.len; omega⟩
    rintro σ' H9 ⟨n, ds1, rfl, L9, hN, hnl⟩
    have d1 : ds1.length ≤ 1 := by rcases hN with ⟨_, e, _⟩ | ⟨_, e, _⟩ <;> rw [e] <;> simp
    refine ⟨fun σ' H' => ∃ (t2 : List Nat) (ds2 : List Pr) (u10 : Option V), σ' = [some (.ref a), some (.ref b), some (.int w), some (.str (S n)), some (.str (S t2)), some (.int i0), some (.int m0), some (.int h0), some (.ref D), none, u10, none] ∧ L19 H' b l D (ds1 ++ ds2) ∧ T19 t2 ds2 ∧ t2.length ≤ 7 ∧ t.length ≤ t2.length, ?_, ?_⟩
    · refine ⟨_, rfl, b, l, 3, rfl, L9.B, by decide, by decide, fun H10 r9 k9 B9 r90 r91 => ?_⟩
      have L10 := L9.take k9 B9
      refine ⟨rfl, _, rfl, if2 (fun _ => ?_) (fun _ => ⟨t, [], none, rfl, by rw [List.append_nil]; exact L10, .inl ⟨rfl, bad_sg tsg⟩, by omega, by omega⟩)⟩
      refine ⟨_, rfl, _, rfl, _, rfl, by omega, _, _, rfl, rfl, b, l, _, rfl, L10.B, by omega, by omega, fun H11 at' k11 B11 a0 a1 => ?_⟩
      have L11 := L10.take k11 B11
      obtain ⟨at', rfl⟩ := Int.eq_ofNat_of_zero_le a0
      refine ⟨_, rfl, _, rfl, _, rfl, _, rfl, by omega, trivial, (by show (0 : Int) ≤ _; omega), ?_⟩
      rw [cutL_to]
      refine ⟨_, _, rfl, rfl, by simp; omega, _, rfl, _, rfl, _, rfl, _, rfl, by omega, (by show (0 : Int) ≤ _; omega), trivial, ?_⟩
      rw [cutL_from]
      have hl2 : (t.take at' ++ [9] ++ t.drop at').length = t.length + 1 := by rw [List.length_append, List.length_append, List.length_take, List.length_drop]; simp only [List.length_cons, List.length_nil]; omega
      have hl2' := hl2
      rw [List.length_append] at hl2'
      refine ⟨_, _, rfl, rfl, by omega, ?_⟩
      obtain ⟨xs, hD11, _⟩ := id L11.ex
      refine ⟨_, rfl, tyL hD11, _, rfl, (show 2 ≤ sizeLine by decide), fun rr hrr => ?_⟩
      obtain ⟨xs', hD', hxl, L12⟩ := L11.app nmT ((at' : Nat) : Int) hrr
      refine ⟨D, xs', .ref rr, rfl, rfl, hD', ltSz (by omega), ?_⟩
      have hb := bad_tab (u := t.take at') (v := t.drop at') fun x hx => tsg x (List.mem_of_mem_take hx)
      rw [List.length_take, Nat.min_eq_left (show at' ≤ t.length by omega)] at hb
      exact ⟨_, [(nmT, ((at' : Nat) : Int))], _, rfl, L12, .inr ⟨at', rfl, hb⟩, by omega, by omega⟩
    rintro σ' H10 ⟨t2, ds2, u10, rfl, L10, hT, htl, htt⟩
    have d2 : ds2.length ≤ 1 := by rcases hT with ⟨e, _⟩ | ⟨_, e, _⟩ <;> rw [e] <;> simp
    refine ⟨fun σ' H' => ∃ (i : Int) (ds3 : List Pr), σ' = [some (.ref a), some (.ref b), some (.int w), some (.str (S n)), some (.str (S t2)), some (.int i), some (.int m0), some (.int h0), some (.ref D), none, u10, none] ∧ L19 H' b l D (ds1 ++ ds2 ++ ds3) ∧ V19 (pOk t2 i) nmP i ds3, ?_, ?_⟩
    · refine ⟨_, rfl, b, l, 3, rfl, L10.B, by decide, by decide, fun H11 r9 k9 B9 r90 r91 => ?_⟩
      have L11 := L10.take k9 B9
      refine ⟨rfl, _, rfl, if2 (fun _ => ?_) (fun _ => ⟨i0, [], rfl, by rw [List.append_nil]; exact L11, .inl ⟨rfl, by omega, by omega⟩⟩)⟩
      refine ⟨1, rfl, _, rfl, 10, 20, rfl, rfl, cp20, b, l, _, rfl, L11.B, by decide, by decide, fun Ha ra ka Ba ra0 ra1 => ?_⟩
      have La := L11.take ka Ba
      refine ⟨_, _, rfl, rfl, _, rfl, _, rfl, by omega, _, _, rfl, rfl, _, rfl, 10, 20, rfl, rfl, cp20, b, l, _, rfl, Ba, by decide, by decide, fun Hb rb kb Bb rb0 rb1 => ?_⟩
      have Lb := La.take kb Bb
      refine ⟨_, _, rfl, rfl, (show 2 ≤ sizeLine by decide), fun Dl hDl => ?_⟩
      have nDl : Dl ≠ b ∧ Dl ≠ l := by
        obtain ⟨_, _, _, _, h1, h2, _⟩ := id Bb
        exact ⟨(ne_of_none h1 hDl).symm, (ne_of_none h2 hDl).symm⟩
      have Lc := Lb.new (o := .lst [.int (-1 - ra), .int (((t2.length : Nat) : Int) + 1 + rb)]) hDl
      refine ⟨_, rfl, b, l, 2, rfl, Lc.B, by decide, by decide, fun Hd rd kd Bd rd0 rd1 => ?_⟩
      have Ld := Lc.take kd Bd
      have hDd := kd Dl _ (by simp; exact nDl) upd_same
      obtain ⟨i, hi, hat⟩ : ∃ i : Int, ¬ pOk t2 i ∧ [V.int (-1 - ra), V.int (((t2.length : Nat) : Int) + 1 + rb)][rd.toNat]? = some (.int i) := by
        obtain rfl | rfl : rd = 0 ∨ rd = 1 := by omega
        · exact ⟨-1 - ra, by omega, rfl⟩
        · exact ⟨((t2.length : Nat) : Int) + 1 + rb, by omega, rfl⟩
      refine ⟨Dl, _, rd, _, rfl, rfl, SqL.of hDd, atI_pos rd0 hat, ?_⟩
      obtain ⟨xs, hDd', _⟩ := id Ld.ex
      refine ⟨_, rfl, tyL hDd', _, rfl, (show 2 ≤ sizeLine by decide), fun rr hrr => ?_⟩
      obtain ⟨xs', hD', hxl, L12⟩ := Ld.app nmP i hrr
      refine ⟨D, xs', .ref rr, rfl, rfl, hD', ltSz (by rw [hxl, List.length_append]; omega), ?_⟩
      exact ⟨i, [(nmP, i)], rfl, L12, .inr ⟨rfl, hi⟩⟩
    rintro σ' H11 ⟨i, ds3, rfl, L11, hP⟩
    have d3 : ds3.length ≤ 1 := by rcases hP with ⟨e, _⟩ | ⟨e, _⟩ <;> rw [e] <;> simp
    refine ⟨by decide, fun F hF => ?_⟩
    have nDF : D ≠ F := by
      obtain ⟨xs, e, _⟩ := L11.ex
      exact ne_of_none e hF
    have LF := L19.nil L11.B hF
    have L12 := L11.new (o := .lst []) hF
    generalize upd H11 F (.lst []) = H12 at LF L12
    generalize hds : ds1 ++ ds2 ++ ds3 = ds at L12
    refine ⟨fun σ' H' => ∃ (m : Int) (fs1 : List Pr), σ' = [some (.ref a), some (.ref b), some (.int w), some (.str (S n)), some (.str (S t2)), some (.int i), some (.int m), some (.int h0), some (.ref D), some (.ref F), u10, none] ∧ L19 H' b l D ds ∧ L19 H' b l F fs1 ∧ V19 (nOk m) nmN m fs1 ∧ (nOk m → m ≤ 4), ?_, ?_⟩
    · refine ⟨_, rfl, b, l, 3, rfl, L12.B, by decide, by decide, fun H13 r9 k9 B9 r90 r91 => ?_⟩
      have L13 := L12.take k9 B9
      have F13 := LF.take k9 B9
      refine ⟨rfl, _, rfl, if2 (fun _ => ?_) (fun _ => ⟨m0, [], rfl, L13, F13, .inl ⟨rfl, by omega, by omega⟩, fun _ => by omega⟩)⟩
      refine ⟨1, rfl, _, rfl, 10, 20, rfl, rfl, cp20, b, l, _, rfl, L13.B, by decide, by decide, fun Ha ra ka Ba ra0 ra1 => ?_⟩
      refine ⟨_, _, rfl, rfl, _, rfl, 10, 20, rfl, rfl, cp20, b, l, _, rfl, Ba, by decide, by decide, fun Hb rb kb Bb rb0 rb1 => ?_⟩
      have Lb := (L13.take ka Ba).take kb Bb
      have Fb := (F13.take ka Ba).take kb Bb
      refine ⟨_, _, rfl, rfl, (show 2 ≤ sizeLine by decide), fun Dl hDl => ?_⟩
      have nDl : Dl ≠ b ∧ Dl ≠ l := by
        obtain ⟨_, _, _, _, h1, h2, _⟩ := id Bb
        exact ⟨(ne_of_none h1 hDl).symm, (ne_of_none h2 hDl).symm⟩
      have Lc := Lb.new (o := .lst [.int (-1 - ra), .int (1001 + rb)]) hDl
      have Fc := Fb.new (o := .lst [.int (-1 - ra), .int (1001 + rb)]) hDl
      refine ⟨_, rfl, b, l, 2, rfl, Lc.B, by decide, by decide, fun Hd rd kd Bd rd0 rd1 => ?_⟩
      have Ld := Lc.take kd Bd
      have Fd := Fc.take kd Bd
      have hDd := kd Dl _ (by simp; exact nDl) upd_same
      obtain ⟨m, hm, hat⟩ : ∃ m : Int, ¬ nOk m ∧ [V.int (-1 - ra), V.int (1001 + rb)][rd.toNat]? = some (.int m) := by
        obtain rfl | rfl : rd = 0 ∨ rd = 1 := by omega
        · exact ⟨-1 - ra, by omega, rfl⟩
        · exact ⟨1001 + rb, by omega, rfl⟩
      refine ⟨Dl, _, rd, _, rfl, rfl, SqL.of hDd, atI_pos rd0 hat, ?_⟩
      obtain ⟨xs, hDd', _⟩ := id Fd.ex
      refine ⟨_, rfl, tyL hDd', _, rfl, (show 2 ≤ sizeLine by decide), fun rr hrr => ?_⟩
      obtain ⟨xs', hD', hxl, L14⟩ := Fd.app nmN m hrr
      refine ⟨F, xs', .ref rr, rfl, rfl, hD', ltSz (by rw [hxl]; decide), ?_⟩
      exact ⟨m, [(nmN, m)], rfl, (Ld.new hrr).other (Fd.new hrr) nDF, L14, .inr ⟨rfl, hm⟩, fun z => absurd z hm⟩
    rintro σ' H13 ⟨m, fs1, rfl, L13, F13, hM, hm4⟩
    have f1 : fs1.length ≤ 1 := by rcases hM with ⟨e, _⟩ | ⟨e, _⟩ <;> rw [e] <;> simp
    refine ⟨fun σ' H' => ∃ (hd : Int) (fs2 : List Pr), σ' = [some (.ref a), some (.ref b), some (.int w), some (.str (S n)), some (.str (S t2)), some (.int i), some (.int m), some (.int hd), some (.ref D), some (.ref F), u10, none] ∧ L19 H' b l D ds ∧ L19 H' b l F (fs1 ++ fs2) ∧ V19 (hOk hd) nmH hd fs2, ?_, ?_⟩
    · refine ⟨_, rfl, b, l, 3, rfl, L13.B, by decide, by decide, fun H14 r9 k9 B9 r90 r91 => ?_⟩
      have L14 := L13.take k9 B9
      have F14 := F13.take k9 B9
      refine ⟨rfl, _, rfl, if2 (fun _ => ?_) (fun _ => ⟨h0, [], rfl, L14, by rw [List.append_nil]; exact F14, .inl ⟨rfl, by omega, by omega⟩⟩)⟩
      refine ⟨1, rfl, _, rfl, 10, 20, rfl, rfl, cp20, b, l, _, rfl, L14.B, by decide, by decide, fun Ha ra ka Ba ra0 ra1 => ?_⟩
      refine ⟨_, _, rfl, rfl, _, rfl, 10, 20, rfl, rfl, cp20, b, l, _, rfl, Ba, by decide, by decide, fun Hb rb kb Bb rb0 rb1 => ?_⟩
      have Lb := (L14.take ka Ba).take kb Bb
      have Fb := (F14.take ka Ba).take kb Bb
      refine ⟨_, _, rfl, rfl, (show 2 ≤ sizeLine by decide), fun Dl hDl => ?_⟩
      have nDl : Dl ≠ b ∧ Dl ≠ l := by
        obtain ⟨_, _, _, _, h1, h2, _⟩ := id Bb
        exact ⟨(ne_of_none h1 hDl).symm, (ne_of_none h2 hDl).symm⟩
      have Lc := Lb.new (o := .lst [.int (-1 - ra), .int (5 + rb)]) hDl
      have Fc := Fb.new (o := .lst [.int (-1 - ra), .int (5 + rb)]) hDl
      refine ⟨_, rfl, b, l, 2, rfl, Lc.B, by decide, by decide, fun Hd rd kd Bd rd0 rd1 => ?_⟩
      have Ld := Lc.take kd Bd
      have Fd := Fc.take kd Bd
      have hDd := kd Dl _ (by simp; exact nDl) upd_same
      obtain ⟨hd, hh, hat⟩ : ∃ m : Int, ¬ hOk m ∧ [V.int (-1 - ra), V.int (5 + rb)][rd.toNat]? = some (.int m) := by
        obtain rfl | rfl : rd = 0 ∨ rd = 1 := by omega
        · exact ⟨-1 - ra, by omega, rfl⟩
        · exact ⟨5 + rb, by omega, rfl⟩
      refine ⟨Dl, _, rd, _, rfl, rfl, SqL.of hDd, atI_pos rd0 hat, ?_⟩
      obtain ⟨xs, hDd', _⟩ := id Fd.ex
      refine ⟨_, rfl, tyL hDd', _, rfl, (show 2 ≤ sizeLine by decide), fun rr hrr => ?_⟩
      obtain ⟨xs', hD', hxl, L15⟩ := Fd.app nmH hd hrr
      refine ⟨F, xs', .ref rr, rfl, rfl, hD', ltSz (by omega), ?_⟩
      exact ⟨hd, [(nmH, hd)], rfl, (Ld.new hrr).other (Fd.new hrr) nDF, L15, .inr ⟨rfl, hh⟩⟩
    rintro σ' H14 ⟨hd, fs2, rfl, L14, F14, hHd⟩
    have f2 : fs2.length ≤ 1 := by rcases hHd with ⟨e, _⟩ | ⟨e, _⟩ <;> rw [e] <;> simp
    have hdl : ds.length ≤ 3 := by rw [← hds, List.length_append, List.length_append]; omega
    refine ⟨fun σ' H' => ∃ (G : Addr) (zs : List V), σ' = [some (.ref a), some (.ref b), some (.int w), some (.str (S n)), some (.str (S t2)), some (.int i), some (.int m), some (.int hd), some (.ref D), some (.ref G), u10, none] ∧ L19 H' b l D ds ∧ H' G = some (.lst zs) ∧ Prs H' zs (if w = 2 ∨ w = 3 then (fs1 ++ fs2).reverse else fs1 ++ fs2), ?_, ?_⟩
    · obtain ⟨zs, hF, rF⟩ := id F14.ex
      refine ⟨fun bb H' => H' = H14 ∧ bb = decide (w = 2 ∨ w = 3), ?_, ?_⟩
      · refine ⟨_, rfl, rfl, _, rfl, ?_⟩
        rw [dI]
        refine if2 (fun q => ⟨rfl, (decide_eq_true (.inl (of_decide_eq_true q))).symm⟩) (fun q => ?_)
        refine ⟨_, rfl, rfl, _, rfl, rfl, ?_⟩
        rw [dI, decide_eq_decide]
        have := of_decide_eq_false q
        omega
      rintro bb H' ⟨rfl, rfl⟩
      refine if2 (fun q => ?_) (fun q => ?_)
      · have q := of_decide_eq_true q
        refine ⟨_, rfl, F, zs, rfl, SqL.of hF, fun G hG => ?_⟩
        exact ⟨G, _, rfl, L14.new hG, upd_same, by rw [if_pos q]; exact rF.rev.keep (Tk.nw hG Tk.refl)⟩
      · have q := of_decide_eq_false q
        exact ⟨F, zs, rfl, L14, hF, by rw [if_neg q]; exact rF⟩
    rintro σ' H15 ⟨G, zs, rfl, L15, hG, rG⟩
    generalize hgs : (if w = 2 ∨ w = 3 then (fs1 ++ fs2).reverse else fs1 ++ fs2) = gs at rG
    have hgl : gs.length ≤ 2 := by
      rw [← hgs]
      split
      · rw [List.length_reverse, List.length_append]; omega
      · rw [List.length_append]; omega
    refine ⟨_, rfl, G, rfl, ⟨_, SqL.of hG⟩, fun D2 hD2 => ?_⟩
    refine lcPr (p := fun p => decide (p.1 = nmH) || (decide (w = 0) || (decide (w = 2) || decide (w = 3)))) (by omega) hD2 hG rG ?_ (fun v => rfl) (fun v => rfl) ?_
    · rintro q r H2 R s2 hr k
      refine ⟨_, rfl, r, _, 0, _, rfl, rfl, SqT.of hr, rfl, _, _, rfl, rfl, _, rfl, ?_⟩
      refine if2 (fun c => ?_) (fun c => ?_)
      · have c : decide (q.1 = nmH) = true := c
        have := k H2 (Same.refl _)
        rw [c, Bool.true_or] at this
        exact this
      · have c : decide (q.1 = nmH) = false := c
        refine ⟨_, rfl, (show 3 ≤ sizeLine by decide), fun z hz => ⟨z, _, rfl, .inl (SqL.of upd_same), rfl, rfl, _, rfl, ?_⟩⟩
        have := k _ (sNew (o := .lst [.int 0, .int 2, .int 3]) (Same.refl H2) hz)
        rw [c, Bool.false_or] at this
        rw [← in023 w] at this
        exact this
    rintro H16 zs2 s16 hD16 r16
    have L16 : L19 H16 b l D ds := by
      obtain ⟨xs, e, r⟩ := L15.ex
      exact ⟨L15.B.same s16, L15.nb, L15.nl, xs, s16 _ _ e, r.keep (Tk.same s16)⟩
    obtain ⟨xs16, hD, rD⟩ := id L16.ex
    refine ⟨_, rfl, D, rfl, ⟨_, SqL.of hD⟩, fun D3 hD3 => ?_⟩
    refine lcPr (p := fun p => !decide (p.1 = nmR) || decide (w < 5)) (by omega) hD3 hD rD ?_ (fun v => rfl) (fun v => rfl) ?_
    · rintro q r H2 R s2 hr k
      refine ⟨_, rfl, r, _, 0, _, rfl, rfl, SqT.of hr, rfl, _, _, rfl, rfl, _, rfl, ?_⟩
      refine if2 (fun c => ?_) (fun c => ?_)
      · have c : (!decide (q.1 = nmR)) = true := c
        have := k H2 (Same.refl _)
        rw [c, Bool.true_or] at this
        exact this
      · have c : (!decide (q.1 = nmR)) = false := c
        refine ⟨_, rfl, _, _, rfl, rfl, _, rfl, ?_⟩
        have := k H2 (Same.refl _)
        rw [c, Bool.false_or] at this
        exact this
    rintro H17 zs3 s17 hD17 r17
    have hg17 := s17 _ _ hD16
    have rg17 := r16.keep (Tk.same s17)
    have l3 : zs3.length ≤ 3 := by
      rw [Paired.length r17]
      exact Nat.le_trans (List.length_filter_le _ _) hdl
    have l2 : zs2.length ≤ 2 := by
      rw [Paired.length r16]
      exact Nat.le_trans (List.length_filter_le _ _) hgl
    refine ⟨_, rfl, D3, D2, zs3, zs2, rfl, rfl, hD17, hg17, leSz (by omega), fun D4 hD4 => ?_⟩
    have s18 := sNew (o := .lst (zs3 ++ zs2)) (Same.refl H17) hD4
    have r18 := (r17.apps rg17).keep (Tk.same s18)
    refine ⟨(show 2 ≤ sizeLine by decide), fun r0 hr0 => ⟨(show 1 ≤ sizeLine by decide), fun Z hZ => ?_⟩⟩
    have s19 := sNew (o := .tup [.str (S nmO), .int 0]) (Same.refl _) hr0
    have s20 := sNew (o := .lst [.ref r0]) (Same.refl _) hZ
    have s1920 := s19.trans s20
    have h4 := s1920 _ _ (upd_same (H := H17) (a := D4) (o := .lst (zs3 ++ zs2)))
    have hr20 := s20 _ _ (upd_same (H := upd H17 D4 (.lst (zs3 ++ zs2))) (a := r0) (o := .tup [.str (S nmO), .int 0]))
    have r20 := (r18.keep (Tk.same s1920)).apps (.cons ⟨r0, rfl, hr20⟩ .nil : Prs _ [.ref r0] [((nmO, 0) : Pr)])
    refine ⟨D4, Z, zs3 ++ zs2, [.ref r0], rfl, rfl, h4, upd_same, leSz (by simp; omega), fun D5 hD5 => ?_⟩
    have s21 := sNew (o := .lst (zs3 ++ zs2 ++ [.ref r0])) (Same.refl _) hD5
    have r21 := r20.keep (Tk.same s21)
    have h5 := upd_same (H := upd (upd (upd H17 D4 (.lst (zs3 ++ zs2))) r0 (.tup [.str (S nmO), .int 0])) Z (.lst [.ref r0])) (a := D5) (o := .lst (zs3 ++ zs2 ++ [.ref r0]))
    generalize upd (upd (upd (upd H17 D4 (.lst (zs3 ++ zs2))) r0 (.tup [.str (S nmO), .int 0])) Z (.lst [.ref r0])) D5 (.lst (zs3 ++ zs2 ++ [.ref r0])) = H21 at r21 h5
    have kn : Know n t2 i hd m := by
      rcases hN with ⟨its, _, g, o⟩ | ⟨j, _, e⟩
      · exact o.know g (by omega) hm4
      · exact ⟨fun its g => (by have := g.1; rw [e] at this; cases this), fun its g => (by have := g.1; rw [e] at this; cases this), fun its g => (by have := g.1; rw [e] at this; cases this)⟩
    have few : ∀ its, read false n = .inr its → (keysL its).length ≤ 60 := by
      rcases hN with ⟨its, _, g, o⟩ | ⟨j, _, e⟩
      · intro its' e'
        have := g.1
        rw [e'] at this
        cases this
        exact g.2.1
      · intro its' e'
        rw [e] at e'
        cases e'
    refine ⟨_, rfl, _, rfl, _, rfl, _, rfl, _, rfl, _, rfl, w, n, t2, i, m, hd, rfl, w0, by omega, by omega, few, kn, fun nm x due H' r s' hr' => ?_⟩
    obtain ⟨rest, er⟩ := due_first hN hT hP hM hHd due
    have r22 := r21.keep (Tk.same s')
    rw [← hgs, ← hds] at r22
    change Prs H' _ (due19 w (ds1 ++ ds2 ++ ds3) (fs1 ++ fs2)) at r22
    rw [er] at r22
    obtain ⟨v0, hv0, r', rfl, hr2⟩ := pairAt' r22 (i := 0) rfl
    refine ⟨_, rfl, D5, _, 0, _, rfl, rfl, SqL.of (s' _ _ h5), atIn (i := 0) hv0, ?_⟩
    have dt1 : Dt H' (.ref r) (.tuple [.str (S nm), .int x]) := .tup hr' (.cons (.str _) (.cons (.int _) .nil))
    have dt2 : Dt H' (.ref r') (.tuple [.str (S nm), .int x]) := .tup hr2 (.cons (.str _) (.cons (.int _) .nil))
    refine ⟨_, _, dt1.dp.1, dt2.dp.1, sh2 x (due_sg due), sh2 x (due_sg due), ?_⟩
    have ev : PyData.eqv (.tuple [.str (S nm), .int x]) (.tuple [.str (S nm), .int x]) = true := eqvRefl (show PyData.canLayAll0 _ = true from lay2 x (due_sg due))
    rw [ev]
    exact kq _
def subB (K : PySem.W.Frag) (x : Str) : Bool := decide (PySem.W.subIn K (.ref (ga K x)) (.type "StopIteration") = some false)

end
/-! ### the head -/
def dd (x : Str) (st : Stmt) : He.DefD := ⟨(x, none), x, x, defArgs st, defBody st, defScope st, [], []⟩
def dx (C q : Str) (st : Stmt) : He.DefD := ⟨(C, some "__init__"), "__init__", q, defArgs st, defBody st, defScope st, [], []⟩
def dm (C m : String) (st : Stmt) : He.DefD := ⟨(Str.ofString C, some (Str.ofString m)), Str.ofString m, Str.ofString (C ++ "." ++ m), defArgs st, defBody st, defScope st, [], []⟩
def fn : List He.DefD := [dx "InvalidRecording" "InvalidRecording.__init__" s_InvalidRecording, dx "TooManyKeys" "TooManyKeys.__init__" s_TooManyKeys, dx "InvalidText" "InvalidText.__init__" s_InvalidText, dx "InvalidPlace" "InvalidPlace.__init__" s_InvalidPlace, dx "InvalidHold" "InvalidHold.__init__" s_InvalidHold, dx "InvalidTimes" "InvalidTimes.__init__" s_InvalidTimes, dd "is_word_sign" s_is_word_sign, dd "check_text" s_check_text, dd "check_place" s_check_place, dd "key_length" s_key_length, dd "read_bracket" s_read_bracket, ⟨("read", none), "read", "read", defArgs s_read, defBody s_read, defScope s_read, [.bl false], []⟩, dd "keys_in" s_keys_in, dd "repeats_in" s_repeats_in, dd "items_of" s_items_of, dd "check_hold" s_check_hold, ⟨("Page", some "__init__"), "__init__", "Page.__init__", defArgs s_Page___init__, defBody s_Page___init__, defScope s_Page___init__, [.str (S []), .int 0], [("hold", .int 2)]⟩, dm "Page" "line_start_at" s_Page_line_start_at, dm "Page" "ahead" s_Page_ahead, dm "Page" "advance_caret" s_Page_advance_caret, dm "Page" "pass_sign" s_Page_pass_sign, dm "Page" "insert" s_Page_insert, dm "Page" "take_one" s_Page_take_one, dm "Page" "travel" s_Page_travel, dm "Page" "use_mark" s_Page_use_mark, dm "Page" "act" s_Page_act, dm "Page" "situation" s_Page_situation, dd "lay" s_lay, dd "laid_rows" s_laid_rows, dd "spans" s_spans, dd "repeats_of" s_repeats_of, dd "check_times" s_check_times, dd "run" s_run, dm "Result" "__init__" s_Result___init__, dd "play_on" s_play_on, ⟨("play", none), "play", "play", defArgs s_play, defBody s_play, defScope s_play, [.int 1], [("hold", .int 2)]⟩, ⟨("accepts", none), "accepts", "accepts", defArgs s_accepts, defBody s_accepts, defScope s_accepts, [], [("hold", .int 2)]⟩, ⟨("course_of", none), "course_of", "course_of", defArgs s_course_of, defBody s_course_of, defScope s_course_of, [.int 3], []⟩, ⟨("play_course", none), "play_course", "play_course", defArgs s_play_course, defBody s_play_course, defScope s_play_course, [], [("hold", .int 2)]⟩, ⟨("trace", none), "trace", "trace", defArgs s_trace, defBody s_trace, defScope s_trace, [], [("hold", .int 2), ("most", .int 100)]⟩, ⟨("replays", none), "replays", "replays", defArgs s_replays, defBody s_replays, defScope s_replays, [], [("hold", .int 2), ("most", .int 20)]⟩, dd "_law_box" s_box, dd "_law_take" s_take, dd "_law_text" s_text, dd "_law_call" s_lcall, dd "_law_told" s_ltold19, dd "law" s_law]
def fa : List He.Fa := [.glo "is_word_sign", .glo "check_text", .glo "check_place", .glo "key_length", .glo "read_bracket", .glo "read", .glo "keys_in", .glo "repeats_in", .glo "items_of", .glo "check_hold", .glo "lay", .glo "laid_rows", .glo "spans", .glo "repeats_of", .glo "check_times", .glo "run", .glo "play_on", .glo "play", .glo "accepts", .glo "course_of", .glo "play_course", .glo "trace", .glo "replays", .glo "_law_box", .glo "_law_take", .glo "_law_text", .glo "_law_call", .glo "_law_told", .glo "law", .glo "KeyreelError", .free "len", .free "int", .free "list", .free "range", .free "max", .free "enumerate", .free "isinstance", .free "str", .free "tuple", .free "repr", .free "bool", .free "min", .free "ValueError", .free "set", .str "SIGNS" (S sgn), .str "WORD_SIGNS" (S wsg), .str "PLAIN_KEYS" (S [62, 120, 119, 110, 36, 94, 109, 98, 107, 99, 112]), .str "SIGN_KEYS" (S [39, 61, 47]), .str "LETTERS" (S ltr), .int "MOST_KEYS" 60, .int "MOST_DEPTH" 8, .int "HOLD" 2, .int "MOST_HOLD" 4, .int "MOST_TIMES" 1000, .exm "InvalidRecording" "InvalidRecording" true, .exm "InvalidText" "InvalidRecording" false, .exm "InvalidText" "InvalidText" true, .exm "InvalidPlace" "InvalidRecording" false, .exm "InvalidPlace" "InvalidText" false, .exm "InvalidPlace" "InvalidPlace" true, .exm "InvalidTimes" "InvalidRecording" false, .exm "InvalidTimes" "InvalidText" false, .exm "InvalidTimes" "InvalidPlace" false, .exm "InvalidTimes" "InvalidTimes" true, .exm "InvalidHold" "InvalidRecording" false, .exm "InvalidHold" "InvalidText" false, .exm "InvalidHold" "InvalidPlace" false, .exm "InvalidHold" "InvalidTimes" false, .exm "InvalidHold" "InvalidHold" true, .cls "Page", .mkr "Page", .glo "Page", .noat "Page" "text", .noat "Page" "caret", .noat "Page" "mark", .noat "Page" "kept", .noat "Page" "returned", .noat "Page" "hold", .cls "Result", .mkr "Result", .glo "Result", .noat "Result" "outcome", .noat "Result" "text", .noat "Result" "caret", .noat "Result" "kept", .noat "Result" "presses", .noat "Result" "rounds", .meth "Page" "line_start_at", .meth "Page" "ahead", .meth "Page" "advance_caret", .meth "Page" "pass_sign", .meth "Page" "insert", .meth "Page" "take_one", .meth "Page" "travel", .meth "Page" "use_mark", .meth "Page" "act", .meth "Page" "situation"]
def exq (K : PySem.W.Frag) : Bool := [He.ex1B K "InvalidRecording" "place", He.ex1B K "TooManyKeys" "limit", He.ex1B K "InvalidText" "place", He.ex1B K "InvalidPlace" "place", He.ex1B K "InvalidHold" "hold", He.ex1B K "InvalidTimes" "times", subB K "InvalidRecording", subB K "TooManyKeys", subB K "InvalidText", subB K "InvalidPlace", subB K "InvalidTimes", subB K "InvalidHold"].all id
abbrev R : PySem.W.OpenRow := PySem.W.OpenLaw.row PySem.Challenge.rw_keyreel_k19_first_error_of_a_play
def pd : List PD := [("Page", "held", ⟨("Page", some "held"), "held", "Page.held", defArgs s_Page_held, defBody s_Page_held, defScope s_Page_held, [], []⟩), ("Page", "fresh", ⟨("Page", some "fresh"), "fresh", "Page.fresh", defArgs s_Page_fresh, defBody s_Page_fresh, defScope s_Page_fresh, [], []⟩)]
def cd : List PD := []
def asl : List Addr := [3, 6, 4, 21, 31, 51, 70, 89, 108, 127, 146, 165, 177, 186, 193, 200, 207, 214, 221, 229, 236, 243, 250, 256, 263, 406, 417, 424, 431, 438, 462, 473, 480, 487, 496, 504, 512, 520, 528, 535, 542, 547, 554, 561, 566, 0, 20, 30, 50, 69, 88, 107, 126, 145, 164, 176, 185, 192, 199, 206, 213, 220, 228, 222, 235, 242, 249, 255, 251, 262, 405, 416, 423, 430, 437, 461, 472, 479, 486, 495, 488, 489, 503, 497, 511, 505, 519, 513, 527, 521, 534, 541, 546, 553, 560, 565, 15, 16, 17, 18, 19, 29, 32, 48, 49, 67, 68, 86, 87, 105, 106, 124, 125, 143, 144, 162, 163, 175, 180, 181, 182, 183, 184, 187, 188, 189, 190, 191, 194, 195, 196, 197, 198, 201, 202, 203, 204, 205, 208, 209, 210, 211, 212, 215, 216, 217, 218, 219, 223, 224, 225, 226, 227, 230, 231, 232, 233, 234, 237, 238, 239, 240, 241, 244, 245, 246, 247, 248, 252, 253, 254, 257, 258, 259, 260, 261, 279, 287, 295, 312, 319, 326, 333, 340, 347, 354, 361, 368, 375, 382, 389, 396, 403, 404, 407, 408, 411, 412, 413, 414, 415, 418, 419, 420, 421, 422, 425, 426, 427, 428, 429, 432, 433, 434, 435, 436, 452, 459, 460, 463, 464, 467, 468, 469, 470, 471, 474, 475, 476, 477, 478, 481, 482, 483, 484, 485, 490, 491, 492, 493, 494, 498, 499, 500, 501, 502, 506, 507, 508, 509, 510, 514, 515, 516, 517, 518, 522, 523, 524, 525, 526, 529, 530, 531, 532, 533, 536, 537, 538, 539, 540, 543, 544, 545, 548, 549, 550, 551, 552, 555, 556, 557, 558, 559, 562, 563, 564, 47, 66, 85, 104, 123, 142, 161, 278, 271, 272, 286, 294, 302, 311, 318, 325, 332, 339, 346, 353, 360, 367, 374, 381, 388, 395, 402, 451, 458, 42, 43, 44, 45, 46, 61, 62, 63, 64, 65, 80, 81, 82, 83, 84, 99, 100, 101, 102, 103, 118, 119, 120, 121, 122, 137, 138, 139, 140, 141, 156, 157, 158, 159, 160, 273, 274, 275, 276, 277, 285, 293, 301, 310, 313, 314, 315, 316, 317, 320, 321, 322, 323, 324, 327, 328, 329, 330, 331, 334, 335, 336, 337, 338, 341, 342, 343, 344, 345, 348, 349, 350, 351, 352, 355, 356, 357, 358, 359, 362, 363, 364, 365, 366, 369, 370, 371, 372, 373, 376, 377, 378, 379, 380, 383, 384, 385, 386, 387, 390, 391, 392, 393, 394, 397, 398, 399, 400, 401, 446, 447, 448, 449, 450, 453, 454, 455, 456, 457, 280, 281, 282, 283, 284, 288, 289, 290, 291, 292, 296, 297, 298, 299, 300, 305, 306, 307, 308, 309]
abbrev hk : PySem.W.Hook := hookL asl fa fn pd cd exq
def ob (s : PySem.W.SharedT) : AlL := obsL asl fa fn pd cd exq (HandSHeadRun.getT s)
theorem ob_eq (s : PySem.W.SharedT) : ob s = hk.obs s.abs := obsL_eq (HandSHeadRun.getT_eq s)
def loose0 : List Str := [("_wall" : Str), ("__name__" : Str), ("KeyreelError" : Str), ("InvalidText" : Str), ("InvalidPlace" : Str), ("InvalidRecording" : Str), ("TooManyKeys" : Str), ("InvalidKey" : Str), ("InvalidHold" : Str), ("InvalidTimes" : Str), ("InvalidCourse" : Str), ("DIGITS" : Str)]
def loose1 : List Str := [("CAPITALS" : Str), ("LETTERS" : Str), ("WORD_SIGNS" : Str), ("SIGNS" : Str), ("is_word_sign" : Str), ("check_text" : Str), ("check_place" : Str), ("MOST_KEYS" : Str), ("MOST_DEPTH" : Str), ("MOST_COURSE" : Str), ("PLAIN_KEYS" : Str), ("SIGN_KEYS" : Str)]
def loose2 : List Str := [("is_key" : Str), ("key_length" : Str), ("read_bracket" : Str), ("read" : Str), ("keys_in" : Str), ("repeats_in" : Str), ("items_of" : Str), ("course_of" : Str), ("HOLD" : Str), ("MOST_HOLD" : Str), ("check_hold" : Str), ("Page" : Str)]
def loose3 : List Str := [("lay" : Str), ("laid_rows" : Str), ("spans" : Str), ("repeats_of" : Str), ("MOST_TIMES" : Str), ("Result" : Str), ("check_times" : Str), ("run" : Str), ("play_on" : Str), ("play" : Str), ("play_course" : Str), ("accepts" : Str)]
def loose4 : List Str := [("trace" : Str), ("replays" : Str), ("_law_box" : Str), ("_law_take" : Str), ("_law_text" : Str), ("_law_call" : Str), ("_law_told" : Str)]
def loose : List Str := loose0 ++ loose1 ++ loose2 ++ loose3 ++ loose4
theorem run (w : World) : HandSHeadRun.RunEq R (PySem.W.view R.prog [61]) hk ob 6000 loose w := by
  intro os
  kernel_rfl
theorem kcal {P : Program} {w : World} {K : PySem.W.Frag} {mg : Str → Option Value} {base : Heap} {k : Nat} {x : Str} {sp : Sp} {f : Addr} {fd : FuncData} {ps : List Str} (F : FnOk P w K mg base (CX P w) k f fd ps sp) (g : mg x = some (.ref f)) (kp : PySem.W.keepIn K (.ref f) = true) (b : Binds K fd ps []) : KCal P w K mg base k x sp [] := ⟨f, fd, ps, [], F, g, kp, b, .nil⟩
theorem krec {P : Program} {w : World} {K : PySem.W.Frag} {mg : Str → Option Value} {base : Heap} {lv : Nat → Nat} {sp : Nat → Sp} {N : Nat} {x : Str} {f : Addr} {fd : FuncData} {ps : List Str} (h0 : ∀ vs H Q E, sp 0 vs H Q E → False) (g : mg x = some (.ref f)) (kp : PySem.W.keepIn K (.ref f) = true) (b : Binds K fd ps [])
    (st : ∀ d, d ≤ N → KCal P w K mg base (lv d) x (sp d) [] → FnOk P w K mg base (CX P w) (lv (d + 1)) f fd ps (sp (d + 1))) : ∀ d, d ≤ N + 1 → KCal P w K mg base (lv d) x (sp d) []
  | 0, _ => ⟨f, fd, ps, [], ⟨fun vs H Q E h => (h0 vs H Q E h).elim, fun A outer s H args us vs Q E _ _ _ _ h => (h0 vs H Q E h).elim⟩, g, kp, b, .nil⟩
  | d + 1, h => ⟨f, fd, ps, [], st d (Nat.le_of_succ_le_succ h) (krec h0 g kp b st d (Nat.le_of_succ_le h)), g, kp, b, .nil⟩
theorem facts {P : Program} {w : World} {K : PySem.W.Frag} {h : Heap} {mg : Str → Option Value} {f : Addr} (X : K.In h) (G : h.Ns mainGlobals mg) (hfa : mg ("law" : Str) = some (.ref f)) (c0 : SaysL fa fn pd cd exq K) :
    ∃ fd : FuncData, (∀ (s : Shared) (v : Value), BindsTo s fd ⟨[v], []⟩ [("_law_script", v)]) ∧ ∀ base : Heap, K.In base → base.Ns mainGlobals mg → FnOk P w K mg base CX0 30 f fd ["_law_script"] (spLaw K) := by
  have c : He.SaysD fa fn K := c0.d
  have more : ∀ i (b : Bool), [He.ex1B K "InvalidRecording" "place", He.ex1B K "TooManyKeys" "limit", He.ex1B K "InvalidText" "place", He.ex1B K "InvalidPlace" "place", He.ex1B K "InvalidHold" "hold", He.ex1B K "InvalidTimes" "times", subB K "InvalidRecording", subB K "TooManyKeys", subB K "InvalidText", subB K "InvalidPlace", subB K "InvalidTimes", subB K "InvalidHold"][i]? = some b → b = true := fun i b hb => List.all_eq_true.mp c0.ex b (List.mem_of_getElem? hb)
  have T : TX K mg := by
    refine { b_len := ?_, b_int := ?_, b_list := ?_, b_range := ?_, b_max := ?_, b_enumerate := ?_, b_isinstance := ?_, b_str := ?_, b_tuple := ?_, b_repr := ?_, b_bool := ?_, b_min := ?_, b_ValueError := ?_, b_set := ?_, g_SIGNS := ?_, g_WORD_SIGNS := ?_, g_PLAIN_KEYS := ?_, g_SIGN_KEYS := ?_, g_LETTERS := ?_, g_MOST_KEYS := ?_, g_MOST_DEPTH := ?_, g_HOLD := ?_, g_MOST_HOLD := ?_, g_MOST_TIMES := ?_ }
    · exact He.free_ok X G (c.fact 30 (f := .free "len") rfl)
    · exact He.free_ok X G (c.fact 31 (f := .free "int") rfl)
    · exact He.free_ok X G (c.fact 32 (f := .free "list") rfl)
    · exact He.free_ok X G (c.fact 33 (f := .free "range") rfl)
    · exact He.free_ok X G (c.fact 34 (f := .free "max") rfl)
    · exact He.free_ok X G (c.fact 35 (f := .free "enumerate") rfl)
    · exact He.free_ok X G (c.fact 36 (f := .free "isinstance") rfl)
    · exact He.free_ok X G (c.fact 37 (f := .free "str") rfl)
    · exact He.free_ok X G (c.fact 38 (f := .free "tuple") rfl)
    · exact He.free_ok X G (c.fact 39 (f := .free "repr") rfl)
    · exact He.free_ok X G (c.fact 40 (f := .free "bool") rfl)
    · exact He.free_ok X G (c.fact 41 (f := .free "min") rfl)
    · exact He.free_ok X G (c.fact 42 (f := .free "ValueError") rfl)
    · exact He.free_ok X G (c.fact 43 (f := .free "set") rfl)
    · exact He.str_ok X G (c.fact 44 (f := .str "SIGNS" (S sgn)) rfl)
    · exact He.str_ok X G (c.fact 45 (f := .str "WORD_SIGNS" (S wsg)) rfl)
    · exact He.str_ok X G (c.fact 46 (f := .str "PLAIN_KEYS" (S [62, 120, 119, 110, 36, 94, 109, 98, 107, 99, 112])) rfl)
    · exact He.str_ok X G (c.fact 47 (f := .str "SIGN_KEYS" (S [39, 61, 47])) rfl)
    · exact He.str_ok X G (c.fact 48 (f := .str "LETTERS" (S ltr)) rfl)
    · exact He.int_ok X G (c.fact 49 (f := .int "MOST_KEYS" 60) rfl)
    · exact He.int_ok X G (c.fact 50 (f := .int "MOST_DEPTH" 8) rfl)
    · exact He.int_ok X G (c.fact 51 (f := .int "HOLD" 2) rfl)
    · exact He.int_ok X G (c.fact 52 (f := .int "MOST_HOLD" 4) rfl)
    · exact He.int_ok X G (c.fact 53 (f := .int "MOST_TIMES" 1000) rfl)
  obtain ⟨fdx0, Fx0⟩ := c.def_ 0 (d := dx "InvalidRecording" "InvalidRecording.__init__" s_InvalidRecording) rfl
  have bx0 : Binds K fdx0 ["self", "place"] [] := FunD.bindsN (ps := ["self", "place"]) Fx0 fun _ _ _ _ _ _ us hl => match us, hl with | [_, _], _ => rfl
  obtain ⟨fdx1, Fx1⟩ := c.def_ 1 (d := dx "TooManyKeys" "TooManyKeys.__init__" s_TooManyKeys) rfl
  have bx1 : Binds K fdx1 ["self", "limit"] [] := FunD.bindsN (ps := ["self", "limit"]) Fx1 fun _ _ _ _ _ _ us hl => match us, hl with | [_, _], _ => rfl
  obtain ⟨fdx2, Fx2⟩ := c.def_ 2 (d := dx "InvalidText" "InvalidText.__init__" s_InvalidText) rfl
  have bx2 : Binds K fdx2 ["self", "place"] [] := FunD.bindsN (ps := ["self", "place"]) Fx2 fun _ _ _ _ _ _ us hl => match us, hl with | [_, _], _ => rfl
  obtain ⟨fdx3, Fx3⟩ := c.def_ 3 (d := dx "InvalidPlace" "InvalidPlace.__init__" s_InvalidPlace) rfl
  have bx3 : Binds K fdx3 ["self", "place"] [] := FunD.bindsN (ps := ["self", "place"]) Fx3 fun _ _ _ _ _ _ us hl => match us, hl with | [_, _], _ => rfl
  obtain ⟨fdx4, Fx4⟩ := c.def_ 4 (d := dx "InvalidHold" "InvalidHold.__init__" s_InvalidHold) rfl
  have bx4 : Binds K fdx4 ["self", "hold"] [] := FunD.bindsN (ps := ["self", "hold"]) Fx4 fun _ _ _ _ _ _ us hl => match us, hl with | [_, _], _ => rfl
  obtain ⟨fdx5, Fx5⟩ := c.def_ 5 (d := dx "InvalidTimes" "InvalidTimes.__init__" s_InvalidTimes) rfl
  have bx5 : Binds K fdx5 ["self", "times"] [] := FunD.bindsN (ps := ["self", "times"]) Fx5 fun _ _ _ _ _ _ us hl => match us, hl with | [_, _], _ => rfl
  obtain ⟨fd0, F0⟩ := c.def_ 6 (d := dd "is_word_sign" s_is_word_sign) rfl
  have b0 : Binds K fd0 ["sign"] [] := FunD.bindsN (ps := ["sign"]) F0 fun _ _ _ _ _ _ us hl => match us, hl with | [_], _ => rfl
  obtain ⟨fd1, F1⟩ := c.def_ 7 (d := dd "check_text" s_check_text) rfl
  have b1 : Binds K fd1 ["text"] [] := FunD.bindsN (ps := ["text"]) F1 fun _ _ _ _ _ _ us hl => match us, hl with | [_], _ => rfl
  obtain ⟨fd2, F2⟩ := c.def_ 8 (d := dd "check_place" s_check_place) rfl
  have b2 : Binds K fd2 ["text", "place"] [] := FunD.bindsN (ps := ["text", "place"]) F2 fun _ _ _ _ _ _ us hl => match us, hl with | [_, _], _ => rfl
  obtain ⟨fd3, F3⟩ := c.def_ 9 (d := dd "key_length" s_key_length) rfl
  have b3 : Binds K fd3 ["notation", "at", "calls"] [] := FunD.bindsN (ps := ["notation", "at", "calls"]) F3 fun _ _ _ _ _ _ us hl => match us, hl with | [_, _, _], _ => rfl
  obtain ⟨fd4, F4⟩ := c.def_ 10 (d := dd "read_bracket" s_read_bracket) rfl
  have b4 : Binds K fd4 ["sign", "at", "groups", "items"] [] := FunD.bindsN (ps := ["sign", "at", "groups", "items"]) F4 fun _ _ _ _ _ _ us hl => match us, hl with | [_, _, _, _], _ => rfl
  obtain ⟨fd5, F5⟩ := c.def_ 11 (d := ⟨("read", none), "read", "read", defArgs s_read, defBody s_read, defScope s_read, [.bl false], []⟩) rfl
  have G5 : FunD K "read" "read" (defArgs s_read) (defBody s_read) (defScope s_read) [.bl false] [] _ fd5 := F5
  obtain ⟨ds5, v5, b5⟩ := FunD.binds1 (ps := ["notation", "calls"]) G5 1 0 (by simp) (by rfl) (fun T kV doc pm an cdv ct us its h1 h2 => match us, its, h1, h2 with | [_], [_], _, _ => ⟨_, rfl, rfl⟩)
  obtain ⟨dz5, vz5, bz5⟩ := FunD.binds1 (ps := ["notation", "calls"]) G5 2 1 (by simp) (by rfl) (fun T kV doc pm an cdv ct us its h1 h2 => match us, its, h1, h2 with | [_, _], [_], _, _ => ⟨_, rfl, rfl⟩)
  obtain ⟨fd6, F6⟩ := c.def_ 12 (d := dd "keys_in" s_keys_in) rfl
  have b6 : Binds K fd6 ["items"] [] := FunD.bindsN (ps := ["items"]) F6 fun _ _ _ _ _ _ us hl => match us, hl with | [_], _ => rfl
  obtain ⟨fd7, F7⟩ := c.def_ 13 (d := dd "repeats_in" s_repeats_in) rfl
  have b7 : Binds K fd7 ["items"] [] := FunD.bindsN (ps := ["items"]) F7 fun _ _ _ _ _ _ us hl => match us, hl with | [_], _ => rfl
  obtain ⟨fd8, F8⟩ := c.def_ 14 (d := dd "items_of" s_items_of) rfl
  have b8 : Binds K fd8 ["recording"] [] := FunD.bindsN (ps := ["recording"]) F8 fun _ _ _ _ _ _ us hl => match us, hl with | [_], _ => rfl
  obtain ⟨fd9, F9⟩ := c.def_ 15 (d := dd "check_hold" s_check_hold) rfl
  have b9 : Binds K fd9 ["hold"] [] := FunD.bindsN (ps := ["hold"]) F9 fun _ _ _ _ _ _ us hl => match us, hl with | [_], _ => rfl
  obtain ⟨fd10, F10⟩ := c.def_ 16 (d := ⟨("Page", some "__init__"), "__init__", "Page.__init__", defArgs s_Page___init__, defBody s_Page___init__, defScope s_Page___init__, [.str (S []), .int 0], [("hold", .int 2)]⟩) rfl
  obtain ⟨fd11, F11⟩ := c.def_ 17 (d := dm "Page" "line_start_at" s_Page_line_start_at) rfl
  have b11 : Binds K fd11 ["self", "place"] [] := FunD.bindsN (ps := ["self", "place"]) F11 fun _ _ _ _ _ _ us hl => match us, hl with | [_, _], _ => rfl
  obtain ⟨fd12, F12⟩ := c.def_ 18 (d := dm "Page" "ahead" s_Page_ahead) rfl
  have b12 : Binds K fd12 ["self"] [] := FunD.bindsN (ps := ["self"]) F12 fun _ _ _ _ _ _ us hl => match us, hl with | [_], _ => rfl
  obtain ⟨fd13, F13⟩ := c.def_ 19 (d := dm "Page" "advance_caret" s_Page_advance_caret) rfl
  have b13 : Binds K fd13 ["self"] [] := FunD.bindsN (ps := ["self"]) F13 fun _ _ _ _ _ _ us hl => match us, hl with | [_], _ => rfl
  obtain ⟨fd14, F14⟩ := c.def_ 20 (d := dm "Page" "pass_sign" s_Page_pass_sign) rfl
  have b14 : Binds K fd14 ["self"] [] := FunD.bindsN (ps := ["self"]) F14 fun _ _ _ _ _ _ us hl => match us, hl with | [_], _ => rfl
  obtain ⟨fd15, F15⟩ := c.def_ 21 (d := dm "Page" "insert" s_Page_insert) rfl
  have b15 : Binds K fd15 ["self", "signs"] [] := FunD.bindsN (ps := ["self", "signs"]) F15 fun _ _ _ _ _ _ us hl => match us, hl with | [_, _], _ => rfl
  obtain ⟨fd16, F16⟩ := c.def_ 22 (d := dm "Page" "take_one" s_Page_take_one) rfl
  have b16 : Binds K fd16 ["self", "key"] [] := FunD.bindsN (ps := ["self", "key"]) F16 fun _ _ _ _ _ _ us hl => match us, hl with | [_, _], _ => rfl
  obtain ⟨fd17, F17⟩ := c.def_ 23 (d := dm "Page" "travel" s_Page_travel) rfl
  have b17 : Binds K fd17 ["self", "key", "sign"] [] := FunD.bindsN (ps := ["self", "key", "sign"]) F17 fun _ _ _ _ _ _ us hl => match us, hl with | [_, _, _], _ => rfl
  obtain ⟨fd18, F18⟩ := c.def_ 24 (d := dm "Page" "use_mark" s_Page_use_mark) rfl
  have b18 : Binds K fd18 ["self", "key"] [] := FunD.bindsN (ps := ["self", "key"]) F18 fun _ _ _ _ _ _ us hl => match us, hl with | [_, _], _ => rfl
  obtain ⟨fd19, F19⟩ := c.def_ 25 (d := dm "Page" "act" s_Page_act) rfl
  have b19 : Binds K fd19 ["self", "key", "sign"] [] := FunD.bindsN (ps := ["self", "key", "sign"]) F19 fun _ _ _ _ _ _ us hl => match us, hl with | [_, _, _], _ => rfl
  obtain ⟨fd20, F20⟩ := c.def_ 26 (d := dm "Page" "situation" s_Page_situation) rfl
  have b20 : Binds K fd20 ["self"] [] := FunD.bindsN (ps := ["self"]) F20 fun _ _ _ _ _ _ us hl => match us, hl with | [_], _ => rfl
  obtain ⟨fd21, F21⟩ := c.def_ 27 (d := dd "lay" s_lay) rfl
  have b21 : Binds K fd21 ["items", "number", "repeat", "onward", "failing"] [] := FunD.bindsN (ps := ["items", "number", "repeat", "onward", "failing"]) F21 fun _ _ _ _ _ _ us hl => match us, hl with | [_, _, _, _, _], _ => rfl
  obtain ⟨fd22, F22⟩ := c.def_ 28 (d := dd "laid_rows" s_laid_rows) rfl
  have b22 : Binds K fd22 ["recording"] [] := FunD.bindsN (ps := ["recording"]) F22 fun _ _ _ _ _ _ us hl => match us, hl with | [_], _ => rfl
  obtain ⟨fd23, F23⟩ := c.def_ 29 (d := dd "spans" s_spans) rfl
  have b23 : Binds K fd23 ["items", "number"] [] := FunD.bindsN (ps := ["items", "number"]) F23 fun _ _ _ _ _ _ us hl => match us, hl with | [_, _], _ => rfl
  obtain ⟨fd24, F24⟩ := c.def_ 30 (d := dd "repeats_of" s_repeats_of) rfl
  have b24 : Binds K fd24 ["recording"] [] := FunD.bindsN (ps := ["recording"]) F24 fun _ _ _ _ _ _ us hl => match us, hl with | [_], _ => rfl
  obtain ⟨fd25, F25⟩ := c.def_ 31 (d := dd "check_times" s_check_times) rfl
  have b25 : Binds K fd25 ["times"] [] := FunD.bindsN (ps := ["times"]) F25 fun _ _ _ _ _ _ us hl => match us, hl with | [_], _ => rfl
  obtain ⟨fd26, F26⟩ := c.def_ 32 (d := dd "run" s_run) rfl
  have b26 : Binds K fd26 ["rows", "page", "rounds"] [] := FunD.bindsN (ps := ["rows", "page", "rounds"]) F26 fun _ _ _ _ _ _ us hl => match us, hl with | [_, _, _], _ => rfl
  obtain ⟨fd27, F27⟩ := c.def_ 33 (d := dm "Result" "__init__" s_Result___init__) rfl
  have b27 : Binds K fd27 ["self", "outcome", "page", "presses", "rounds"] [] := FunD.bindsN (ps := ["self", "outcome", "page", "presses", "rounds"]) F27 fun _ _ _ _ _ _ us hl => match us, hl with | [_, _, _, _, _], _ => rfl
  obtain ⟨fd28, F28⟩ := c.def_ 34 (d := dd "play_on" s_play_on) rfl
  have b28 : Binds K fd28 ["recording", "page", "times"] [] := FunD.bindsN (ps := ["recording", "page", "times"]) F28 fun _ _ _ _ _ _ us hl => match us, hl with | [_, _, _], _ => rfl
  obtain ⟨fd29, F29⟩ := c.def_ 35 (d := ⟨("play", none), "play", "play", defArgs s_play, defBody s_play, defScope s_play, [.int 1], [("hold", .int 2)]⟩) rfl
  obtain ⟨fd30, F30⟩ := c.def_ 36 (d := ⟨("accepts", none), "accepts", "accepts", defArgs s_accepts, defBody s_accepts, defScope s_accepts, [], [("hold", .int 2)]⟩) rfl
  obtain ⟨fd31, F31⟩ := c.def_ 37 (d := ⟨("course_of", none), "course_of", "course_of", defArgs s_course_of, defBody s_course_of, defScope s_course_of, [.int 3], []⟩) rfl
  have G31 : FunD K "course_of" "course_of" (defArgs s_course_of) (defBody s_course_of) (defScope s_course_of) [.int 3] [] _ fd31 := F31
  obtain ⟨ds31, v31, b31⟩ := FunD.binds1 (ps := ["course", "most"]) G31 1 0 (by simp) (by rfl) (fun T kV doc pm an cdv ct us its h1 h2 => match us, its, h1, h2 with | [_], [_], _, _ => ⟨_, rfl, rfl⟩)
  obtain ⟨dz31, vz31, bz31⟩ := FunD.binds1 (ps := ["course", "most"]) G31 2 1 (by simp) (by rfl) (fun T kV doc pm an cdv ct us its h1 h2 => match us, its, h1, h2 with | [_, _], [_], _, _ => ⟨_, rfl, rfl⟩)
  obtain ⟨fd32, F32⟩ := c.def_ 38 (d := ⟨("play_course", none), "play_course", "play_course", defArgs s_play_course, defBody s_play_course, defScope s_play_course, [], [("hold", .int 2)]⟩) rfl
  obtain ⟨fd33, F33⟩ := c.def_ 39 (d := ⟨("trace", none), "trace", "trace", defArgs s_trace, defBody s_trace, defScope s_trace, [], [("hold", .int 2), ("most", .int 100)]⟩) rfl
  obtain ⟨fd34, F34⟩ := c.def_ 40 (d := ⟨("replays", none), "replays", "replays", defArgs s_replays, defBody s_replays, defScope s_replays, [], [("hold", .int 2), ("most", .int 20)]⟩) rfl
  obtain ⟨fd35, F35⟩ := c.def_ 41 (d := dd "_law_box" s_box) rfl
  have b35 : Binds K fd35 ["_law_script"] [] := FunD.bindsN (ps := ["_law_script"]) F35 fun _ _ _ _ _ _ us hl => match us, hl with | [_], _ => rfl
  obtain ⟨fd36, F36⟩ := c.def_ 42 (d := dd "_law_take" s_take) rfl
  have b36 : Binds K fd36 ["_law_box_here", "_law_size"] [] := FunD.bindsN (ps := ["_law_box_here", "_law_size"]) F36 fun _ _ _ _ _ _ us hl => match us, hl with | [_, _], _ => rfl
  obtain ⟨fd37, F37⟩ := c.def_ 43 (d := dd "_law_text" s_text) rfl
  have b37 : Binds K fd37 ["_law_box_here", "_law_signs", "_law_most"] [] := FunD.bindsN (ps := ["_law_box_here", "_law_signs", "_law_most"]) F37 fun _ _ _ _ _ _ us hl => match us, hl with | [_, _, _], _ => rfl
  obtain ⟨fd38, F38⟩ := c.def_ 44 (d := dd "_law_call" s_lcall) rfl
  have b38 : Binds K fd38 ["_law_way", "_law_notation", "_law_text_here", "_law_place", "_law_number", "_law_hold"] [] := FunD.bindsN (ps := ["_law_way", "_law_notation", "_law_text_here", "_law_place", "_law_number", "_law_hold"]) F38 fun _ _ _ _ _ _ us hl => match us, hl with | [_, _, _, _, _, _], _ => rfl
  obtain ⟨fd39, F39⟩ := c.def_ 45 (d := dd "_law_told" s_ltold19) rfl
  have b39 : Binds K fd39 ["_law_way", "_law_notation", "_law_text_here", "_law_place", "_law_number", "_law_hold"] [] := FunD.bindsN (ps := ["_law_way", "_law_notation", "_law_text_here", "_law_place", "_law_number", "_law_hold"]) F39 fun _ _ _ _ _ _ us hl => match us, hl with | [_, _, _, _, _, _], _ => rfl
  obtain ⟨fd40, F40⟩ := c.def_ 46 (d := dd "law" s_law) rfl
  have b40 : Binds K fd40 ["_law_script"] [] := FunD.bindsN (ps := ["_law_script"]) F40 fun _ _ _ _ _ _ us hl => match us, hl with | [_], _ => rfl
  obtain ⟨ap0, fdp0, hpp0, Fp0⟩ := c0.prop 0 (p := ("Page", "held", ⟨("Page", some "held"), "held", "Page.held", defArgs s_Page_held, defBody s_Page_held, defScope s_Page_held, [], []⟩)) rfl
  have bp0 : Binds K fdp0 ["self"] [] := FunD.bindsN (ps := ["self"]) Fp0 fun _ _ _ _ _ _ us hl => match us, hl with | [_], _ => rfl
  obtain ⟨ap1, fdp1, hpp1, Fp1⟩ := c0.prop 1 (p := ("Page", "fresh", ⟨("Page", some "fresh"), "fresh", "Page.fresh", defArgs s_Page_fresh, defBody s_Page_fresh, defScope s_Page_fresh, [], []⟩)) rfl
  have bp1 : Binds K fdp1 ["self"] [] := FunD.bindsN (ps := ["self"]) Fp1 fun _ _ _ _ _ _ us hl => match us, hl with | [_], _ => rfl
  have e := hfa.symm.trans (He.glo_ok X G (c.fact 28 (f := .glo "law") rfl))
  cases e
  have bA := FunD.bindsA (ps := ["_law_script"]) F40 fun _ _ _ _ _ _ us hl => match us, hl with | [_], _ => rfl
  refine ⟨fd40, fun s v => bA s [v] rfl, fun base _ _ => ?_⟩
  have x_InvalidRecording : Ex1 P w K mg base "InvalidRecording" "place" (ga K "InvalidRecording") := He.ex1_ok X G (more 0 _ rfl) (ok_InvalidRecording (He.oexB_ok (He.ba (He.ba (more 0 _ rfl)).2).1) (He.eqO_ok (He.ba (He.ba (He.ba (He.ba (He.ba (more 0 _ rfl)).2).2).2).2).1) Fx0) bx0
  have x_TooManyKeys : Ex1 P w K mg base "TooManyKeys" "limit" (ga K "TooManyKeys") := He.ex1_ok X G (more 1 _ rfl) (ok_TooManyKeys (He.oexB_ok (He.ba (He.ba (more 1 _ rfl)).2).1) (He.eqO_ok (He.ba (He.ba (He.ba (He.ba (He.ba (more 1 _ rfl)).2).2).2).2).1) Fx1) bx1
  have x_InvalidText : Ex1 P w K mg base "InvalidText" "place" (ga K "InvalidText") := He.ex1_ok X G (more 2 _ rfl) (ok_InvalidText (He.oexB_ok (He.ba (He.ba (more 2 _ rfl)).2).1) (He.eqO_ok (He.ba (He.ba (He.ba (He.ba (He.ba (more 2 _ rfl)).2).2).2).2).1) Fx2) bx2
  have x_InvalidPlace : Ex1 P w K mg base "InvalidPlace" "place" (ga K "InvalidPlace") := He.ex1_ok X G (more 3 _ rfl) (ok_InvalidPlace (He.oexB_ok (He.ba (He.ba (more 3 _ rfl)).2).1) (He.eqO_ok (He.ba (He.ba (He.ba (He.ba (He.ba (more 3 _ rfl)).2).2).2).2).1) Fx3) bx3
  have x_InvalidHold : Ex1 P w K mg base "InvalidHold" "hold" (ga K "InvalidHold") := He.ex1_ok X G (more 4 _ rfl) (ok_InvalidHold (He.oexB_ok (He.ba (He.ba (more 4 _ rfl)).2).1) (He.eqO_ok (He.ba (He.ba (He.ba (He.ba (He.ba (more 4 _ rfl)).2).2).2).2).1) Fx4) bx4
  have x_InvalidTimes : Ex1 P w K mg base "InvalidTimes" "times" (ga K "InvalidTimes") := He.ex1_ok X G (more 5 _ rfl) (ok_InvalidTimes (He.oexB_ok (He.ba (He.ba (more 5 _ rfl)).2).1) (He.eqO_ok (He.ba (He.ba (He.ba (He.ba (He.ba (more 5 _ rfl)).2).2).2).2).1) Fx5) bx5
  have Z : TP K := ⟨He.cls_ok (c.fact 69 (f := .cls "Page") rfl), He.noat_ok (c.fact 72 (f := .noat "Page" "text") rfl), He.noat_ok (c.fact 73 (f := .noat "Page" "caret") rfl), He.noat_ok (c.fact 74 (f := .noat "Page" "mark") rfl), He.noat_ok (c.fact 75 (f := .noat "Page" "kept") rfl), He.noat_ok (c.fact 76 (f := .noat "Page" "returned") rfl), He.noat_ok (c.fact 77 (f := .noat "Page" "hold") rfl)⟩
  have Zr : TRs K := ⟨He.cls_ok (c.fact 78 (f := .cls "Result") rfl), He.noat_ok (c.fact 81 (f := .noat "Result" "outcome") rfl), He.noat_ok (c.fact 82 (f := .noat "Result" "text") rfl), He.noat_ok (c.fact 83 (f := .noat "Result" "caret") rfl), He.noat_ok (c.fact 84 (f := .noat "Result" "kept") rfl), He.noat_ok (c.fact 85 (f := .noat "Result" "presses") rfl), He.noat_ok (c.fact 86 (f := .noat "Result" "rounds") rfl)⟩
  have SS : TS19 K := ⟨of_decide_eq_true (more 6 _ rfl), of_decide_eq_true (more 7 _ rfl), of_decide_eq_true (more 8 _ rfl), of_decide_eq_true (more 9 _ rfl), of_decide_eq_true (more 10 _ rfl), of_decide_eq_true (more 11 _ rfl)⟩
  have Y : TY19 K mg := ⟨He.glo_ok X G (c.fact 29 (f := .glo "KeyreelError") rfl), He.exm_ok (c.fact 54 (f := .exm "InvalidRecording" "InvalidRecording" true) rfl), He.exm_ok (c.fact 55 (f := .exm "InvalidText" "InvalidRecording" false) rfl), He.exm_ok (c.fact 56 (f := .exm "InvalidText" "InvalidText" true) rfl), He.exm_ok (c.fact 57 (f := .exm "InvalidPlace" "InvalidRecording" false) rfl), He.exm_ok (c.fact 58 (f := .exm "InvalidPlace" "InvalidText" false) rfl), He.exm_ok (c.fact 59 (f := .exm "InvalidPlace" "InvalidPlace" true) rfl), He.exm_ok (c.fact 60 (f := .exm "InvalidTimes" "InvalidRecording" false) rfl), He.exm_ok (c.fact 61 (f := .exm "InvalidTimes" "InvalidText" false) rfl), He.exm_ok (c.fact 62 (f := .exm "InvalidTimes" "InvalidPlace" false) rfl), He.exm_ok (c.fact 63 (f := .exm "InvalidTimes" "InvalidTimes" true) rfl), He.exm_ok (c.fact 64 (f := .exm "InvalidHold" "InvalidRecording" false) rfl), He.exm_ok (c.fact 65 (f := .exm "InvalidHold" "InvalidText" false) rfl), He.exm_ok (c.fact 66 (f := .exm "InvalidHold" "InvalidPlace" false) rfl), He.exm_ok (c.fact 67 (f := .exm "InvalidHold" "InvalidTimes" false) rfl), He.exm_ok (c.fact 68 (f := .exm "InvalidHold" "InvalidHold" true) rfl)⟩
  have c_is_word_sign : KCal P w K mg base 1 "is_word_sign" spIsWord [] := kcal (ok_is_word_sign T F0) (He.glo_ok X G (c.fact 0 (f := .glo "is_word_sign") rfl)) F0.kp b0
  have c_check_text : KCal P w K mg base 3 "check_text" (spCheckText K) [] := kcal (ok_check_text T x_InvalidText F1) (He.glo_ok X G (c.fact 1 (f := .glo "check_text") rfl)) F1.kp b1
  have c_check_place : KCal P w K mg base 3 "check_place" (spCheckPlace K) [] := kcal (ok_check_place T x_InvalidPlace F2) (He.glo_ok X G (c.fact 2 (f := .glo "check_place") rfl)) F2.kp b2
  have c_key_length : KCal P w K mg base 3 "key_length" (spKL K) [] := kcal (ok_key_length T x_InvalidRecording F3) (He.glo_ok X G (c.fact 3 (f := .glo "key_length") rfl)) F3.kp b3
  have c_read_bracket : KCal P w K mg base 3 "read_bracket" (spRB K) [] := kcal (ok_read_bracket T x_InvalidRecording F4) (He.glo_ok X G (c.fact 4 (f := .glo "read_bracket") rfl)) F4.kp b4
  have c_read : KCal P w K mg base 4 "read" (spRead K) [.bl false] := ⟨_, _, _, ds5, ok_read T x_InvalidRecording c_key_length c_read_bracket F5, He.glo_ok X G (c.fact 5 (f := .glo "read") rfl), F5.kp, b5, v5⟩
  have cz_read : KCal P w K mg base 4 "read" (spRead K) [] := ⟨_, _, _, dz5, ok_read T x_InvalidRecording c_key_length c_read_bracket F5, He.glo_ok X G (c.fact 5 (f := .glo "read") rfl), F5.kp, bz5, vz5⟩
  have c_keys_in : KCal P w K mg base (9) "keys_in" (spKeysIn 9) [] := krec (lv := fun d => d) (N := 8) (fun _ _ _ _ h => h) (He.glo_ok X G (c.fact 6 (f := .glo "keys_in") rfl)) F6.kp b6 (fun d hd cc => ok_keys_in T cc F6) 9 (by decide)
  have c_repeats_in : KCal P w K mg base (9) "repeats_in" (spRepsIn 9) [] := krec (lv := fun d => d) (N := 8) (fun _ _ _ _ h => h) (He.glo_ok X G (c.fact 7 (f := .glo "repeats_in") rfl)) F7.kp b7 (fun d hd cc => ok_repeats_in T cc F7) 9 (by decide)
  have c_items_of : KCal P w K mg base 10 "items_of" (spItems K) [] := kcal (ok_items_of T x_TooManyKeys c_read c_keys_in F8) (He.glo_ok X G (c.fact 8 (f := .glo "items_of") rfl)) F8.kp b8
  have c_check_hold : KCal P w K mg base 3 "check_hold" (spCheckHold K) [] := kcal (ok_check_hold T x_InvalidHold F9) (He.glo_ok X G (c.fact 9 (f := .glo "check_hold") rfl)) F9.kp b9
  have ok_i := ok_Page___init__ (P := P) (w := w) (mg := mg) (base := base) T Z c_check_text c_check_place c_check_hold F10
  obtain ⟨gI, bI⟩ := pg_b2 F10
  have k_Page_2_hold : KMak P w K mg base 4 "Page" (ga K "Page") 2 ["hold"] (spInit K) (fun vs zs => vs ++ zs) := ⟨_, _, _, gI, He.mkr_ok (c.fact 70 (f := .mkr "Page") rfl), ok_i, He.glo_ok X G (c.fact 71 (f := .glo "Page") rfl), bI⟩
  obtain ⟨ds1, v1, bI1⟩ := pg_b1 F10
  have k_Page_1 : KMap P w K mg base 4 "Page" (ga K "Page") (spInit K) [.int 0, .int 2] := ⟨_, _, _, ds1, He.mkr_ok (c.fact 70 (f := .mkr "Page") rfl), ok_i, He.glo_ok X G (c.fact 71 (f := .glo "Page") rfl), bI1, v1⟩
  obtain ⟨ds0, v0, bI0⟩ := pg_b0 F10
  have k_Page_0 : KMap P w K mg base 4 "Page" (ga K "Page") (spInit K) [.str (S []), .int 0, .int 2] := ⟨_, _, _, ds0, He.mkr_ok (c.fact 70 (f := .mkr "Page") rfl), ok_i, He.glo_ok X G (c.fact 71 (f := .glo "Page") rfl), bI0, v0⟩
  have m_Page_line_start_at : KMet P w K mg base 1 (ga K "Page") "line_start_at" (spLineStart K) := ⟨_, _, _, He.cls_ok (c.fact 69 (f := .cls "Page") rfl), He.meth_ok (c.fact 87 (f := .meth "Page" "line_start_at") rfl), ok_Page_line_start_at Z F11, b11⟩
  have m_Page_ahead : KMet P w K mg base 1 (ga K "Page") "ahead" (spAhead K) := ⟨_, _, _, He.cls_ok (c.fact 69 (f := .cls "Page") rfl), He.meth_ok (c.fact 88 (f := .meth "Page" "ahead") rfl), ok_Page_ahead Z F12, b12⟩
  have m_Page_advance_caret : KMet P w K mg base 1 (ga K "Page") "advance_caret" (spTurn K Pg.adv) := ⟨_, _, _, He.cls_ok (c.fact 69 (f := .cls "Page") rfl), He.meth_ok (c.fact 89 (f := .meth "Page" "advance_caret") rfl), ok_Page_advance_caret Z F13, b13⟩
  have m_Page_pass_sign : KMet P w K mg base 2 (ga K "Page") "pass_sign" (spTurn K Pg.pass) := ⟨_, _, _, He.cls_ok (c.fact 69 (f := .cls "Page") rfl), He.meth_ok (c.fact 90 (f := .meth "Page" "pass_sign") rfl), ok_Page_pass_sign T Z m_Page_advance_caret F14, b14⟩
  have m_Page_insert : KMet P w K mg base 2 (ga K "Page") "insert" (spIns K) := ⟨_, _, _, He.cls_ok (c.fact 69 (f := .cls "Page") rfl), He.meth_ok (c.fact 91 (f := .meth "Page" "insert") rfl), ok_Page_insert Z m_Page_advance_caret F15, b15⟩
  have m_Page_take_one : KMet P w K mg base 3 (ga K "Page") "take_one" (spKey K [62, 120] Pg.takeOne) := ⟨_, _, _, He.cls_ok (c.fact 69 (f := .cls "Page") rfl), He.meth_ok (c.fact 92 (f := .meth "Page" "take_one") rfl), ok_Page_take_one T Z m_Page_ahead m_Page_pass_sign F16, b16⟩
  have m_Page_travel : KMet P w K mg base 3 (ga K "Page") "travel" (spKeyS K) := ⟨_, _, _, He.cls_ok (c.fact 69 (f := .cls "Page") rfl), He.meth_ok (c.fact 93 (f := .meth "Page" "travel") rfl), ok_Page_travel T Z c_is_word_sign m_Page_ahead m_Page_pass_sign F17, b17⟩
  have p_Page_held : KPrp P w K mg base 1 (ga K "Page") "held" (spHeld K) := ⟨_, _, _, _, He.cls_ok (c.fact 69 (f := .cls "Page") rfl), hpp0, ok_Page_held Z Fp0, bp0⟩
  have p_Page_fresh : KPrp P w K mg base 2 (ga K "Page") "fresh" (spFresh K) := ⟨_, _, _, _, He.cls_ok (c.fact 69 (f := .cls "Page") rfl), hpp1, ok_Page_fresh Z m_Page_line_start_at Fp1, bp1⟩
  have m_Page_use_mark : KMet P w K mg base 3 (ga K "Page") "use_mark" (spKey K [98, 107, 99] Pg.useMark) := ⟨_, _, _, He.cls_ok (c.fact 69 (f := .cls "Page") rfl), He.meth_ok (c.fact 94 (f := .meth "Page" "use_mark") rfl), ok_Page_use_mark T Z p_Page_held F18, b18⟩
  have m_Page_act : KMet P w K mg base 5 (ga K "Page") "act" (spAct K) := ⟨_, _, _, He.cls_ok (c.fact 69 (f := .cls "Page") rfl), He.meth_ok (c.fact 95 (f := .meth "Page" "act") rfl), ok_Page_act T Z m_Page_ahead p_Page_fresh m_Page_insert m_Page_take_one m_Page_use_mark m_Page_travel F19, b19⟩
  have m_Page_situation : KMet P w K mg base 6 (ga K "Page") "situation" (spSit K) := ⟨_, _, _, He.cls_ok (c.fact 69 (f := .cls "Page") rfl), He.meth_ok (c.fact 96 (f := .meth "Page" "situation") rfl), ok_Page_situation T Z m_Page_line_start_at p_Page_held p_Page_fresh F20, b20⟩
  have c_lay : KCal P w K mg base (9 + 9) "lay" (spLay 9) [] := krec (lv := fun d => d + 9) (N := 8) (fun _ _ _ _ h => h) (He.glo_ok X G (c.fact 10 (f := .glo "lay") rfl)) F21.kp b21 (fun d hd cc => ok_lay hd T cc c_keys_in c_repeats_in F21) 9 (by decide)
  have c_laid_rows : KCal P w K mg base 19 "laid_rows" (spLaid K) [] := kcal (ok_laid_rows T c_items_of c_keys_in c_lay F22) (He.glo_ok X G (c.fact 11 (f := .glo "laid_rows") rfl)) F22.kp b22
  have c_spans : KCal P w K mg base (9 + 9) "spans" (spSpans 9) [] := krec (lv := fun d => d + 9) (N := 8) (fun _ _ _ _ h => h) (He.glo_ok X G (c.fact 12 (f := .glo "spans") rfl)) F23.kp b23 (fun d hd cc => ok_spans hd T cc c_keys_in F23) 9 (by decide)
  have c_repeats_of : KCal P w K mg base 20 "repeats_of" (spRepsOf K) [] := kcal (ok_repeats_of T c_laid_rows c_items_of c_spans F24) (He.glo_ok X G (c.fact 13 (f := .glo "repeats_of") rfl)) F24.kp b24
  have c_check_times : KCal P w K mg base 3 "check_times" (spCheckTimes K) [] := kcal (ok_check_times T x_InvalidTimes F25) (He.glo_ok X G (c.fact 14 (f := .glo "check_times") rfl)) F25.kp b25
  have c_run : KCal P w K mg base 7 "run" (spRun K) [] := kcal (ok_run T m_Page_situation m_Page_act F26) (He.glo_ok X G (c.fact 15 (f := .glo "run") rfl)) F26.kp b26
  have k_Result_4 : KMap P w K mg base 1 "Result" (ga K "Result") (spRes K) [] := ⟨_, _, _, [], He.mkr_ok (c.fact 79 (f := .mkr "Result") rfl), ok_Result___init__ T Z Zr F27, He.glo_ok X G (c.fact 80 (f := .glo "Result") rfl), b27, .nil⟩
  have c_play_on : KCal P w K mg base 21 "play_on" (spPlayOn K) [] := kcal (ok_play_on T c_laid_rows c_repeats_of c_run k_Result_4 F28) (He.glo_ok X G (c.fact 16 (f := .glo "play_on") rfl)) F28.kp b28
  have ok_p := ok_play (P := P) (w := w) (mg := mg) (base := base) T c_laid_rows c_check_text c_check_place c_check_times k_Page_2_hold c_play_on F29
  obtain ⟨gP, bP⟩ := pl_b3h F29
  have cn_play_3_hold : KCn P w K mg base 22 "play" 3 ["hold"] (spPlay K) (fun vs zs => vs ++ [.int 1] ++ zs) := ⟨⟨_, _, _, gP, ok_p, He.glo_ok X G (c.fact 17 (f := .glo "play") rfl), F29.kp, bP⟩⟩
  obtain ⟨gP4, bP4⟩ := pl_b4h F29
  have cn_play_4_hold : KCn P w K mg base 22 "play" 4 ["hold"] (spPlay K) (fun vs zs => vs ++ zs) := ⟨⟨_, _, _, gP4, ok_p, He.glo_ok X G (c.fact 17 (f := .glo "play") rfl), F29.kp, bP4⟩⟩
  obtain ⟨dsP, vP, bP3⟩ := pl_b3 F29
  have c_play : KCal P w K mg base 22 "play" (spPlay K) [.int 1, .int 2] := ⟨_, _, _, dsP, ok_p, He.glo_ok X G (c.fact 17 (f := .glo "play") rfl), F29.kp, bP3, vP⟩
  have ok_a := ok_accepts (P := P) (w := w) (mg := mg) (base := base) T Zr cn_play_3_hold F30
  obtain ⟨dsA, vA, bA3⟩ := ac_b3 F30
  have c_accepts : KCal P w K mg base 23 "accepts" (spAcc K) [.int 2] := ⟨_, _, _, dsA, ok_a, He.glo_ok X G (c.fact 18 (f := .glo "accepts") rfl), F30.kp, bA3, vA⟩
  obtain ⟨gA, bAh⟩ := ac_b3h F30
  have cn_accepts_3_hold : KCn P w K mg base 23 "accepts" 3 ["hold"] (spAcc K) (fun vs zs => vs ++ zs) := ⟨⟨_, _, _, gA, ok_a, He.glo_ok X G (c.fact 18 (f := .glo "accepts") rfl), F30.kp, bAh⟩⟩
  have c_course_of : KCal P w K mg base 11 "course_of" (spCourse K) [.int 3] := ⟨_, _, _, ds31, ok_course_of T c_items_of F31, He.glo_ok X G (c.fact 19 (f := .glo "course_of") rfl), F31.kp, b31, v31⟩
  have cz_course_of : KCal P w K mg base 11 "course_of" (spCourse K) [] := ⟨_, _, _, dz31, ok_course_of T c_items_of F31, He.glo_ok X G (c.fact 19 (f := .glo "course_of") rfl), F31.kp, bz31, vz31⟩
  have ok_pc := ok_play_course (P := P) (w := w) (mg := mg) (base := base) T Zr c_course_of k_Page_2_hold c_play_on k_Result_4 F32
  obtain ⟨gPc, bPc⟩ := pc_b F32
  have cn_play_course_3_hold : KCn P w K mg base 22 "play_course" 3 ["hold"] (spPlayC K) (fun vs zs => vs ++ zs) := ⟨⟨_, _, _, gPc, ok_pc, He.glo_ok X G (c.fact 20 (f := .glo "play_course") rfl), F32.kp, bPc⟩⟩
  have ok_tr := ok_trace (P := P) (w := w) (mg := mg) (base := base) T Z c_laid_rows c_check_times k_Page_2_hold m_Page_act F33
  obtain ⟨gTr, bTr⟩ := tr_b F33
  have cg_trace_3_most_hold : KGn P w K mg base 21 "trace" 3 ["most", "hold"] (spTrace K) (fun vs zs => vs ++ (zs.drop 1 ++ zs.take 1)) := ⟨⟨_, _, _, gTr, ok_tr, He.glo_ok X G (c.fact 21 (f := .glo "trace") rfl), F33.kp, bTr⟩⟩
  have ok_rp := ok_replays (P := P) (w := w) (mg := mg) (base := base) T Zr c_laid_rows c_check_text c_check_place c_check_hold c_check_times cn_play_3_hold F34
  obtain ⟨gRp, bRp⟩ := rp_b F34
  have cg_replays_3_hold_most : KGn P w K mg base 24 "replays" 3 ["hold", "most"] (spReplays K) (fun vs zs => vs ++ zs) := ⟨⟨_, _, _, gRp, ok_rp, He.glo_ok X G (c.fact 22 (f := .glo "replays") rfl), F34.kp, bRp⟩⟩
  have c__law_box : KCal P w K mg base 1 "_law_box" (spBox K) [] := kcal (ok_box T F35) (He.glo_ok X G (c.fact 23 (f := .glo "_law_box") rfl)) F35.kp b35
  have c__law_take : KCal P w K mg base 1 "_law_take" spTake [] := kcal (ok_take T F36) (He.glo_ok X G (c.fact 24 (f := .glo "_law_take") rfl)) F36.kp b36
  have c__law_text : KCal P w K mg base 2 "_law_text" spText [] := kcal (ok_text T c__law_take F37) (He.glo_ok X G (c.fact 25 (f := .glo "_law_text") rfl)) F37.kp b37
  have c__law_call : KCal P w K mg base 28 "_law_call" (spLCall K) [] := kcal (ok_lcall T SS cn_play_4_hold cn_accepts_3_hold cg_trace_3_most_hold cg_replays_3_hold_most cn_play_course_3_hold k_Page_2_hold F38) (He.glo_ok X G (c.fact 26 (f := .glo "_law_call") rfl)) F38.kp b38
  have c__law_told : KCal P w K mg base 29 "_law_told" (spLTold19 K) [] := kcal (ok_ltold19 T Y x_InvalidRecording x_InvalidText x_InvalidPlace x_InvalidTimes x_InvalidHold c__law_call F39) (He.glo_ok X G (c.fact 27 (f := .glo "_law_told") rfl)) F39.kp b39
  exact ok0 (ok_law T c__law_box c__law_take c__law_text c__law_told F40) fun _ _ _ _ h => h
end Kr
open PySem PySem.W PySem.Calls PyProof.Rows
set_option maxRecDepth 100000 in
set_option maxHeartbeats 0 in
theorem PySem.Challenge.cw_keyreel_k19_first_error_of_a_play_holds : PySem.Challenge.rw_keyreel_k19_first_error_of_a_play.Holds := by
  w_on; o_law
  refine HandSHeadRun.head_any (r := OpenLaw.row PySem.Challenge.rw_keyreel_k19_first_error_of_a_play) (q := view (OpenLaw.row PySem.Challenge.rw_keyreel_k19_first_error_of_a_play).prog [61]) (H := Kr.hk) (ob := Kr.ob) (M := 6000) (loose := Kr.loose) (d := HandSHeadRun.topDef (OpenLaw.row PySem.Challenge.rw_keyreel_k19_first_error_of_a_play).prog 61) (kwd := []) Kr.ob_eq
    (by kernel_rfl) (fun s => by kernel_rfl) Kr.run (by kernel_rfl) (by kernel_rfl) (by kernel_rfl) (by rfl) (by first | assumption | decide +kernel) (by decide +kernel) ⟨rfl, rfl, rfl, rfl, rfl, by decide +kernel⟩ ?hw ?hc
  case hw => w_witness2
  case hc =>
    refine L2.walk_ofE (l := PySem.Challenge.rw_keyreel_k19_first_error_of_a_play) (n := 63) (k := 30) (x := "_law_script") (CX := L2.CX0) rfl (by decide) (by kernel_rfl) ⟨rfl, by decide, by decide⟩ ?F (fun _ _ _ _ z => z)
    intro w mg fa h Y G hmg0
    obtain ⟨K, KX, c⟩ := Y
    have hmg : mg ("law" : PySem.Str) = some (.ref fa) := by
      have e : (HandSHeadRun.topDef (OpenLaw.row PySem.Challenge.rw_keyreel_k19_first_error_of_a_play).prog 61).name = ("law" : PySem.Str) := by kernel_rfl
      rw [← e]
      exact hmg0
    obtain ⟨fd, hb, hF⟩ := Kr.facts (P := (PySem.Challenge.rw_keyreel_k19_first_error_of_a_play).prog) (w := w) KX G hmg c
    exact ⟨K, fd, Kr.spLaw K, KX, hb, fun H a ns hl _ hS => ⟨a, ns, rfl, hS, fun _ => rfl⟩, hF⟩
#print axioms PySem.Challenge.cw_keyreel_k19_first_error_of_a_play_holds
