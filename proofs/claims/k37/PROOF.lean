import PyProof.Rows.All
import Wide.All
import OpenK.AllK
import Wide.FinOn
import HandS.ForMost
import HandS.ForExc
import HandS.Wide
import HandS.Flow
import HandS.Walk
import HandS.IsInst
import HandS.ExcInit
import HandS.ExcField
import HandS.ExcIs
import HandS.Defaults
import HandS.Codes
import HandS.CallSlots
import HandS.TryOnly
import HandS.Evl
import HandS.Property
import HandS.MakeKw
import HandS.MakeKwOnly
import HandS.Style
import HandS.Head0
import HandS.Head1
import HandS.Head2
import HandS.HeadEnd
import HandS.HeadHook1
import HandS.HeadHook2
import HandS.HeadHook3
import HandS.HeadHook4
import HandS.HeadWalk
import HandS.ClsMeth
import HandS.HeadNt
import HandS.TupAny
import HandS.RaiseMore
import KE.KCallOwn
import KE.GoesMore
import PyProof.P3Eq
import HandS.FStr
import KE.KxField
import HandS.ReplaceLit
import HandS.ReplaceDef
import HandS.ReplaceList
import PyProof.StrBlock2
import HandS.SlotsOwn
import HandS.TryMany
import PyProof.ListMulRight
import HandS.Star
import HandS.Small
import HandS.DictComp
import HandS.TupSets
import KE.KDictKeyed
import HandS.SetKeys
import KE.KeyNested
import HandS.StrMore
import PyProof.Rows.StrCut
import HandS.GenList
import HandS.Finally
import HandS.HotCalls
import HandS.TupLen
import HandS.Comp
import HandS.More
import KE.GoesZip
import HandS.Zip
import PyProof.StrLawsIn
import HandS.TupMul
import PyProof.P3In
import KE.SortData
import KE.SortCalls
import KE.LtData
import PyProof.ExcBaseAll.ValueError
import HandS.Deep
import HandS.Nested
import KE.KSuper
import OpenK.KOps
import HandS.Records
import HandS.Set
import HandS.Strs
import HandS.Conv
import PyProof.ListStr
import PySem.Challenge.RW_keyreel_k37_measures_as_values
set_option Elab.async false
set_option linter.all false
set_option maxRecDepth 100000
set_option maxHeartbeats 2000000
namespace L2
open PySem PySem.Spec PyProof.Rows
def Ites (x : Str) : It := ⟨fun i _ => i < x.cps.size, fun i H v H' => ∃ T c, v = .ref T ∧ H T = none ∧ H' = upd H T (.tup [.int (i : Nat), .str ⟨#[c]⟩]) ∧ x.cps[i]? = some c, fun i _ => i = x.cps.size⟩
theorem turn_enumS {P : Program} {w : World} {K : PySem.W.Frag} {elts : List Expr} {kk : Nat} {tpos : Pos} (x : Str) (t : Tok) (ty : String) (hty : ty = "str_ascii_iterator" ∨ ty = "str_iterator") (e it : Addr) :
    Turn P w K (.Tuple elts kk tpos) (Ites x) [e, it] e (fun i h => (∃ old, IsEnum h e it ((i : Nat) : Int) old) ∧ h.IsStrIter it ty x t i ∧ e ≠ it) where
  mem := by simp
  obj := fun i h st b hb => by
    obtain ⟨⟨old, he⟩, ⟨o, ho, hc, hd⟩, _⟩ := st
    have e' : b = e ∨ b = it := by simpa using hb
    rcases e' with z | z
    · rw [z]; exact ⟨_, he, fun v q => nomatch q⟩
    · rw [z]; exact ⟨o, ho, fun v q => by rw [hd] at q; cases q⟩
  keep := fun i h h' st k => by
    obtain ⟨⟨old, he⟩, ⟨o, ho, r⟩, hne⟩ := st
    exact ⟨⟨old, k e (by simp) _ he⟩, ⟨o, k it (by simp) o ho, r⟩, hne⟩
  item := by
    intro X hP hw hK hc i pins s σ H E I hf st hg
    subst hP hw hK
    obtain ⟨⟨old, he⟩, hit, hne⟩ := st
    have D : Draws X.prog X.w X.A.in1 it [it] x.cps.size (fun i v => ∃ c u, x.cps[i]? = some c ∧ v = .str ⟨#[c]⟩ u) (fun i h => h.IsStrIter it ty x t i) := by
      rcases hty with e | e
      · rw [e]; exact Draws.strAscii (show X.A.in1.handled = none from I.ok.hd hc) it x t
      · rw [e]; exact Draws.strWide (show X.A.in1.handled = none from I.ok.hd hc) it x t
    have hel : e < s.heap.objs.size := Heap.lt_size he
    have hil : it < s.heap.objs.size := by obtain ⟨_, q, _⟩ := hit; exact Heap.lt_size q
    refine wpAny_pyNext_enum_itemD D he hit hg hne (by simpa using hne) fun v h' tk hv ho hit' hT hsz hk => ?_
    obtain ⟨c, u, hcx, rfl⟩ := hv
    refine ⟨_, rfl, wpAny_letOwnedTupleGo_enum (s := { s with heap := h', toks := tk + 1 }) ho fun h'' he' sb => ?_⟩
    have hT2 : h''.get? s.heap.objs.size = some { cls := .type "tuple", data := .seq #[.int i tk, .str ⟨#[c]⟩ u] } := (sb.2 _ (Nat.ne_of_gt hel)).trans hT
    have new : ObjOk X.prog X.w (upd H s.heap.objs.size (.tup [.int (i : Nat), .str ⟨#[c]⟩])) h'' s.heap.objs.size (.tup [.int (i : Nat), .str ⟨#[c]⟩]) :=
      ⟨by show 2 ≤ sizeLine; decide, [.int i tk, .str ⟨#[c]⟩ u], .cons ⟨_, rfl⟩ (.cons ⟨_, rfl⟩ .nil), ⟨_, hT2, rfl, _, rfl⟩⟩
    have I1 : Inv X pins σ (upd H s.heap.objs.size (.tup [.int (i : Nat), .str ⟨#[c]⟩])) { s with heap := h'', toks := tk + 1 } :=
      I.turnedNew (ch := [e, it]) (fun b ob hb q => (sb.2 b (fun z => hb (by simp [z]))).trans (hk b ob (fun z => hb (by simp [z])) (fun z => hb (by simp [z])) q)) hf (Nat.le_refl _) new
    refine ⟨.ref s.heap.objs.size, _, I1, rfl, ⟨_, c, rfl, I.hok.fresh (Nat.le_refl _), rfl, hcx⟩, ⟨⟨.str ⟨#[c]⟩ u, ?_⟩, ?_, hne⟩, fun b hb => ?_⟩
    · have e1 : ((i + 1 : Nat) : Int) = (i : Int) + 1 := by omega
      rw [e1]; exact he'
    · obtain ⟨o, q, r⟩ := hit'
      exact ⟨o, (sb.2 it (Ne.symm hne)).trans q, r⟩
    · have hb' : b < s.heap.objs.size := by
        have e' : b = e ∨ b = it := by simpa using hb
        rcases e' with z | z
        · rw [z]; exact hel
        · rw [z]; exact hil
      rw [upd_ne (Nat.ne_of_lt hb')]
      exact (hf b hb).1
  done := by
    intro X hP hw hK hc i pins s σ H E I hf st hg
    subst hP hw hK
    obtain ⟨⟨old, he⟩, hit, hne⟩ := st
    have D : Draws X.prog X.w X.A.in1 it [it] x.cps.size (fun i v => ∃ c u, x.cps[i]? = some c ∧ v = .str ⟨#[c]⟩ u) (fun i h => h.IsStrIter it ty x t i) := by
      rcases hty with e | e
      · rw [e]; exact Draws.strAscii (show X.A.in1.handled = none from I.ok.hd hc) it x t
      · rw [e]; exact Draws.strWide (show X.A.in1.handled = none from I.ok.hd hc) it x t
    obtain ⟨f0, f1, f2, f3, f4, f5⟩ := hf it (by simp)
    have hg' : i = x.cps.size := hg
    subst hg'
    exact wpAny_pyNext_enum_endD D he hit fun h' eb => ⟨rfl, I.turned (t' := s.toks) (fun b o hb q => eb b o hb q) f0 f1 f3 f4 f5⟩
  self := fun A i s Q E st h => let ⟨⟨_, he⟩, _⟩ := st; wpAny_pyIter_enum he h
def iEnumS (ta : TA) : TI := fun σ H R => ta σ H fun vs H1 => ∃ x, vs = [.str x] ∧ R (Ites x) H1
theorem strIter_cases (x : Str) : strIterType x = "str_ascii_iterator" ∨ strIterType x = "str_iterator" := by
  unfold strIterType
  split
  · exact .inl rfl
  · exact .inr rfl
theorem pi_enumS {X : Cx} {e : Expr} {ta : TA} {p pos tpos : Pos} {elts : List Expr} {kk : Nat} (hg : Gl X "enumerate") (hm : X.mg "enumerate" = none) (ha : PA X [e] ta) (hs : starEach [e] X.env = [(false, eval e X.env)] := by rfl) :
    PI X (.Tuple elts kk tpos) (.Call (.Name "enumerate" p) [e] [] pos) (iEnumS ta) := by
  refine ⟨fun pins s σ H R I h => ?_⟩
  refine Call_ (ld_blt I hg hm boot_enumerate (PyProof.Rows.callWith_type1 (thn (ha.run pos pins s σ H _ I h) fun us s1 ⟨vs, H1, I1, r1, q1⟩ => ?_) hs rfl))
  obtain ⟨x, ex, q⟩ := q1
  subst ex
  cases r1 with
  | cons r rr =>
    cases rr
    obtain ⟨t, rfl⟩ := r
    refine call_enumerate_str fun h' he hit hsz hk => wpAny_pyIter_enum he ?_
    have I2 : Inv X pins σ H1 { s1 with heap := h' } := I1.kept (t' := s1.toks) hk
    refine ⟨s1.heap.objs.size + 1, [s1.heap.objs.size + 1, s1.heap.objs.size], _, _, H1, rfl, I2, turn_enumS x t (strIterType x) (strIter_cases x) (s1.heap.objs.size + 1) s1.heap.objs.size, ⟨⟨.none, he⟩, hit, Nat.succ_ne_self _⟩, fun b hb => ?_, q⟩
    have e' : b = s1.heap.objs.size + 1 ∨ b = s1.heap.objs.size := by simpa using hb
    have hle : s1.heap.objs.size ≤ b := by
      rcases e' with z | z
      · rw [z]; exact Nat.le_add_right _ _
      · rw [z]; exact Nat.le_refl _
    exact I1.fpOk hle (I1.hok.fresh hle)
theorem walk_enumS {z : Str} : Walk (Ites z) z.cps.size (fun _ => True) (YPair (fun i => some (.int (i : Nat))) (fun i => z.cps[i]?.map fun c => V.str ⟨#[c]⟩)) := by
  refine ⟨fun _ _ hi _ => hi, fun _ _ => rfl, fun i H v H' _ _ y => ?_⟩
  obtain ⟨T, c, h1, h2, h3, h4⟩ := y
  exact ⟨T, _, _, h1, h2, h3, rfl, by show Option.map _ _ = _; rw [h4]; rfl⟩
end L2

namespace PySem.W
open PySem PySem.Spec PySem.Calls PyProof.Rows
section
variable {prog : Program} {w : World} {A : Around} {E : Value → Shared → Prop} {s : Shared} {K : Frag} {x D : Addr} {ox : Obj} {od : Option Obj}
end
end PySem.W
namespace L2
open PySem PySem.Spec PyProof.Rows
def spEx1 (C : Addr) (f : Str) : Sp := fun vs H Q _ => ∃ (a : Addr) (v : V), vs = [.ref a, v] ∧ H a = some (exo a C none) ∧ ∀ d, H d = none → d ≠ a → Q .non (upd (upd H d (exd d [(f, v)])) a (exo a C (some d)))
structure Ex1 (P : Program) (w : World) (K : PySem.W.Frag) (mg : Str → Option Value) (base : Heap) (x f : Str) (C : Addr) : Prop where
  gC : mg x = some (.ref C)
  T : OexC K C
  no : PySem.W.findIn K (.ref C) f = some none
  xf : XfC K C
  ec : ExcC K C
  ini : ∃ (fI : Addr) (fd : FuncData), PySem.W.findIn K (.ref C) "__init__" = some (some (.ref fI)) ∧ PySem.W.typeIn K (.ref fI) = some (.type "function") ∧ FnOk P w K mg base (CX P w) 1 fI fd ["self", f] (spEx1 C f) ∧ Binds K fd ["self", f] []
theorem pmk1 {X : Cx} {x f : Str} {C : Addr} {e : Expr} {te : TE} {p pos : Pos} {k : Nat} (T : Ex1 X.prog X.w X.K X.mg X.base x f C) (hr : Room k X.A) (h2 : 2 ≤ k) (hg : Gl X x) (he : PE X e te)
    (hdb : (x == ("__debug__" : Str)) = false := by decide) (hs : starEach (e :: []) X.env = (false, eval e X.env) :: starEach [] X.env := by rfl) :
    PMk X (.Call (.Name x p) [e] [] pos) (tMkO C (spEx1 C f) [] (tCons te tNil)) := by
  obtain ⟨fI, fd, iC, tI, F1, b⟩ := T.ini
  have hx : Passes (CX X.prog X.w) X (fun _ _ _ => False) := passL
  exact pmk_oex (p := p) (pos := pos) T.T iC tI F1 (hr.mono (show 1 + 1 ≤ k from h2)) b .nil hx hg T.gC (pa_cons he pa_nil hs) hdb hs rfl
theorem ps_raise1 {X : Cx} {W : WX} {x f : Str} {C : Addr} {e : Expr} {te : TE} {p pos pos2 : Pos} {k : Nat} (hc : X.calm = true) (tk : Takes X W) (T : Ex1 X.prog X.w X.K X.mg X.base x f C) (hr : Room k X.A) (h2 : 2 ≤ k) (hg : Gl X x) (he : PE X e te)
    (hdb : (x == ("__debug__" : Str)) = false := by decide) (hs : starEach (e :: []) X.env = (false, eval e X.env) :: starEach [] X.env := by rfl) :
    PS X (.Raise (some (.Call (.Name x p) [e] [] pos)) none pos2) (fun _ σ H => tMkO C (spEx1 C f) [] (tCons te tNil) σ H fun cls d H' => W cls d σ H') := ps_raise hc tk (pmk1 T hr h2 hg he hdb hs)
theorem mk1_end {C : Addr} {f : Str} {v : V} {H : Hp} {Q : XK} (h : ∀ d, H d = none → Q (.ref C) (some d) (upd H d (.xd [(f, v)]))) :
    [v].length ≤ 1000 ∧ ∀ a, H a = none → spEx1 C f (.ref a :: ([v] ++ [])) (upd H a (exo a C none))
      (fun u H2 => u = .non ∧ ∃ (d : Addr) (fs : List (Str × V)), H2 a = some (exo a C (some d)) ∧ H2 d = some (exd d fs) ∧ H d = none ∧ Q (.ref C) (some d) (upd (del H2 a) d (.xd fs))) (fun _ _ _ => False) := by
  refine ⟨by simp, fun a ha => ⟨a, v, rfl, upd_same, fun d hd hne => ⟨rfl, d, [(f, v)], upd_same, ?_, ?_, ?_⟩⟩⟩
  · rw [upd_ne hne, upd_same]
  · rw [upd_ne hne] at hd; exact hd
  · have hd' : H d = none := by rw [upd_ne hne] at hd; exact hd
    have e : upd (del (upd (upd (upd H a (exo a C none)) d (exd d [(f, v)])) a (exo a C (some d))) a) d (.xd [(f, v)]) = upd H d (.xd [(f, v)]) := by
      funext b
      by_cases hb : b = d
      · rw [hb, upd_same, upd_same]
      · rw [upd_ne hb, upd_ne hb]
        by_cases ha2 : b = a
        · rw [ha2, del_same, ha]
        · rw [del_ne ha2, upd_ne ha2, upd_ne hb, upd_ne ha2]
    rw [e]
    exact h d hd'
end L2

namespace Kr
open PySem PySem.Spec PyProof.Rows L2
structure KCal (P : Program) (w : World) (K : PySem.W.Frag) (mg : Str → Option Value) (base : Heap) (k : Nat) (x : Str) (sp : Sp) (dvs : List V) : Prop where
  ex : ∃ (f : Addr) (fd : FuncData) (ps : List Str) (ds : List Value), FnOk P w K mg base (CX P w) k f fd ps sp ∧ mg x = some (.ref f) ∧ PySem.W.keepIn K (.ref f) = true ∧ Binds K fd ps ds ∧ Vals dvs ds
section
variable {X : Cx} {k j : Nat} {x : Str} {sp : Sp} {dvs : List V} {e : Expr} {es : List Expr} {t : TA} {p pos : Pos} {W : WX}
theorem kc (c : KCal X.prog X.w X.K X.mg X.base k x sp dvs) (hr : Room j X.A) (hk : k ≤ j) (hg : Gl X x) (ha : PA X (e :: es) t)
    (hdb : (x == ("__debug__" : Str)) = false := by decide) (he : starEach (e :: es) X.env = (false, eval e X.env) :: starEach es X.env := by rfl) (hpl : (backTo pos (starEach es X.env)).any (·.1) = false := by rfl) :
    PE X (.Call (.Name x p) (e :: es) [] pos) (tCall sp dvs E0 t) := by
  obtain ⟨f, fd, ps, ds, F, hm, kp, b, d⟩ := c.ex
  exact pe_call F (hr.mono hk) hg hm kp b d passL ha hdb he hpl
theorem kc0 (c : KCal X.prog X.w X.K X.mg X.base k x sp dvs) (hr : Room j X.A) (hk : k ≤ j) (hg : Gl X x)
    (hdb : (x == ("__debug__" : Str)) = false := by decide) :
    PE X (.Call (.Name x p) [] [] pos) (tCall sp dvs E0 tNil) := by
  obtain ⟨f, fd, ps, ds, F, hm, kp, b, d⟩ := c.ex
  exact pe_call0 F (hr.mono hk) hg hm kp b d passL hdb
theorem kx (c : KCal X.prog X.w X.K X.mg X.base k x sp dvs) (tk : Takes X W) (hr : Room j X.A) (hk : k ≤ j) (hg : Gl X x) (ha : PA X (e :: es) t)
    (hdb : (x == ("__debug__" : Str)) = false := by decide) (he : starEach (e :: es) X.env = (false, eval e X.env) :: starEach es X.env := by rfl) (hpl : (backTo pos (starEach es X.env)).any (·.1) = false := by rfl) :
    PE X (.Call (.Name x p) (e :: es) [] pos) (tCallSD sp dvs (WE W) t) := by
  obtain ⟨f, fd, ps, ds, F, hm, kp, b, d⟩ := c.ex
  exact pe_callSD F (hr.mono hk) hg hm kp b d (fun σ => passAt tk σ) ha hdb he hpl
end
theorem ift {c : Bool} {A B : Prop} (hc : c = true) (h : A) : if c = true then A else B := by rw [if_pos hc]; exact h
theorem iff' {c : Bool} {A B : Prop} (hc : c = false) (h : B) : if c = true then A else B := by rw [hc, if_neg Bool.false_ne_true]; exact h
theorem if2 {c : Bool} {A B : Prop} (h1 : c = true → A) (h2 : c = false → B) : if c = true then A else B := by
  cases c with
  | true => exact h1 rfl
  | false => exact h2 rfl
theorem dI (i j : Int) : decide (V.int i = V.int j) = decide (i = j) := by
  by_cases h : i = j
  · rw [h]; simp
  · rw [decide_eq_false h, decide_eq_false (fun q => h (V.int.inj q))]
theorem tyL {K : PySem.W.Frag} {H : Hp} {p : Addr} {xs : List V} (h : H p = some (.lst xs)) : tyV K "list" (.ref p) H := Or.inl ⟨rfl, _, SqL.of h⟩
theorem six0 {n : Nat} (h : 0 < n) : seqIndex? 0 n = some 0 := by
  unfold seqIndex?
  simp [h]
theorem dpInts {K : PySem.W.Frag} {H : Hp} : ∀ cs : List Int, DpAll K H (cs.map V.int) (cs.map PyData.int)
  | [] => .nil
  | c :: cs => .cons (.int c) (dpInts cs)
theorem layInts : ∀ cs : List Int, PyData.canLayAll0 (cs.map PyData.int) = true
  | [] => rfl
  | c :: cs => by
    show (PyData.canLay0 (.int c) && PyData.canLayAll0 (cs.map PyData.int)) = true
    rw [layInts cs]; rfl
theorem depInts : ∀ cs : List Int, PyData.depthAll (cs.map PyData.int) = 0
  | [] => rfl
  | c :: cs => by
    show max (PyData.depth (.int c)) (PyData.depthAll (cs.map PyData.int)) = 0
    rw [depInts cs]; rfl
theorem shInts (cs : List Int) : SeqAt.shaped (.list (cs.map PyData.int)) = true := by
  unfold SeqAt.shaped
  rw [Bool.and_eq_true]
  refine ⟨layInts cs, decide_eq_true ?_⟩
  show PyData.depthAll (cs.map PyData.int) + 1 ≤ 64
  rw [depInts]; decide
def Kp (S : List Addr) (H H' : Hp) : Prop := ∀ a o, a ∉ S → H a = some o → H' a = some o
theorem Kp.refl {S : List Addr} {H : Hp} : Kp S H H := fun _ _ _ h => h
theorem Kp.trans {S : List Addr} {H H1 H2 : Hp} (a : Kp S H H1) (b : Kp S H1 H2) : Kp S H H2 := fun x o hx h => b x o hx (a x o hx h)
theorem Kp.mono {S S' : List Addr} {H H' : Hp} (a : Kp S H H') (h : ∀ x ∈ S, x ∈ S') : Kp S' H H' := fun x o hx q => a x o (fun z => hx (h x z)) q
theorem Kp.upd {S : List Addr} {H H' : Hp} {p : Addr} {o : HO} (a : Kp S H H') (h : p ∈ S) : Kp S H (upd H' p o) := fun x u hx q => by
  have : x ≠ p := fun z => hx (z ▸ h)
  rw [upd_ne this]; exact a x u hx q
theorem Kp.new {S : List Addr} {H H' : Hp} {p : Addr} {o : HO} (a : Kp S H H') (h : H' p = none) : Kp S H (L2.upd H' p o) := fun x u hx q => by
  have q' := a x u hx q
  rw [upd_ne (ne_of_none q' h)]; exact q'
theorem Kp.mut {S : List Addr} {H H' : Hp} {p : Addr} {o : HO} (a : Kp S H H') (h : H p = none) : Kp S H (L2.upd H' p o) := fun x u hx q => by
  rw [upd_ne (ne_of_none q h)]; exact a x u hx q
theorem Kp.free {S : List Addr} {H H' : Hp} {p : Addr} (a : Kp S H H') (hp : p ∉ S) (h : H' p = none) : H p = none := by
  cases q : H p with
  | none => rfl
  | some o => rw [a p o hp q] at h; cases h
theorem Kp.same {H H' : Hp} (a : Kp [] H H') : Same H H' := fun x o h => a x o (by simp) h
theorem Kp.of_same {S : List Addr} {H H' : Hp} (a : Same H H') : Kp S H H' := fun x o _ h => a x o h
theorem Kp.seq {S : List Addr} {K : PySem.W.Frag} {H H' : Hp} {a : Addr} {xs : List V} (k : Kp S H H') (ha : a ∉ S) (h : SqL K H a xs) : SqL K H' a xs := by
  rcases h with h | h
  · rcases h with h | ⟨o, h⟩
    · exact .inl (.inl (k a _ ha h))
    · exact .inl (.inr ⟨o, k a _ ha h⟩)
  · exact .inr h
theorem ok0 {P : Program} {w : World} {K : PySem.W.Frag} {mg : Str → Option Value} {base : Heap} {k : Nat} {f : Addr} {fd : FuncData} {ps : List Str} {sp : Sp} (F : FnOk P w K mg base (CX P w) k f fd ps sp) (hE : ∀ vs H Q E, sp vs H Q E → sp vs H Q E0) : FnOk P w K mg base CX0 k f fd ps sp := by
  refine ⟨F.len, fun A outer s H args us vs Q E hr h0 hb hv hs => ?_⟩
  refine codeAny_mono (F.run A outer s H args us vs Q E0 hr h0 hb hv (hE _ _ _ _ hs)) fun r s' hq => ?_
  cases r with
  | error er =>
    exfalso
    have q : CX P w outer H s E0 er s' := hq
    obtain ⟨_, _, _, _, _, _, _, _, _, _, _, _, z⟩ := q
    exact z
  | ok fl =>
    cases fl with
    | ret u => exact hq
    | next => exact hq
    | brk => exact hq
    | cont => exact hq
end Kr

set_option Elab.async false
set_option linter.all false
set_option maxRecDepth 100000
set_option maxHeartbeats 2000000
namespace He
open PySem PySem.Spec PyProof.Rows L2
def excCB (K : PySem.W.Frag) (C : Addr) : Bool := match K.lookup C with
  | some ⟨.type "type", _, .cls cd, sl⟩ => (match cd.mro, sl.toList with
    | .ref C' :: bm, [_, _, _, _, some (.builtin n), _] => C' == C && n == "ValueError.__new__" && !cd.hasDel && cd.hasDict && PySem.HandSPX.refsVE bm
    | _, _ => false)
  | _ => false
theorem excCB_ok {K : PySem.W.Frag} {C : Addr} (q : excCB K C = true) : ∃ nm q N bs bm sn sub ab col dd k0 k1 k2 k3 k5, K.lookup C = some (excClassObj nm q C N bs bm true sn sub ab col dd k0 k1 k2 k3 k5 "ValueError.__new__") ∧ PySem.HandSPX.refsVE bm = true := by
  unfold excCB at q
  split at q
  · rename_i dd cd sl ho
    split at q
    · rename_i C' bm k0 k1 k2 k3 n k5 hm hs
      simp only [Bool.and_eq_true, beq_iff_eq, Bool.not_eq_true'] at q
      obtain ⟨⟨⟨⟨rfl, rfl⟩, hdel⟩, hdi⟩, ht⟩ := q
      obtain ⟨nm, bs, mro, ns, qn, hd, sn, sub, ab, col, del⟩ := cd
      dsimp only at hm hdel hdi
      subst hm hdel hdi
      have hsl : sl = #[k0, k1, k2, k3, some (.builtin "ValueError.__new__"), k5] := by
        obtain ⟨l⟩ := sl
        simp only at hs
        rw [hs]
      subst hsl
      exact ⟨nm, qn, ns, bs, bm, sn, sub, ab, col, dd, k0, k1, k2, k3, k5, ho, ht⟩
    · cases q
  · cases q
def oexB (K : PySem.W.Frag) (C : Addr) : Bool := excCB K C && (eqO (PySem.W.findIn K (.ref C) "__setattr__") (some (some (.builtin "object.__setattr__"))) && (decide (PySem.W.subIn K (.ref C) (.type "BaseException") = some true) && (decide (PySem.W.typeIn K (.ref C) = some (.type "type")) && PySem.W.keepIn K (.ref C))))
theorem oexB_ok {K : PySem.W.Frag} {C : Addr} (q : oexB K C = true) : OexC K C := by
  obtain ⟨c1, c⟩ := ba q
  obtain ⟨c2, c⟩ := ba c
  obtain ⟨c3, c⟩ := ba c
  obtain ⟨c4, c5⟩ := ba c
  exact ⟨excCB_ok c1, eqO_ok c2, of_decide_eq_true c3, of_decide_eq_true c4, c5⟩
def exqB (K : PySem.W.Frag) (D : Addr) : Bool := eqO (PySem.W.findIn K (.ref D) "__class__") (some (some (.builtin "object.__class__"))) && (eqO (PySem.W.specialIn K (.builtin "object.__class__") "__get__") (some (some (.builtin "getset_descriptor.__get__"))) && (decide (PySem.W.takesIn K (.builtin "object.__class__") = some true) && decide (PySem.W.mroIn K D (.type "object") = some true)))
theorem exqB_ok {K : PySem.W.Frag} {D : Addr} (x : XfC K D) (h : xfB K D = true) (q : exqB K D = true) : ExcC K D := by
  obtain ⟨c1, c⟩ := ba q
  obtain ⟨c2, c⟩ := ba c
  obtain ⟨c3, c4⟩ := ba c
  unfold xfB at h
  obtain ⟨d1, d⟩ := ba h
  obtain ⟨d2, d⟩ := ba d
  obtain ⟨d3, d4⟩ := ba d
  exact ⟨of_decide_eq_true d1, of_decide_eq_true d2, of_decide_eq_true d3, d4, eqO_ok c1, eqO_ok c2, of_decide_eq_true c3, of_decide_eq_true c4⟩
def ex1B (K : PySem.W.Frag) (x f : Str) : Bool := eqO (PySem.W.nsIn K mainGlobals x) (some (some (.ref (ga K x)))) && (oexB K (ga K x) && (xfB K (ga K x) && (exqB K (ga K x) && (eqO (PySem.W.findIn K (.ref (ga K x)) f) (some none) &&
  (eqO (PySem.W.findIn K (.ref (ga K x)) "__init__") (some (some (.ref (ma K (ga K x) "__init__")))) && decide (PySem.W.typeIn K (.ref (ma K (ga K x) "__init__")) = some (.type "function")))))))
theorem ex1_ok {P : Program} {w : World} {K : PySem.W.Frag} {mg : Str → Option Value} {base h : Heap} {x f : Str} (X : K.In h) (G : h.Ns mainGlobals mg) (q : ex1B K x f = true) {fd : FuncData}
    (F : FnOk P w K mg base (CX P w) 1 (ma K (ga K x) "__init__") fd ["self", f] (spEx1 (ga K x) f)) (b : Binds K fd ["self", f] []) : Ex1 P w K mg base x f (ga K x) := by
  obtain ⟨c1, c⟩ := ba q
  obtain ⟨c2, c⟩ := ba c
  obtain ⟨c3, c⟩ := ba c
  obtain ⟨c4, c⟩ := ba c
  obtain ⟨c5, c⟩ := ba c
  obtain ⟨c6, c7⟩ := ba c
  exact ⟨PySem.W.mg_of X G (eqO_ok c1), oexB_ok c2, eqO_ok c5, xfB_ok c3, exqB_ok (xfB_ok c3) c3 c4, _, fd, eqO_ok c6, of_decide_eq_true c7, F, b⟩
end He

set_option Elab.async false
set_option linter.all false
set_option maxRecDepth 100000
set_option maxHeartbeats 2000000
namespace Kr
open PySem PySem.Spec PyProof.Rows L2
open SX (S)
section
variable {X : Cx}
theorem opImp {f : Value → Value → Sem Value} {r r' : R2} (h : OpR X f r) (i : ∀ x y H Q, r' x y H Q → r x y H Q) : OpR X f r' := fun pins s σ H x y v u Q I rx ry q => h pins s σ H x y v u Q I rx ry (i x y H Q q)
theorem callImp {f : Value} {r r' : List V → Hp → VK → Prop} (h : CallR X f r) (i : ∀ xs H Q, r' xs H Q → r xs H Q) : CallR X f r' := fun pins s σ H xs us Q I rx q => h pins s σ H xs us Q I rx (i xs H Q q)
theorem ixImp {r r' : R2} (h : IxR X r) (i : ∀ x y H Q, r' x y H Q → r x y H Q) : IxR X r' := fun a b pins s σ H x y v u Q I rx ry q e => h a b pins s σ H x y v u Q I rx ry (i x y H Q q) e
theorem mtImp {id : String} {r r' : V → List V → Hp → VK → Prop} (h : MtR X id r) (i : ∀ x xs H Q, r' x xs H Q → r x xs H Q) : MtR X id r' := fun pins s σ H x xs v us Q I rx rs q => h pins s σ H x xs v us Q I rx rs (i x xs H Q q)
theorem leSz {n : Nat} (h : n ≤ 100000) : n ≤ sizeLine := Nat.le_trans h (by decide)
theorem ltSz {n : Nat} (h : n < 100000) : n < sizeLine := Nat.lt_of_lt_of_le h (by decide)
def rAddS : R2 := fun x y H Q => ∃ a b : List Nat, x = .str (S a) ∧ y = .str (S b) ∧ a.length + b.length ≤ 100000 ∧ Q (.str (S (a ++ b))) H
theorem op_addS : OpR X (binaryOp .Add) rAddS := opImp op_add_str fun x y H Q ⟨a, b, h1, h2, h3, q⟩ => ⟨S a, S b, h1, h2, by rw [SX.S_len, SX.S_len]; exact leSz h3, by rw [SX.S_cat]; exact q⟩
def rIxT' : R2 := fun x y H Q => ∃ (a : List Nat) (i : Int) (c : Nat), x = .str (S a) ∧ y = .int i ∧ a.length ≤ 100000 ∧ 0 ≤ i ∧ a[i.toNat]? = some c ∧ Q (.str (S [c])) H
theorem atI_pos {α : Type} {a : List α} {i : Int} {c : α} (h0 : 0 ≤ i) (h : a[i.toNat]? = some c) : atI a i = some c := by
  obtain ⟨k, rfl⟩ := Int.eq_ofNat_of_zero_le h0
  exact atI_nat h
theorem ix_S : IxR X rIxT' := ixImp ix_str fun x y H Q ⟨a, i, c, h1, h2, h3, h4, h5, q⟩ => ⟨S a, i, c, h1, h2, by rw [SX.S_len]; exact leSz h3, atI_pos h4 h5, q⟩
def rLenS : List V → Hp → VK → Prop := fun xs H Q => ∃ a : List Nat, xs = [.str (S a)] ∧ a.length ≤ 100000 ∧ Q (.int (a.length : Int)) H
theorem call_lenS : CallR X (.builtin "len") rLenS := callImp call_len_str fun xs H Q ⟨a, h1, h2, q⟩ => ⟨S a, h1, by rw [SX.S_len]; exact leSz h2, by rw [SX.S_len]; exact q⟩
theorem pe_strS {x : Str} {j : Nat} {pos : Pos} (l : List Nat) (h : x = S l) : PE X (.Constant (.str x) j pos) (tC (.str (S l))) := by
  rw [h]; exact pe_str
def rInS (neg : Bool) : R2 := fun x y H Q => ∃ (c : Nat) (a : List Nat), x = .str (S [c]) ∧ y = .str (S a) ∧ Q (.bl (if neg then !decide (c ∈ a) else decide (c ∈ a))) H
theorem op_inS : OpR X (compareOp .In) (rInS false) := opImp op_in_sign fun x y H Q ⟨c, a, h1, h2, q⟩ => ⟨c, S a, h1, h2, q⟩
theorem op_notInS : OpR X (compareOp .NotIn) (rInS true) := opImp op_notIn_sign fun x y H Q ⟨c, a, h1, h2, q⟩ => ⟨c, S a, h1, h2, q⟩
def rEqS (neg : Bool) : R2 := fun x y H Q => ∃ a b : List Nat, x = .str (S a) ∧ y = .str (S b) ∧ Q (.bl (if neg then !decide (a = b) else decide (a = b))) H
theorem dSS (a b : List Nat) : decide (V.str (S a) = V.str (S b)) = decide (a = b) := by
  by_cases h : a = b
  · rw [h]; simp
  · rw [decide_eq_false h, decide_eq_false (fun q => h (SX.S_inj (V.str.inj q)))]
theorem op_eqS : OpR X (compareOp .Eq) (rEqS false) := opImp op_eq fun x y H Q ⟨a, b, h1, h2, q⟩ => by
  subst h1 h2
  refine ⟨rfl, ?_⟩
  rw [dSS]; exact q
theorem op_neS : OpR X (compareOp .NotEq) (rEqS true) := opImp op_ne fun x y H Q ⟨a, b, h1, h2, q⟩ => by
  subst h1 h2
  refine ⟨rfl, ?_⟩
  rw [dSS]; exact q
theorem pe_gS {x : Str} {a : List Nat} {pos : Pos} (h : ∃ t, X.mg x = some (.str (S a) t)) (hg : Gl X x) (hd : (x == ("__debug__" : Str)) = false := by decide) : PE X (.Name x pos) (tC (.str (S a))) := by
  obtain ⟨t, h⟩ := h
  exact pe_glob hg h ⟨t, rfl⟩ hd
theorem pe_gR {x : Str} {C : Addr} {pos : Pos} (h : X.mg x = some (.ref C)) (hg : Gl X x) (hd : (x == ("__debug__" : Str)) = false := by decide) : PE X (.Name x pos) (tC (.ref C)) := pe_glob hg h rfl hd
theorem joinL_nil : ∀ ys : List (List Nat), TL.joinL [] ys = ys.flatten
  | [] => rfl
  | [p] => by simp [TL.joinL]
  | p :: q :: r => by
    show p ++ ([] ++ TL.joinL [] (q :: r)) = _
    rw [joinL_nil (q :: r)]; rfl
theorem join0 (ys : List (List Nat)) : Txt.join (S []) (ys.map S) = S ys.flatten := by rw [SX.join_S, joinL_nil]
theorem sum_len : ∀ ys : List (List Nat), ((ys.map S).map (fun x => x.length)).sum = ys.flatten.length
  | [] => rfl
  | y :: ys => by
    have := sum_len ys
    simp [SX.S_len] at this ⊢
    exact this
def rJoin0 (K : PySem.W.Frag) : V → List V → Hp → VK → Prop := fun x xs H Q => ∃ (p : Addr) (ys : List (List Nat)), x = .str (S []) ∧ xs = [.ref p] ∧ SqL K H p (ys.map fun y => V.str (S y)) ∧ ys.flatten.length ≤ 100000 ∧ Q (.str (S ys.flatten)) H
theorem pe_join0 {o e : Expr} {to te : TE} {apos pos : Pos} (ho : PE X o to) (he : PE X e te) (h1 : starEach [e] X.env = [(false, eval e X.env)] := by rfl) (h2 : attributeBase o "join" X.env (eval o X.env) = eval o X.env := by rfl) (h3 : (apos.endLine == pos.line) = true := by rfl) :
    PE X (.Call (.Attribute o "join" apos) [e] [] pos) (tM1 (rJoin0 X.K) to te) :=
  pe_m1 PySem.F.slot_str_join PySem.F.type_str_join (mtImp mt_join fun x xs H Q ⟨p, ys, e1, e2, hs, hl, q⟩ => ⟨S [], p, ys.map S, e1, e2, .inl (by rw [List.map_map]; exact hs), by
    rw [sum_len]; show _ + _ * 0 ≤ _; omega, by rw [join0]; exact q⟩) ho he h1 h2 h3
end
end Kr

set_option Elab.async false
set_option linter.all false
set_option maxRecDepth 100000
set_option maxHeartbeats 2000000
namespace Kr
def sgn : List Nat := [10, 32, 33, 34, 35, 36, 38, 39, 40, 41, 42, 43, 44, 45, 46, 47, 48, 49, 50, 51, 52, 53, 54, 55, 56, 57, 58, 59, 60, 61, 62, 63, 64, 65, 66, 67, 68, 69, 70, 71, 72, 73, 74, 75, 76, 77, 78, 79, 80, 81, 82, 83, 84, 85, 86, 87, 88, 89, 90, 91, 92, 93, 94, 95, 96, 97, 98, 99, 100, 101, 102, 103, 104, 105, 106, 107, 108, 109, 110, 111, 112, 113, 114, 115, 116, 117, 118, 119, 120, 121, 122, 123, 124, 125, 126]
def wsg : List Nat := [48, 49, 50, 51, 52, 53, 54, 55, 56, 57, 65, 66, 67, 68, 69, 70, 71, 72, 73, 74, 75, 76, 77, 78, 79, 80, 81, 82, 83, 84, 85, 86, 87, 88, 89, 90, 97, 98, 99, 100, 101, 102, 103, 104, 105, 106, 107, 108, 109, 110, 111, 112, 113, 114, 115, 116, 117, 118, 119, 120, 121, 122]
structure Pg where
  t : List Nat
  c : Nat
  m : Option Nat
  k : List Nat
  r : Nat
namespace Pg
def adv (h : Nat) (g : Pg) : Pg := ⟨g.t, g.c + 1, g.m.bind fun x => if x + h < g.c + 1 then none else some x, g.k, g.r⟩
def ins (h : Nat) (g : Pg) (x : Nat) : Pg := adv h ⟨g.t.take g.c ++ x :: g.t.drop g.c, g.c, g.m, g.k, g.r⟩
def fresh (g : Pg) : Bool := decide (g.c = 0) || g.t[g.c - 1]? == some 10
def useMark (h key : Nat) (g : Pg) : Bool × Pg := match g.m with
  | none => (false, g)
  | some x => if key = 98 then (if g.c - x + g.r > h then (false, g) else (true, ⟨g.t, x, some x, g.k, g.r + (g.c - x)⟩))
    else if key = 99 then (true, ⟨g.t.take x ++ g.t.drop g.c, x, some x, (g.t.take g.c).drop x, g.r⟩)
    else (true, ⟨g.t, g.c, some x, (g.t.take g.c).drop x, g.r⟩)
end Pg
structure PgOk (h : Nat) (g : Pg) : Prop where
  c : g.c ≤ g.t.length
  m : ∀ x, g.m = some x → x ≤ g.c ∧ g.c ≤ x + h
  k : g.k.length ≤ h
  ts : ∀ a ∈ g.t, a ∈ sgn
  ks : ∀ a ∈ g.k, a ∈ sgn
  hb : h ≤ 4
end Kr

set_option Elab.async false
set_option linter.all false
set_option maxRecDepth 100000
set_option maxHeartbeats 2000000
namespace Kr
open PySem PySem.Spec PyProof.Rows L2
structure KMet (P : Program) (w : World) (K : PySem.W.Frag) (mg : Str → Option Value) (base : Heap) (k : Nat) (C : Addr) (m : Str) (sp : Sp) : Prop where
  ex : ∃ (f : Addr) (fd : FuncData) (ps : List Str), Cls K C ∧ Meth K C m f ∧ FnOk P w K mg base (CX P w) k f fd ps sp ∧ Binds K fd ps []
structure KPrp (P : Program) (w : World) (K : PySem.W.Frag) (mg : Str → Option Value) (base : Heap) (k : Nat) (C : Addr) (m : Str) (sp : Sp) : Prop where
  ex : ∃ (p g : Addr) (fd : FuncData) (ps : List Str), Cls K C ∧ PropOf K C m p g ∧ FnOk P w K mg base (CX P w) k g fd ps sp ∧ Binds K fd ps []
section
variable {X : Cx} {k j : Nat} {C : Addr} {m : Str} {sp : Sp} {o e : Expr} {es : List Expr} {ta : TE} {t : TA} {p pos apos : Pos} {W : WX}
theorem km {pl : Sem Bool} (c : KMet X.prog X.w X.K X.mg X.base k C m sp) (hr : Room j X.A) (hk : k ≤ j) (he : PE X o ta) (ha : PA X (e :: es) t)
    (h1 : starEach (e :: es) X.env = (false, eval e X.env) :: starEach es X.env := by rfl) (h2 : (backTo pos (starEach es X.env)).any (·.1) = false := by rfl)
    (h3 : eval (.Call (.Attribute o m apos) (e :: es) [] pos) X.env = (do
      let ov ← eval o X.env
      standAt apos.atName
      let (f, first) ← holding [ov] (getMethod ov m pl)
      callWith pos f first (backTo pos (starEach (e :: es) X.env)) (backToKw pos (keywordEach [] X.env))) := by rfl) :
    PE X (.Call (.Attribute o m apos) (e :: es) [] pos) (tMeth C m sp [] E0 ta t) := by
  obtain ⟨f, fd, ps, hc, hm, F, b⟩ := c.ex
  exact pe_meth he hc hm F (hr.mono hk) b .nil passL ha h1 h2 h3
theorem kprop (c : KPrp X.prog X.w X.K X.mg X.base k C m sp) (hr : Room j X.A) (hk : k + 1 ≤ j) (he : PE X e ta) (hab : attributeBase e m X.env (eval e X.env) = eval e X.env := by rfl) : PE X (.Attribute e m pos) (tProp C sp [] E0 ta) := by
  obtain ⟨p, g, fd, ps, hc, hp, F, b⟩ := c.ex
  exact pe_prop he hc hp F (hr.mono hk) b .nil (passL (X := X.nox)) hab
end
structure KMak (P : Program) (w : World) (K : PySem.W.Frag) (mg : Str → Option Value) (base : Heap) (k : Nat) (x : Str) (C : Addr) (n : Nat) (ks : List Str) (sp : Sp) (gV : List V → List V → List V) : Prop where
  ex : ∃ (f : Addr) (fd : FuncData) (ps : List Str) (g : List Value → List Value → List Value), Mk K C f ∧ FnOk P w K mg base (CX P w) k f fd ps sp ∧ mg x = some (.ref C) ∧ KBn K fd ps (n + 1) ks g gV
structure KMap (P : Program) (w : World) (K : PySem.W.Frag) (mg : Str → Option Value) (base : Heap) (k : Nat) (x : Str) (C : Addr) (sp : Sp) (dvs : List V) : Prop where
  ex : ∃ (f : Addr) (fd : FuncData) (ps : List Str) (ds : List Value), Mk K C f ∧ FnOk P w K mg base (CX P w) k f fd ps sp ∧ mg x = some (.ref C) ∧ Binds K fd ps ds ∧ Vals dvs ds
section
variable {X : Cx} {k j n : Nat} {x : Str} {C : Addr} {ks : List Str} {sp : Sp} {gV : List V → List V → List V} {e : Expr} {es : List Expr} {kws : List Keyword} {t tk : TA} {p pos : Pos} {dvs : List V}
theorem kmap (c : KMap X.prog X.w X.K X.mg X.base k x C sp dvs) (hr : Room j X.A) (hk : k + 1 ≤ j) (hg : Gl X x) (ha : PA X (e :: es) t)
    (h3 : (x == ("__debug__" : Str)) = false := by decide) (h4 : starEach (e :: es) X.env = (false, eval e X.env) :: starEach es X.env := by rfl) (h5 : (backTo pos (starEach es X.env)).any (·.1) = false := by rfl) :
    PE X (.Call (.Name x p) (e :: es) [] pos) (tMake C sp dvs E0 t) := by
  obtain ⟨f, fd, ps, ds, M, F, hm, b, d⟩ := c.ex
  exact pe_make M F (hr.mono hk) hg hm b d passL ha h3 h4 h5
end
def propB (K : PySem.W.Frag) (C f : Str) : Bool := match PySem.W.findIn K (.ref (He.ga K C)) f with
  | some (some (.ref p)) => decide (PySem.W.specialIn K (.ref p) "__get__" = some (some (.builtin "property.__get__"))) && (decide (PySem.W.takesIn K (.ref p) = some true) && (match PySem.W.recIn K p "property" with
    | some (.ref _ :: _) => true
    | _ => false))
  | _ => false
def propG (K : PySem.W.Frag) (C f : Str) : Addr := match PySem.W.findIn K (.ref (He.ga K C)) f with
  | some (some (.ref p)) => (match PySem.W.recIn K p "property" with
    | some (.ref g :: _) => g
    | _ => 0)
  | _ => 0
theorem propB_ok {K : PySem.W.Frag} {C f : Str} (h : propB K C f = true) : ∃ p, PropOf K (He.ga K C) f p (propG K C f) := by
  unfold propB at h
  split at h
  · rename_i p hp
    obtain ⟨h1, h⟩ := He.ba h
    obtain ⟨h2, h3⟩ := He.ba h
    split at h3
    · rename_i g r hr
      refine ⟨p, hp, of_decide_eq_true h1, of_decide_eq_true h2, r, ?_⟩
      unfold propG
      rw [hp]
      simp only [hr]
    · cases h3
  · cases h
def fnWA (K : PySem.W.Frag) (a : Addr) : He.FnW := match K.lookup a with
  | some ⟨_, _, .func fd, _⟩ => some (fd.name, fd.qualname, fd.params, fd.body, fd.scope, fd.globals, fd.closure, fd.builtins)
  | _ => none
def okA (K : PySem.W.Frag) (a : Addr) (d : He.DefD) : Bool := PySem.W.keepIn K (.ref a) && (match K.lookup a with
  | some ⟨_, _, .func fd, _⟩ => PySem.W.codeIn K fd.code d.qual && (He.dflB K fd.defaults (d.dvs K) && He.kwdB K fd.kwdefaults (d.kws K))
  | _ => false)
theorem funDA {K : PySem.W.Frag} {a : Addr} {d : He.DefD} (e : fnWA K a = d.val) (c : okA K a d = true) : ∃ fd, FunD K d.name d.qual d.params d.body d.scope (d.dvs K) (d.kws K) a fd := by
  unfold okA at c
  have c' := He.ba c
  unfold fnWA at e
  generalize q : K.lookup a = lo at e c'
  match lo, q, e, c' with
  | some ⟨oc, od, .func ⟨n1, n2, n3, n4, n5, n6, n7, n8, n9, n10, n11, n12, n13, n14, n15⟩, osl⟩, q, e, c' =>
    have e2 : (some (n1, n2, n3, n4, n5, n6, n7, n15) : He.FnW) = some (d.name, d.qual, d.params, .stmts d.body, d.scope, mainGlobals, [], builtinsNs) := e
    simp only [Option.some.injEq, Prod.mk.injEq] at e2
    obtain ⟨rfl, rfl, rfl, rfl, rfl, rfl, rfl, rfl⟩ := e2
    have z1 := He.ba c'.2
    have z2 := He.ba z1.2
    exact ⟨_, ⟨oc, od, n8, n9, n10, n11, n12, n13, n14, osl, rfl, q, z1.1, He.dflB_ok z2.1, He.kwdB_ok z2.2⟩, c'.1⟩
abbrev PD : Type := Str × Str × He.DefD
def pobs (ps : List PD) (K : PySem.W.Frag) : List He.FnW := ps.map fun p => fnWA K (propG K p.1 p.2.1)
def pval (ps : List PD) : List He.FnW := ps.map fun p => p.2.2.val
def pok (ps : List PD) (K : PySem.W.Frag) : Bool := ps.all fun p => propB K p.1 p.2.1 && okA K (propG K p.1 p.2.1) p.2.2
structure SaysY (fa : List He.Fa) (fn : List He.DefD) (ps : List PD) (ex : PySem.W.Frag → Bool) (w : World) (h : Heap) (K : PySem.W.Frag) : Prop where
  x : He.SaysX fa fn [] [] (fun K => ex K && pok ps K) w h K
  p : pobs ps K = pval ps
theorem SaysY.prop {fa : List He.Fa} {fn : List He.DefD} {ps : List PD} {ex : PySem.W.Frag → Bool} {w : World} {h : Heap} {K : PySem.W.Frag} (c : SaysY fa fn ps ex w h K) (i : Nat) {p : PD} (hp : ps[i]? = some p := by rfl) :
    ∃ (a : Addr) (fd : FuncData), PropOf K (He.ga K p.1) p.2.1 a (propG K p.1 p.2.1) ∧ FunD K p.2.2.name p.2.2.qual p.2.2.params p.2.2.body p.2.2.scope (p.2.2.dvs K) (p.2.2.kws K) (propG K p.1 p.2.1) fd := by
  have c2 := (He.ba c.x.more).2
  obtain ⟨h1, h2⟩ := He.ba (List.all_eq_true.mp c2 p (List.mem_of_getElem? hp))
  obtain ⟨a, ha⟩ := propB_ok h1
  have e2 : (pobs ps K)[i]? = (pval ps)[i]? := by rw [c.p]
  unfold pobs pval at e2
  rw [List.getElem?_map, List.getElem?_map, hp] at e2
  obtain ⟨fd, F⟩ := funDA (Option.some.inj e2) h2
  exact ⟨a, fd, ha, F⟩
theorem SaysY.ex {fa : List He.Fa} {fn : List He.DefD} {ps : List PD} {ex : PySem.W.Frag → Bool} {w : World} {h : Heap} {K : PySem.W.Frag} (c : SaysY fa fn ps ex w h K) : ex K = true := (He.ba c.x.more).1
end Kr

set_option Elab.async false
set_option linter.all false
set_option maxRecDepth 100000
set_option maxHeartbeats 2000000
namespace Kr
open PySem PySem.Spec PyProof.Rows L2
structure KCm (P : Program) (w : World) (K : PySem.W.Frag) (mg : Str → Option Value) (base : Heap) (k : Nat) (C : Addr) (m : Str) (sp : Sp) : Prop where
  ex : ∃ (p g : Addr) (fd : FuncData) (ps : List Str), ClX.CRead K C (.type "type") ∧ ClX.CMet K C (.type "type") m p g ∧ FnOk P w K mg base (CX P w) k g fd ps sp ∧ Binds K fd ps []
section
variable {X : Cx} {k j : Nat} {C : Addr} {m : Str} {sp : Sp} {o e : Expr} {es : List Expr} {ta : TE} {t : TA} {pos apos : Pos} {W : WX}
theorem fnr {P : Program} {w : World} {K : PySem.W.Frag} {mg : Str → Option Value} {base : Heap} {CX : CXT} {f : Addr} {fd : FuncData} {ps : List Str} (F : FnOk P w K mg base CX k f fd ps sp) (b : Binds K fd ps []) : FnR P w K mg base CX k f sp :=
  (F.raw b .nil).imp fun vs H Q E h => by rw [List.append_nil]; exact h
theorem kcm0 {pl : Sem Bool} (c : KCm X.prog X.w X.K X.mg X.base k C m sp) (hr : Room j X.A) (hk : k ≤ j) (he : PE X o ta)
    (h3 : eval (.Call (.Attribute o m apos) [] [] pos) X.env = (do
      let ov ← eval o X.env
      standAt apos.atName
      let (f, first) ← holding [ov] (getMethod ov m pl)
      callWith pos f first (backTo pos (starEach [] X.env)) (backToKw pos (keywordEach [] X.env))) := by rfl) :
    PE X (.Call (.Attribute o m apos) [] [] pos) (ClX.tCMeth C sp E0 ta tNil) := by
  obtain ⟨p, g, fd, ps, r, cm, F, b⟩ := c.ex
  refine ⟨fun pins s σ H Q I h => ?_⟩
  refine PySem.W.methodCall_KW (pl := pl) (thn (he.run pins s σ H _ I h) fun u s1 hh => ?_) h3
  obtain ⟨x, H1, I1, rx, ex, q⟩ := hh
  subst ex
  obtain rfl : u = Value.ref C := rx
  refine ClX.getmethcm_ok I1 r cm fun s2 I2 => ?_
  exact PySem.W.callWith_M0 (first := []) ⟨ClX.pin_at I2, I2.kIn⟩ cm.fi (ClX.run_cm (fnr F b) (hr.mono hk) passL I2 .nil q)
theorem runCmAt {pins : List (Addr × Obj)} {σ : L2.St} {H : Hp} {s : Shared} {g q C : Addr} {E : XK} {Q : VK} {us : List Value} {vs : List V} (F : FnR X.prog X.w X.K X.mg X.base (CX X.prog X.w) k g sp) (hr : Room k X.A) (hx : PassesAt (CX X.prog X.w) X σ E) (I : Inv X ((q, PySem.W.methodObj (.ref g) (.ref C)) :: pins) σ H s)
    (r : Vals vs us) (h : sp (.ref C :: vs) H Q E) : wpAny (model X.prog X.w) X.A (call (.ref q) us) (EP X pins σ Q) X.xe s := by
  refine wpAny_call (PySem.W.method_call (ClX.pin_at I) (codeAny_mono (F X.A X.stack s H (.ref C :: us) (.ref C :: vs) Q E hr I.env0 (.cons rfl r) h) fun z s' hq => ?_))
  cases z with
  | error er => exact hx _ H s er s' I hq
  | ok fl =>
    cases fl with
    | ret u => exact ClX.unpinE (I.after hq)
    | next => exact hq.elim
    | brk => exact hq.elim
    | cont => exact hq.elim
def tCMethW (C : Addr) (sp : Sp) (E : L2.St → XK) (ta : TE) (t : TA) : TE := fun σ H Q => ta σ H fun x H1 => x = .ref C ∧ t σ H1 fun vs H2 => sp (.ref C :: vs) H2 Q (E σ)
theorem kcmx {pl : Sem Bool} (c : KCm X.prog X.w X.K X.mg X.base k C m sp) (tk : Takes X W) (hr : Room j X.A) (hk : k ≤ j) (he : PE X o ta) (ha : PA X (e :: es) t)
    (h1 : starEach (e :: es) X.env = (false, eval e X.env) :: starEach es X.env := by rfl) (h2 : (backTo pos (starEach es X.env)).any (·.1) = false := by rfl)
    (h3 : eval (.Call (.Attribute o m apos) (e :: es) [] pos) X.env = (do
      let ov ← eval o X.env
      standAt apos.atName
      let (f, first) ← holding [ov] (getMethod ov m pl)
      callWith pos f first (backTo pos (starEach (e :: es) X.env)) (backToKw pos (keywordEach [] X.env))) := by rfl) :
    PE X (.Call (.Attribute o m apos) (e :: es) [] pos) (tCMethW C sp (WE W) ta t) := by
  obtain ⟨p, g, fd, ps, r, cm, F, b⟩ := c.ex
  refine ⟨fun pins s σ H Q I h => ?_⟩
  refine PySem.W.methodCall_KW (pl := pl) (thn (he.run pins s σ H _ I h) fun u s1 hh => ?_) h3
  obtain ⟨x, H1, I1, rx, ex, q⟩ := hh
  subst ex
  obtain rfl : u = Value.ref C := rx
  refine ClX.getmethcm_ok I1 r cm fun s2 I2 => ?_
  refine ClX.callwith_cm I2 (ClX.base_none I1 (Nat.le_refl _)) cm.fi (thn (ha.run pos _ s2 σ H1 _ I2 q) fun us s3 hq => ?_) h1 h2
  obtain ⟨vs, H2, I3, rv, q2⟩ := hq
  exact ⟨⟨ClX.pin_at I3, I3.kIn⟩, runCmAt (fnr F b) (hr.mono hk) (passAt tk σ) I3 rv q2⟩
end
def tMakeV (C : Addr) (sp : Sp) (dvs : List V) (E : XK) (tf : TE) (t : TA) : TE := fun σ H Q => tf σ H fun v H1 => v = .ref C ∧ tMake C sp dvs E t σ H1 Q
theorem kmapV {X : Cx} {k j : Nat} {x y : Str} {C : Addr} {sp : Sp} {e : Expr} {es : List Expr} {tf : TE} {t : TA} {p pos : Pos} {dvs : List V} (c : KMap X.prog X.w X.K X.mg X.base k y C sp dvs) (hr : Room j X.A) (hk : k + 1 ≤ j) (hf : PE X (.Name x p) tf) (ha : PA X (e :: es) t)
    (h4 : starEach (e :: es) X.env = (false, eval e X.env) :: starEach es X.env := by rfl) (h5 : (backTo pos (starEach es X.env)).any (·.1) = false := by rfl) :
    PE X (.Call (.Name x p) (e :: es) [] pos) (tMakeV C sp dvs E0 tf t) := by
  obtain ⟨f, fd, ps, ds, M, F, hm, b, d⟩ := c.ex
  refine ⟨fun pins s σ H Q I h => ?_⟩
  refine wpAny_Call_Name_kw (thn (hf.run pins s σ H _ I h) fun u s1 hh => ?_)
  obtain ⟨v, H1, I1, rv, rfl, q⟩ := hh
  obtain rfl : u = Value.ref C := rv
  refine PySem.W.callWith_K (h₀ := X.base) I.ok.mod.kin M.kp (thn (ha.run pos pins s1 σ H1 _ I1 q) fun us s2 hq => ?_) h4 h5
  obtain ⟨vs, H2, I2, r, q2⟩ := hq
  exact ⟨I2.kIn, run_make M F (hr.mono hk) b d passL I2 r q2⟩
theorem kgC {X : Cx} {k : Nat} {x : Str} {C : Addr} {sp : Sp} {dvs : List V} {pos : Pos} (c : KMap X.prog X.w X.K X.mg X.base k x C sp dvs) (hg : Gl X x) (hd : (x == ("__debug__" : Str)) = false := by decide) : PE X (.Name x pos) (tC (.ref C)) := by
  obtain ⟨f, fd, ps, ds, M, F, hm, b, d⟩ := c.ex
  exact pe_glob hg hm rfl hd
def cmG (K : PySem.W.Frag) (C m : Str) : Addr := He5.wf K (He.ga K C) "classmethod" m
def cmB (K : PySem.W.Frag) (C m : Str) : Bool := PySem.W.readsIn K (He.ga K C) (.type "type") && (He.eqO (PySem.W.specialIn K (.ref (He.ga K C)) "__getattribute__") (some (some (.builtin "type.__getattribute__"))) && (He5.wrapB K (He.ga K C) "classmethod" "classmethod.__get__" m && PySem.W.fnIn K (cmG K C m)))
theorem cmB_ok {K : PySem.W.Frag} {C m : Str} (h : cmB K C m = true) : ClX.CRead K (He.ga K C) (.type "type") ∧ ∃ p, ClX.CMet K (He.ga K C) (.type "type") m p (cmG K C m) := by
  obtain ⟨h1, h⟩ := He.ba h
  obtain ⟨h2, h⟩ := He.ba h
  obtain ⟨h3, h4⟩ := He.ba h
  exact ⟨⟨h1, He.eqO_ok h2⟩, _, He5.cmet_of h3 h4⟩
end Kr

set_option Elab.async false
set_option linter.all false
set_option maxRecDepth 100000
set_option maxHeartbeats 2000000
namespace Kr
open PySem PySem.Spec PyProof.Rows L2
def cobs (cs : List PD) (K : PySem.W.Frag) : List He.FnW := cs.map fun p => fnWA K (cmG K p.1 p.2.1)
def cok (cs : List PD) (K : PySem.W.Frag) : Bool := cs.all fun p => cmB K p.1 p.2.1 && okA K (cmG K p.1 p.2.1) p.2.2
abbrev AlL : Type := (He.AlD × Bool) × (List He.FnW × List He.FnW)
def obsL (as : List Addr) (fa : List He.Fa) (fn : List He.DefD) (ps cs : List PD) (ex : PySem.W.Frag → Bool) (g : Addr → Option Obj) : AlL := ((He.obsD fa fn (He.frT g as), ex (He.frT g as) && (pok ps (He.frT g as) && cok cs (He.frT g as))), (pobs ps (He.frT g as), cobs cs (He.frT g as)))
structure SaysL (fa : List He.Fa) (fn : List He.DefD) (ps cs : List PD) (ex : PySem.W.Frag → Bool) (K : PySem.W.Frag) : Prop where
  d : He.SaysD fa fn K
  more : (ex K && (pok ps K && cok cs K)) = true
  p : pobs ps K = pval ps
  q : cobs cs K = pval cs
def hookL (as : List Addr) (fa : List He.Fa) (fn : List He.DefD) (ps cs : List PD) (ex : PySem.W.Frag → Bool) : PySem.W.Hook where
  α := AlL
  obs := fun s => obsL as fa fn ps cs ex s.heap.get?
  val := fun _ => ((He.valD fn, true), (pval ps, pval cs))
  says := fun _ h => ∃ K : PySem.W.Frag, K.In h ∧ SaysL fa fn ps cs ex K
  of := fun _ s e => ⟨_, He.frT_in, congrArg (fun z : AlL => z.1.1) e, congrArg (fun z : AlL => z.1.2) e, congrArg (fun z : AlL => z.2.1) e, congrArg (fun z : AlL => z.2.2) e⟩
  keeps := fun _ _ _ ⟨K, hK, c⟩ k => ⟨K, PySem.W.Frag.In.keeps hK k, c⟩
theorem obsL_eq {as : List Addr} {fa : List He.Fa} {fn : List He.DefD} {ps cs : List PD} {ex : PySem.W.Frag → Bool} {g : Addr → Option Obj} {s : Shared} (h : ∀ a, g a = s.heap.get? a) : obsL as fa fn ps cs ex g = (hookL as fa fn ps cs ex).obs s := by
  have e : g = s.heap.get? := funext h
  subst e
  rfl
section
variable {fa : List He.Fa} {fn : List He.DefD} {ps cs : List PD} {xq : PySem.W.Frag → Bool} {K : PySem.W.Frag}
theorem SaysL.prop (c : SaysL fa fn ps cs xq K) (i : Nat) {p : PD} (hp : ps[i]? = some p := by rfl) :
    ∃ (a : Addr) (fd : FuncData), PropOf K (He.ga K p.1) p.2.1 a (propG K p.1 p.2.1) ∧ FunD K p.2.2.name p.2.2.qual p.2.2.params p.2.2.body p.2.2.scope (p.2.2.dvs K) (p.2.2.kws K) (propG K p.1 p.2.1) fd := by
  obtain ⟨h1, h2⟩ := He.ba (List.all_eq_true.mp (He.ba (He.ba c.more).2).1 p (List.mem_of_getElem? hp))
  obtain ⟨a, ha⟩ := propB_ok h1
  have e2 : (pobs ps K)[i]? = (pval ps)[i]? := by rw [c.p]
  unfold pobs pval at e2
  rw [List.getElem?_map, List.getElem?_map, hp] at e2
  obtain ⟨fd, F⟩ := funDA (Option.some.inj e2) h2
  exact ⟨a, fd, ha, F⟩
theorem SaysL.cm (c : SaysL fa fn ps cs xq K) (i : Nat) {p : PD} (hp : cs[i]? = some p := by rfl) :
    ∃ (a : Addr) (fd : FuncData), ClX.CRead K (He.ga K p.1) (.type "type") ∧ ClX.CMet K (He.ga K p.1) (.type "type") p.2.1 a (cmG K p.1 p.2.1) ∧ FunD K p.2.2.name p.2.2.qual p.2.2.params p.2.2.body p.2.2.scope (p.2.2.dvs K) (p.2.2.kws K) (cmG K p.1 p.2.1) fd := by
  obtain ⟨h1, h2⟩ := He.ba (List.all_eq_true.mp (He.ba (He.ba c.more).2).2 p (List.mem_of_getElem? hp))
  obtain ⟨r, a, ha⟩ := cmB_ok h1
  have e2 : (cobs cs K)[i]? = (pval cs)[i]? := by rw [c.q]
  unfold cobs pval at e2
  rw [List.getElem?_map, List.getElem?_map, hp] at e2
  obtain ⟨fd, F⟩ := funDA (Option.some.inj e2) h2
  exact ⟨a, fd, r, ha, F⟩
theorem SaysL.ex (c : SaysL fa fn ps cs xq K) : xq K = true := (He.ba c.more).1
end
end Kr

set_option Elab.async false
set_option linter.all false
set_option maxRecDepth 100000
set_option maxHeartbeats 2000000
namespace Kr
open PySem PySem.Spec PyProof.Rows L2
open SX (S)
open He (ga ma)
def pgR (t c m k r h : V) : List (Str × V) := [("text", t), ("caret", c), ("mark", m), ("kept", k), ("returned", r), ("hold", h)]
def mV : Option Nat → V
  | none => .non
  | some x => .int (x : Nat)
section
variable {t c m k r h v : V}
end
abbrev pgf (g : Pg) (h : Nat) : List (Str × V) := pgR (.str (S g.t)) (.int (g.c : Nat)) (mV g.m) (.str (S g.k)) (.int (g.r : Nat)) (.int (h : Nat))
def PageAt (K : PySem.W.Frag) (H : Hp) (p : Addr) (g : Pg) (h : Nat) : Prop := ∃ dx, H p = some (.ins (ga K "Page") dx (pgf g h))
theorem PageAt.keep {K : PySem.W.Frag} {H H' : Hp} {S : List Addr} {p : Addr} {g : Pg} {h : Nat} (a : PageAt K H p g h) (k : Kp S H H') (hp : p ∉ S) : PageAt K H' p g h := by
  obtain ⟨dx, e⟩ := a
  exact ⟨dx, k p _ hp e⟩
theorem PageAt.same {K : PySem.W.Frag} {H H' : Hp} {p : Addr} {g : Pg} {h : Nat} (a : PageAt K H p g h) (k : Same H H') : PageAt K H' p g h := by
  obtain ⟨dx, e⟩ := a
  exact ⟨dx, k p _ e⟩
structure TP (K : PySem.W.Frag) : Prop where
  cl : Cls K (ga K "Page")
  n_text : NoAttr K (ga K "Page") "text"
  n_caret : NoAttr K (ga K "Page") "caret"
  n_mark : NoAttr K (ga K "Page") "mark"
  n_kept : NoAttr K (ga K "Page") "kept"
  n_returned : NoAttr K (ga K "Page") "returned"
  n_hold : NoAttr K (ga K "Page") "hold"
end Kr

set_option Elab.async false
set_option linter.all false
set_option maxRecDepth 100000
set_option maxHeartbeats 2000000
namespace Kr
open PySem PySem.Spec PyProof.Rows L2
open SX (S)
inductive It where
  | key (s : List Nat)
  | rep (a : List It)
  | cho (a b : List It)
mutual
def It.keys : It → List (List Nat)
  | .key s => [s]
  | .rep a => keysL a
  | .cho a b => keysL a ++ keysL b
def keysL : List It → List (List Nat)
  | [] => []
  | i :: r => i.keys ++ keysL r
end
mutual
def It.reps : It → Nat
  | .key _ => 0
  | .rep a => 1 + repsL a
  | .cho a b => repsL a + repsL b
def repsL : List It → Nat
  | [] => 0
  | i :: r => i.reps + repsL r
end
mutual
def It.dep : It → Nat
  | .key _ => 0
  | .rep a => 1 + depL a
  | .cho a b => 1 + max (depL a) (depL b)
def depL : List It → Nat
  | [] => 0
  | i :: r => max i.dep (depL r)
end
mutual
def It.sz : It → Nat
  | .key _ => 1
  | .rep a => 1 + szL a
  | .cho a b => 1 + szL a + szL b
def szL : List It → Nat
  | [] => 0
  | i :: r => i.sz + szL r
end
mutual
def It.data : It → PyData
  | .key s => .str (S s)
  | .rep a => .tuple [.str (S [40]), .tuple (dataL a)]
  | .cho a b => .tuple [.str (S [91]), .tuple (dataL a), .tuple (dataL b)]
def dataL : List It → List PyData
  | [] => []
  | i :: r => i.data :: dataL r
end
def kOk (s : List Nat) : Prop := s ≠ [] ∧ s.length ≤ 2 ∧ ∀ c ∈ s, c ∈ sgn
mutual
def It.ok : It → Prop
  | .key s => kOk s
  | .rep a => okL a
  | .cho a b => okL a ∧ okL b
def okL : List It → Prop
  | [] => True
  | i :: r => i.ok ∧ okL r
end
theorem keysL_app : ∀ a b : List It, keysL (a ++ b) = keysL a ++ keysL b
  | [], b => by simp [keysL]
  | i :: r, b => by simp [keysL, keysL_app r b]
mutual
theorem keys_sz : ∀ i : It, i.keys.length ≤ i.sz
  | .key s => by simp [It.keys, It.sz]
  | .rep a => by have := keysL_sz a; simp [It.keys, It.sz]; omega
  | .cho a b => by have := keysL_sz a; have := keysL_sz b; simp [It.keys, It.sz]; omega
theorem keysL_sz : ∀ a : List It, (keysL a).length ≤ szL a
  | [] => by simp [keysL]
  | i :: r => by have := keys_sz i; have := keysL_sz r; simp [keysL, szL]; omega
end
mutual
theorem reps_sz : ∀ i : It, i.reps ≤ i.sz
  | .key s => by simp [It.reps]
  | .rep a => by have := repsL_sz a; simp [It.reps, It.sz]; omega
  | .cho a b => by have := repsL_sz a; have := repsL_sz b; simp [It.reps, It.sz]; omega
theorem repsL_sz : ∀ a : List It, repsL a ≤ szL a
  | [] => by simp [repsL]
  | i :: r => by have := reps_sz i; have := repsL_sz r; simp [repsL, szL]; omega
end
mutual
theorem ok_keys : ∀ i : It, i.ok → ∀ k ∈ i.keys, kOk k
  | .key s, h, k, hk => by simp [It.keys] at hk; subst hk; exact h
  | .rep a, h, k, hk => okL_keys a h k hk
  | .cho a b, h, k, hk => by
    simp [It.keys] at hk
    rcases hk with hk | hk
    · exact okL_keys a h.1 k hk
    · exact okL_keys b h.2 k hk
theorem okL_keys : ∀ a : List It, okL a → ∀ k ∈ keysL a, kOk k
  | [], _, k, hk => by simp [keysL] at hk
  | i :: r, h, k, hk => by
    simp [keysL] at hk
    rcases hk with hk | hk
    · exact ok_keys i h.1 k hk
    · exact okL_keys r h.2 k hk
end
theorem strOk_sgn {s : List Nat} (h : ∀ c ∈ s, c ∈ sgn) : PyData.strOk (S s) = true := by
  have all : ∀ c ∈ sgn, c < 0x110000 := by decide
  unfold PyData.strOk
  simp [S]
  intro c hc
  exact all c (h c hc)
mutual
theorem lay_it : ∀ i : It, i.ok → PyData.canLay0 i.data = true
  | .key s, h => strOk_sgn h.2.2
  | .rep a, h => by
    show (PyData.canLay0 (.str (S [40])) && (PyData.canLay0 (.tuple (dataL a)) && true)) = true
    have e : PyData.canLay0 (.tuple (dataL a)) = true := lay_its a h
    rw [e]; decide +kernel
  | .cho a b, h => by
    show (PyData.canLay0 (.str (S [91])) && (PyData.canLay0 (.tuple (dataL a)) && (PyData.canLay0 (.tuple (dataL b)) && true))) = true
    have e : PyData.canLay0 (.tuple (dataL a)) = true := lay_its a h.1
    have e2 : PyData.canLay0 (.tuple (dataL b)) = true := lay_its b h.2
    rw [e, e2]; decide +kernel
theorem lay_its : ∀ a : List It, okL a → PyData.canLayAll0 (dataL a) = true
  | [], _ => rfl
  | i :: r, h => by
    show (PyData.canLay0 i.data && PyData.canLayAll0 (dataL r)) = true
    rw [lay_it i h.1, lay_its r h.2]; rfl
end
mutual
theorem dep_it : ∀ i : It, PyData.depth i.data ≤ 2 * i.dep
  | .key s => by simp [It.data, PyData.depth]
  | .rep a => by
    have := dep_its a
    show PyData.depthAll [.str (S [40]), .tuple (dataL a)] + 1 ≤ _
    show max (PyData.depth (.str (S [40]))) (max (PyData.depthAll (dataL a) + 1) 0) + 1 ≤ _
    have e : PyData.depth (.str (S [40])) = 0 := rfl
    simp [It.dep, e]; omega
  | .cho a b => by
    have := dep_its a
    have := dep_its b
    show max (PyData.depth (.str (S [91]))) (max (PyData.depthAll (dataL a) + 1) (max (PyData.depthAll (dataL b) + 1) 0)) + 1 ≤ _
    have e : PyData.depth (.str (S [91])) = 0 := rfl
    simp [It.dep, e]; omega
theorem dep_its : ∀ a : List It, PyData.depthAll (dataL a) ≤ 2 * depL a
  | [] => by simp [dataL, PyData.depthAll]
  | i :: r => by
    have := dep_it i
    have := dep_its r
    show max (PyData.depth i.data) (PyData.depthAll (dataL r)) ≤ _
    simp [depL]; omega
end
mutual
def Tr (H : Hp) : V → It → Prop
  | v, .key s => v = .str (S s)
  | v, .rep a => ∃ p q xs, v = .ref p ∧ H p = some (.tup [.str (S [40]), .ref q]) ∧ H q = some (.tup xs) ∧ Trs H xs a
  | v, .cho a b => ∃ p q r xs ys, v = .ref p ∧ H p = some (.tup [.str (S [91]), .ref q, .ref r]) ∧ H q = some (.tup xs) ∧ H r = some (.tup ys) ∧ Trs H xs a ∧ Trs H ys b
def Trs (H : Hp) : List V → List It → Prop
  | xs, [] => xs = []
  | xs, i :: r => ∃ v ys, xs = v :: ys ∧ Tr H v i ∧ Trs H ys r
end
def Tk (H H' : Hp) : Prop := ∀ a xs, H a = some (.tup xs) → H' a = some (.tup xs)
theorem Tk.refl {H : Hp} : Tk H H := fun _ _ h => h
theorem Tk.trans {H H1 H2 : Hp} (a : Tk H H1) (b : Tk H1 H2) : Tk H H2 := fun x u h => b x u (a x u h)
theorem Tk.same {H H' : Hp} (a : Same H H') : Tk H H' := fun x u h => a x _ h
theorem Tk.new {H H' : Hp} {p : Addr} {o : HO} (a : Tk H H') (h : H' p = none) : Tk H (upd H' p o) := fun x u q => by
  have q' := a x u q
  rw [upd_ne (ne_of_none q' h)]; exact q'
theorem Tk.lst {H H' : Hp} {p : Addr} {o : HO} {ys : List V} (a : Tk H H') (h : H' p = some (.lst ys)) : Tk H (upd H' p o) := fun x u q => by
  have q' := a x u q
  rw [upd_ne (ne_of q' h (by intro z; cases z))]; exact q'
theorem Tk.kp {H H' : Hp} {T : List Addr} (k : Kp T H H') (h : ∀ p ∈ T, ∃ ys, H p = some (.lst ys)) : Tk H H' := fun x u q => k x _ (fun m => by
  obtain ⟨ys, e⟩ := h x m
  rw [q] at e; cases e) q
mutual
theorem Tr.keep {H H' : Hp} (k : Tk H H') : ∀ {v : V} (i : It), Tr H v i → Tr H' v i
  | v, .key s, h => h
  | v, .rep a, h => by
    obtain ⟨p, q, xs, e, h1, h2, t⟩ := h
    exact ⟨p, q, xs, e, k _ _ h1, k _ _ h2, Trs.keep k a t⟩
  | v, .cho a b, h => by
    obtain ⟨p, q, r, xs, ys, e, h1, h2, h3, t, u⟩ := h
    exact ⟨p, q, r, xs, ys, e, k _ _ h1, k _ _ h2, k _ _ h3, Trs.keep k a t, Trs.keep k b u⟩
theorem Trs.keep {H H' : Hp} (k : Tk H H') : ∀ {xs : List V} (a : List It), Trs H xs a → Trs H' xs a
  | xs, [], h => h
  | xs, i :: r, h => by
    obtain ⟨v, ys, e, h1, h2⟩ := h
    exact ⟨v, ys, e, Tr.keep k i h1, Trs.keep k r h2⟩
end
theorem Trs.len {H : Hp} : ∀ {xs : List V} {a : List It}, Trs H xs a → xs.length = a.length
  | xs, [], h => by have e : xs = [] := h; simp [e]
  | xs, i :: r, h => by
    obtain ⟨v, ys, rfl, _, h2⟩ := h
    simp [Trs.len h2]
theorem Trs.app {H : Hp} : ∀ {xs ys : List V} {a b : List It}, Trs H xs a → Trs H ys b → Trs H (xs ++ ys) (a ++ b)
  | xs, ys, [], b, h, h' => by have e : xs = [] := h; subst e; exact h'
  | xs, ys, i :: r, b, h, h' => by
    obtain ⟨v, zs, rfl, h1, h2⟩ := h
    exact ⟨v, zs ++ ys, rfl, h1, Trs.app h2 h'⟩
theorem Trs.one {H : Hp} {v : V} {i : It} (h : Tr H v i) : Trs H [v] [i] := ⟨v, [], rfl, h, rfl⟩
theorem Trs.at {H : Hp} : ∀ {xs : List V} {a : List It} {j : Nat} {v : V}, Trs H xs a → xs[j]? = some v → ∃ i, a[j]? = some i ∧ Tr H v i
  | xs, [], j, v, h, e => by have e' : xs = [] := h; subst e'; simp at e
  | xs, i :: r, 0, v, h, e => by
    obtain ⟨v', ys, rfl, h1, h2⟩ := h
    simp at e
    subst e
    exact ⟨i, rfl, h1⟩
  | xs, i :: r, j + 1, v, h, e => by
    obtain ⟨v', ys, rfl, h1, h2⟩ := h
    simp at e
    obtain ⟨i', e1, t⟩ := Trs.at h2 e
    exact ⟨i', by simpa using e1, t⟩
mutual
theorem Tr.dp {K : PySem.W.Frag} {H : Hp} : ∀ {v : V} (i : It), Tr H v i → Dp K H v i.data
  | v, .key s, h => by have e : v = .str (S s) := h; subst e; exact .str _
  | v, .rep a, h => by
    obtain ⟨p, q, xs, rfl, h1, h2, t⟩ := h
    exact .tup (SqT.of h1) (.cons (.str _) (.cons (.tup (SqT.of h2) (Trs.dp a t)) .nil))
  | v, .cho a b, h => by
    obtain ⟨p, q, r, xs, ys, rfl, h1, h2, h3, t, u⟩ := h
    exact .tup (SqT.of h1) (.cons (.str _) (.cons (.tup (SqT.of h2) (Trs.dp a t)) (.cons (.tup (SqT.of h3) (Trs.dp b u)) .nil)))
theorem Trs.dp {K : PySem.W.Frag} {H : Hp} : ∀ {xs : List V} (a : List It), Trs H xs a → DpAll K H xs (dataL a)
  | xs, [], h => by have e : xs = [] := h; subst e; exact .nil
  | xs, i :: r, h => by
    obtain ⟨v, ys, rfl, h1, h2⟩ := h
    exact .cons (Tr.dp i h1) (Trs.dp r h2)
end
def ItsAt (H : Hp) (p : Addr) (a : List It) : Prop := ∃ xs, H p = some (.tup xs) ∧ Trs H xs a
theorem ItsAt.keep {H H' : Hp} {p : Addr} {a : List It} (k : Tk H H') (h : ItsAt H p a) : ItsAt H' p a := by
  obtain ⟨xs, e, t⟩ := h
  exact ⟨xs, k _ _ e, t.keep k⟩
theorem ItsAt.nil {H : Hp} {p : Addr} (h : H p = some (.tup [])) : ItsAt H p [] := ⟨[], h, rfl⟩
end Kr

set_option Elab.async false
set_option linter.all false
set_option maxRecDepth 100000
set_option maxHeartbeats 2000000
namespace Kr
open PySem PySem.Spec PyProof.Rows L2
open SX (S)
structure Grp where
  c : Nat
  o : List It
  f : Option (List It)
abbrev plk : List Nat := [62, 120, 119, 110, 36, 94, 109, 98, 107, 99, 112]
abbrev sgk : List Nat := [39, 61, 47]
abbrev brs : List Nat := [40, 91, 124, 93, 41]
abbrev ltr : List Nat := [97, 98, 99, 100, 101, 102, 103, 104, 105, 106, 107, 108, 109, 110, 111, 112, 113, 114, 115, 116, 117, 118, 119, 120, 121, 122]
def brk (c : Nat) (gs : List Grp) (its : List It) : Option (List Grp × List It) :=
  if c = 40 ∨ c = 91 then (if gs.length = 8 then none else some (⟨c, its, none⟩ :: gs, []))
  else match gs with
    | [] => none
    | g :: r =>
      if c = 41 ∧ g.c = 40 ∧ its.isEmpty = false then some (r, g.o ++ [.rep its])
      else if c = 124 ∧ g.c = 91 ∧ g.f.isNone = true ∧ its.isEmpty = false then some (⟨g.c, g.o, some its⟩ :: r, [])
      else if c = 93 ∧ g.c = 91 then match g.f with
        | some f => some (r, g.o ++ [.cho f its])
        | none => none
      else none
def kl (ca : Bool) : List Nat → Nat ⊕ Nat
  | [] => .inl 0
  | c :: t =>
    if c ∈ plk then .inr 1
    else if c ∈ sgk ∨ (ca = true ∧ c = 64) then match t with
      | [] => .inl 1
      | d :: _ => if d ∈ (if c = 64 then ltr else sgn) then .inr 2 else .inl 1
    else if c ∈ brs then .inr 0
    else .inl 0
def rd (ca : Bool) : Nat → Nat → List Nat → List Grp → List It → Nat ⊕ List It
  | _, i, [], gs, its => if gs.isEmpty then .inr its else .inl i
  | 0, i, _, _, _ => .inl i
  | n + 1, i, c :: t, gs, its => match kl ca (c :: t) with
    | .inl k => .inl (i + k)
    | .inr 0 => match brk c gs its with
      | none => .inl i
      | some (g2, i2) => rd ca n (i + 1) t g2 i2
    | .inr (k + 1) => rd ca n (i + (k + 1)) (t.drop k) gs (its ++ [.key (c :: t.take k)])
theorem rd_more (ca : Bool) : ∀ (n m i : Nat) (t : List Nat) (gs : List Grp) (its : List It), t.length ≤ n → t.length ≤ m → rd ca n i t gs its = rd ca m i t gs its
  | n, m, i, [], gs, its, _, _ => by cases n <;> cases m <;> simp [rd]
  | n + 1, m + 1, i, c :: t, gs, its, h1, h2 => by
    simp at h1 h2
    simp only [rd]
    split
    · rfl
    · split
      · rfl
      · exact rd_more ca n m _ _ _ _ (by omega) (by omega)
    · exact rd_more ca n m _ _ _ _ (by simp; omega) (by simp; omega)
def Gd : List Grp → Prop
  | [] => True
  | g :: r => r.length < 8 ∧ depL g.o + r.length ≤ 8 ∧ okL g.o ∧ (∀ f, g.f = some f → depL f + r.length + 1 ≤ 8 ∧ okL f) ∧ Gd r
def Gz : List Grp → Nat
  | [] => 0
  | g :: r => szL g.o + (match g.f with | some f => szL f | none => 0) + Gz r
structure RdOk (i : Nat) (gs : List Grp) (its : List It) : Prop where
  g : Gd gs
  d : depL its + gs.length ≤ 8
  o : okL its
  z : Gz gs + szL its ≤ i
def GrV (H : Hp) (v : V) (g : Grp) : Prop := ∃ (p q : Addr) (fv : V), v = .ref p ∧ H p = some (.tup [.str (S [g.c]), .ref q, fv]) ∧ ItsAt H q g.o ∧ (match g.f with | none => fv = .non | some f => ∃ r : Addr, fv = .ref r ∧ ItsAt H r f)
def Grs (H : Hp) : List V → List Grp → Prop
  | xs, [] => xs = []
  | xs, g :: r => ∃ ys v, xs = ys ++ [v] ∧ GrV H v g ∧ Grs H ys r
theorem GrV.keep {H H' : Hp} {v : V} {g : Grp} (k : Tk H H') (h : GrV H v g) : GrV H' v g := by
  obtain ⟨p, q, fv, e, h1, h2, h3⟩ := h
  refine ⟨p, q, fv, e, k _ _ h1, h2.keep k, ?_⟩
  split at h3
  · exact h3
  · obtain ⟨r, e, h⟩ := h3
    exact ⟨r, e, h.keep k⟩
theorem Grs.keep {H H' : Hp} (k : Tk H H') : ∀ {xs : List V} (gs : List Grp), Grs H xs gs → Grs H' xs gs
  | xs, [], h => h
  | xs, g :: r, h => by
    obtain ⟨ys, v, e, h1, h2⟩ := h
    exact ⟨ys, v, e, h1.keep k, Grs.keep k r h2⟩
theorem Grs.len {H : Hp} : ∀ {xs : List V} {gs : List Grp}, Grs H xs gs → xs.length = gs.length
  | xs, [], h => by have e : xs = [] := h; simp [e]
  | xs, g :: r, h => by
    obtain ⟨ys, v, rfl, _, h2⟩ := h
    simp [Grs.len h2]
def GrsAt (H : Hp) (p : Addr) (gs : List Grp) : Prop := ∃ xs, H p = some (.tup xs) ∧ Grs H xs gs
theorem GrsAt.keep {H H' : Hp} {p : Addr} {gs : List Grp} (k : Tk H H') (h : GrsAt H p gs) : GrsAt H' p gs := by
  obtain ⟨xs, e, t⟩ := h
  exact ⟨xs, k _ _ e, t.keep k⟩
theorem GrsAt.nil {H : Hp} {p : Addr} (h : H p = some (.tup [])) : GrsAt H p [] := ⟨[], h, rfl⟩
end Kr

set_option Elab.async false
set_option linter.all false
set_option maxRecDepth 100000
set_option maxHeartbeats 2000000
namespace Kr
open PySem PySem.Spec PyProof.Rows L2
open SX (S)
section
variable {X : Cx}
theorem sNew {H H' : Hp} {p : Addr} {o : HO} (a : Same H H') (h : H' p = none) : Same H (upd H' p o) := fun x u q => by
  have q' := a x u q
  rw [upd_ne (ne_of_none q' h)]; exact q'
theorem sMut {H H' : Hp} {p : Addr} {o : HO} (a : Same H H') (h : H p = none) : Same H (upd H' p o) := fun x u q => by
  rw [upd_ne (ne_of_none q h)]; exact a x u q
theorem ix_tupK {K : PySem.W.Frag} (h : X.K = K) : IxR X (rIxT K) := by
  subst h
  exact ix_tup
end
end Kr

set_option Elab.async false
set_option linter.all false
set_option maxRecDepth 100000
set_option maxHeartbeats 2000000
namespace Kr
open PySem PySem.Spec PyProof.Rows L2
section
variable {X : Cx} {k j : Nat} {C : Addr} {m : Str} {sp : Sp}
theorem runSp {A : Around} {E' : Value → Shared → Prop} {pins : List (Addr × Obj)} {σ : L2.St} {H : Hp} {s : Shared} {Q : VK} {us : List Value} {vs : List V} {f : Addr} {fd : FuncData} {ps : List Str} (F : FnOk X.prog X.w X.K X.mg X.base (CX X.prog X.w) k f fd ps sp) (hr : Room k A) (he : Env0 X.prog X.w X.K X.mg X.base A X.stack s H) (hb : Binds X.K fd ps [])
    (I : Inv X pins σ H s) (r : Vals vs us) (h : sp vs H Q E0) : wpAny (model X.prog X.w) A (call (.ref f) us) (EP X pins σ Q) E' s := by
  have hl : (us ++ []).length = ps.length := by rw [List.append_nil, ← r.length]; exact F.len _ _ _ _ h
  refine wpAny_call (codeAny_mono (F.run A X.stack s H ⟨us, []⟩ (us ++ []) vs Q E0 hr he (hb s us I.kIn hl) (by rw [List.append_nil]; exact r) h) fun r s' hq => ?_)
  cases r with
  | error e => exact False.elim (passL (X := X.nox) pins σ H s e s' (I.wish _) hq)
  | ok fl =>
    cases fl with
    | ret u => exact I.after hq
    | next => exact False.elim hq
    | brk => exact False.elim hq
    | cont => exact False.elim hq
def rStrO (C : Addr) (sp : Sp) : List V → Hp → VK → Prop := fun xs H Q => ∃ a dx fs, xs = [.ref a] ∧ H a = some (.ins C dx fs) ∧ sp [.ref a] H (fun v H' => ∃ x, v = .str x ∧ Q (.str x) H') E0
@[irreducible] def rStrR (C : Addr) (sp : Sp) : List V → Hp → VK → Prop := fun xs H Q => (∃ a : List Nat, xs = [.str (SX.S a)] ∧ Q (.str (SX.S a)) H) ∨ rStrO C sp xs H Q
theorem walk_S {a : List Nat} : Walk (Its (SX.S a)) a.length (fun _ => True) (fun i H x H' => H' = H ∧ ∃ c, a[i]? = some c ∧ x = .str (SX.S [c])) :=
  ⟨fun i _ hi _ => by show i < _; simpa [SX.S] using hi, fun _ _ => by show _ ≤ a.length; simp [SX.S], fun i H x H' hi _ y => by
    obtain ⟨e, c, h1, h2⟩ := y
    refine ⟨e, c, ?_, h2⟩
    simpa [SX.S] using h1⟩
end
end Kr

set_option Elab.async false
set_option linter.all false
set_option maxRecDepth 100000
set_option maxHeartbeats 2000000
namespace Kr
open PySem PySem.Spec PyProof.Rows L2
open SX (S)
def Lead (n : List Nat) (gs : List Grp) (its : List It) : Prop := ∀ t, rd false (n ++ t).length 0 (n ++ t) [] [] = rd false t.length n.length t gs its
theorem Lead.step {n k : List Nat} {gs g2 : List Grp} {its i2 : List It} (h : Lead n gs its) (e : ∀ t, rd false (k ++ t).length n.length (k ++ t) gs its = rd false t.length (n.length + k.length) t g2 i2) : Lead (n ++ k) g2 i2 := fun t => by
  rw [List.append_assoc, h (k ++ t), e t, List.length_append]
theorem kl_brs0 {c : Nat} (t : List Nat) (h : c ∈ brs) : kl false (c :: t) = .inr 0 := by
  have all : ∀ c ∈ brs, c ∉ plk ∧ c ∉ sgk := by decide
  obtain ⟨h1, h2⟩ := all c h
  simp only [kl, if_neg h1]
  rw [if_neg (by simp; simpa using h2), if_pos h]
theorem Lead.bracket {n : List Nat} {c : Nat} {gs g2 : List Grp} {its i2 : List It} (h : Lead n gs its) (hc : c ∈ brs) (hb : brk c gs its = some (g2, i2)) : Lead (n ++ [c]) g2 i2 := h.step fun t => by
  show rd false (t.length + 1) n.length (c :: t) gs its = _
  simp only [rd, kl_brs0 t hc, hb]
  rfl
def wKey (k : List Nat) : Prop := (∃ c, c ∈ plk ∧ k = [c]) ∨ ∃ c d, c ∈ sgk ∧ d ∈ sgn ∧ k = [c, d]
theorem wKey.ok {k : List Nat} (h : wKey k) : kOk k := by
  have p1 : ∀ x ∈ plk, x ∈ sgn := by decide
  have p2 : ∀ x ∈ sgk, x ∈ sgn := by decide
  rcases h with ⟨c, hc, rfl⟩ | ⟨c, d, hc, hd, rfl⟩
  · exact ⟨by simp, by simp, by simp; exact p1 c hc⟩
  · exact ⟨by simp, by simp, by simp; exact ⟨p2 c hc, hd⟩⟩
theorem Lead.key {n k : List Nat} {gs : List Grp} {its : List It} (h : Lead n gs its) (hk : wKey k) : Lead (n ++ k) gs (its ++ [.key k]) := h.step fun t => by
  rcases hk with ⟨c, hc, rfl⟩ | ⟨c, d, hc, hd, rfl⟩
  · show rd false (t.length + 1) n.length (c :: t) gs its = _
    have e : kl false (c :: t) = .inr (0 + 1) := by simp only [kl, if_pos hc]
    simp only [rd, e]
    simp
  · show rd false (t.length + 1 + 1) n.length (c :: d :: t) gs its = _
    have a1 : ∀ c ∈ sgk, c ∉ plk ∧ c ≠ 64 := by decide
    obtain ⟨h1, h2⟩ := a1 c hc
    have e : kl false (c :: d :: t) = .inr (1 + 1) := by
      simp only [kl, if_neg h1]
      rw [if_pos (.inl hc), if_neg h2, if_pos hd]
    simp only [rd, e]
    simp
    exact rd_more false _ _ _ _ _ _ (by omega) (by omega)
def Grp.mk' (g : Grp) : Nat := if g.c = 40 then 40 else if g.f.isNone then 91 else 124
def Gw : List Grp → Prop
  | [] => True
  | g :: r => ((g.c = 40 ∧ g.f = none) ∨ g.c = 91) ∧ Gw r
def Gk : List Grp → Nat
  | [] => 0
  | g :: r => (keysL g.o).length + (match g.f with | some f => (keysL f).length | none => 0) + Gk r
structure Mk (n : List Nat) (gs : List Grp) (its : List It) (k : Nat) : Prop where
  ld : Lead n gs its
  w : Gw gs
  k : Gk gs + (keysL its).length = k
  s : ∀ c ∈ n, c ∈ sgn
theorem Mk.key {n kk : List Nat} {gs : List Grp} {its : List It} {k : Nat} (h : Mk n gs its k) (hk : wKey kk) : Mk (n ++ kk) gs (its ++ [.key kk]) (k + 1) := by
  refine ⟨h.ld.key hk, h.w, ?_, fun c hc => ?_⟩
  · rw [keysL_app, keysL_one']
    have := h.k
    simp [It.keys]; omega
  · rcases List.mem_append.mp hc with hc | hc
    · exact h.s c hc
    · exact hk.ok.2.2 c hc
where
  keysL_one' {i : It} : keysL [i] = i.keys := by simp [keysL]
theorem keysOne (i : It) : keysL [i] = i.keys := by simp [keysL]
theorem sgn_app {n : List Nat} {c : Nat} (h : ∀ x ∈ n, x ∈ sgn) (hc : c ∈ sgn) : ∀ x ∈ n ++ [c], x ∈ sgn := fun x hx => by
  rcases List.mem_append.mp hx with hx | hx
  · exact h x hx
  · simp at hx; subst hx; exact hc
theorem Mk.rep {n : List Nat} {g : Grp} {r : List Grp} {its : List It} {k : Nat} (h : Mk n (g :: r) its k) (hm : g.mk' = 40) (hi : its ≠ []) : Mk (n ++ [41]) r (g.o ++ [.rep its]) k := by
  have hg : g.c = 40 := by
    unfold Grp.mk' at hm
    split at hm
    · assumption
    · split at hm <;> cases hm
  have hf : g.f = none := by
    rcases h.w.1 with h1 | h1
    · exact h1.2
    · rw [hg] at h1; cases h1
  have hie : its.isEmpty = false := by cases its with | nil => exact absurd rfl hi | cons => rfl
  refine ⟨h.ld.bracket (by decide) (by unfold brk; rw [if_neg (by decide)]; simp only; rw [if_pos ⟨trivial, hg, hie⟩]), h.w.2, ?_, sgn_app h.s (by decide)⟩
  have := h.k
  simp only [Gk, hf] at this
  rw [keysL_app, keysOne]
  simp [It.keys]; omega
theorem Mk.cho {n : List Nat} {g : Grp} {r : List Grp} {its : List It} {k : Nat} (h : Mk n (g :: r) its k) (hm : g.mk' = 124) : ∃ f, g.f = some f ∧ Mk (n ++ [93]) r (g.o ++ [.cho f its]) k := by
  have hg : g.c = 91 := by
    rcases h.w.1 with h1 | h1
    · unfold Grp.mk' at hm; rw [if_pos h1.1] at hm; cases hm
    · exact h1
  cases hf : g.f with
  | none =>
    unfold Grp.mk' at hm
    rw [if_neg (by rw [hg]; decide), hf] at hm
    cases hm
  | some f =>
    refine ⟨f, rfl, h.ld.bracket (by decide) ?_, h.w.2, ?_, sgn_app h.s (by decide)⟩
    · unfold brk
      rw [if_neg (by decide)]
      simp only
      rw [if_neg (by intro z; cases z.1), if_neg (by intro z; cases z.1), if_pos ⟨trivial, hg⟩, hf]
    · have := h.k
      simp only [Gk, hf] at this
      rw [keysL_app, keysOne]
      simp [It.keys]; omega
abbrev tV (k : List Nat) : V := .str (S k)
end Kr

set_option Elab.async false
set_option linter.all false
set_option maxRecDepth 100000
set_option maxHeartbeats 2000000
namespace Kr
open PySem PySem.Spec PyProof.Rows L2
open SX (S)
mutual
def LTr (F : List Addr) (H : Hp) : V → It → Prop
  | v, .key s => v = tV s
  | v, .rep a => ∃ p e q xs, v = .ref p ∧ H p = some (.tup [tV [41], .ref e, .ref q]) ∧ e ∈ F ∧ H e = some (.lst []) ∧ q ∈ F ∧ H q = some (.lst xs) ∧ LTrs F H xs a
  | v, .cho a b => ∃ p q r xs ys, v = .ref p ∧ H p = some (.tup [tV [93], .ref q, .ref r]) ∧ q ∈ F ∧ H q = some (.lst xs) ∧ r ∈ F ∧ H r = some (.lst ys) ∧ LTrs F H xs a ∧ LTrs F H ys b
def LTrs (F : List Addr) (H : Hp) : List V → List It → Prop
  | xs, [] => xs = []
  | xs, i :: r => ∃ v ys, xs = v :: ys ∧ LTr F H v i ∧ LTrs F H ys r
end
structure Kl (L : List Addr) (H H' : Hp) : Prop where
  l : ∀ a ∈ L, ∀ o, H a = some o → H' a = some o
  t : Tk H H'
theorem Kl.refl {L : List Addr} {H : Hp} : Kl L H H := ⟨fun _ _ _ h => h, Tk.refl⟩
theorem Kl.trans {L : List Addr} {H H1 H2 : Hp} (a : Kl L H H1) (b : Kl L H1 H2) : Kl L H H2 := ⟨fun x hx o h => b.l x hx o (a.l x hx o h), a.t.trans b.t⟩
theorem Kl.same {L : List Addr} {H H' : Hp} (s : Same H H') : Kl L H H' := ⟨fun a _ o h => s a o h, Tk.same s⟩
theorem Kl.sub {L L' : List Addr} {H H' : Hp} (k : Kl L H H') (h : ∀ a ∈ L', a ∈ L) : Kl L' H H' := ⟨fun a ha o e => k.l a (h a ha) o e, k.t⟩
theorem Kl.new {L : List Addr} {H H' : Hp} {p : Addr} {o : HO} (k : Kl L H H') (h : H' p = none) : Kl L H (upd H' p o) := k.trans (Kl.same (sNew (Same.refl _) h))
theorem Kl.mut {L : List Addr} {H H' : Hp} {p : Addr} {o : HO} {ys : List V} (k : Kl L H H') (h : H' p = some (.lst ys)) (hp : p ∉ L) : Kl L H (upd H' p o) :=
  k.trans ⟨fun a ha o e => by
    have n : a ≠ p := fun z => hp (z ▸ ha)
    rw [upd_ne n]; exact e, Tk.refl.lst h⟩
mutual
theorem LTr.keep {F F' : List Addr} {H H' : Hp} (k : Kl F H H') (hF : ∀ a ∈ F, a ∈ F') : ∀ {v : V} (i : It), LTr F H v i → LTr F' H' v i
  | v, .key s, h => h
  | v, .rep a, h => by
    obtain ⟨p, e, q, xs, ev, h1, f1, h2, f2, h3, t⟩ := h
    exact ⟨p, e, q, xs, ev, k.t _ _ h1, hF _ f1, k.l _ f1 _ h2, hF _ f2, k.l _ f2 _ h3, LTrs.keep k hF a t⟩
  | v, .cho a b, h => by
    obtain ⟨p, q, r, xs, ys, ev, h1, f1, h2, f2, h3, t, u⟩ := h
    exact ⟨p, q, r, xs, ys, ev, k.t _ _ h1, hF _ f1, k.l _ f1 _ h2, hF _ f2, k.l _ f2 _ h3, LTrs.keep k hF a t, LTrs.keep k hF b u⟩
theorem LTrs.keep {F F' : List Addr} {H H' : Hp} (k : Kl F H H') (hF : ∀ a ∈ F, a ∈ F') : ∀ {xs : List V} (a : List It), LTrs F H xs a → LTrs F' H' xs a
  | xs, [], h => h
  | xs, i :: r, h => by
    obtain ⟨v, ys, e, h1, h2⟩ := h
    exact ⟨v, ys, e, LTr.keep k hF i h1, LTrs.keep k hF r h2⟩
end
theorem LTrs.len {F : List Addr} {H : Hp} : ∀ {xs : List V} {a : List It}, LTrs F H xs a → xs.length = a.length
  | xs, [], h => by have e : xs = [] := h; simp [e]
  | xs, i :: r, h => by
    obtain ⟨v, ys, rfl, _, h2⟩ := h
    simp [LTrs.len h2]
theorem LTrs.app {F : List Addr} {H : Hp} : ∀ {xs ys : List V} {a b : List It}, LTrs F H xs a → LTrs F H ys b → LTrs F H (xs ++ ys) (a ++ b)
  | xs, ys, [], b, h, h' => by have e : xs = [] := h; subst e; exact h'
  | xs, ys, i :: r, b, h, h' => by
    obtain ⟨v, zs, rfl, h1, h2⟩ := h
    exact ⟨v, zs ++ ys, rfl, h1, LTrs.app h2 h'⟩
theorem LTrs.one {F : List Addr} {H : Hp} {v : V} {i : It} (h : LTr F H v i) : LTrs F H [v] [i] := ⟨v, [], rfl, h, rfl⟩
theorem LTrs.at {F : List Addr} {H : Hp} : ∀ {xs : List V} {a : List It} {j : Nat} {v : V}, LTrs F H xs a → xs[j]? = some v → ∃ i, a[j]? = some i ∧ LTr F H v i
  | xs, [], j, v, h, e => by have e' : xs = [] := h; subst e'; simp at e
  | xs, i :: r, 0, v, h, e => by
    obtain ⟨v', ys, rfl, h1, h2⟩ := h
    simp at e
    subst e
    exact ⟨i, rfl, h1⟩
  | xs, i :: r, j + 1, v, h, e => by
    obtain ⟨v', ys, rfl, h1, h2⟩ := h
    simp at e
    obtain ⟨i', e1, t⟩ := LTrs.at h2 e
    exact ⟨i', by simpa using e1, t⟩
def LtAt (H : Hp) (p : Addr) (a : List It) : Prop := ∃ F xs, H p = some (.lst xs) ∧ LTrs F H xs a
theorem LtAt.same {H H' : Hp} {p : Addr} {a : List It} (s : Same H H') (h : LtAt H p a) : LtAt H' p a := by
  obtain ⟨F, xs, e, t⟩ := h
  exact ⟨F, xs, s _ _ e, t.keep (Kl.same s) (fun _ h => h)⟩
def LG (F : List Addr) (H : Hp) : List V → List Grp → List Addr → Prop
  | xs, [], M => xs = [] ∧ M = []
  | xs, g :: r, M => ∃ ys sp out fst zs M', xs = ys ++ [.ref sp] ∧ M = sp :: out :: M' ∧ H sp = some (.lst [tV [g.c], .ref out, .ref fst]) ∧ H out = some (.lst zs) ∧ LTrs F H zs g.o ∧ fst ∈ F ∧
      (match g.f with | none => H fst = some (.lst []) | some f => ∃ ws, H fst = some (.lst ws) ∧ LTrs F H ws f) ∧ LG F H ys r M'
theorem LG.keep {F F' : List Addr} {H H' : Hp} (hF : ∀ a ∈ F, a ∈ F') : ∀ {xs : List V} {M : List Addr} (gs : List Grp), Kl (M ++ F) H H' → LG F H xs gs M → LG F' H' xs gs M
  | xs, M, [], k, h => h
  | xs, M, g :: r, k, h => by
    obtain ⟨ys, sp, out, fst, zs, M', e1, rfl, h1, h2, t, f1, h3, hr⟩ := h
    have kF : Kl F H H' := k.sub (by intro a ha; simp [ha])
    refine ⟨ys, sp, out, fst, zs, M', e1, rfl, k.l _ (by simp) _ h1, k.l _ (by simp) _ h2, t.keep kF hF, hF _ f1, ?_, LG.keep hF r (k.sub (by intro a ha; simp at ha ⊢; rcases ha with h | h <;> simp [h])) hr⟩
    split at h3
    · exact kF.l _ f1 _ h3
    · obtain ⟨ws, e, u⟩ := h3
      exact ⟨ws, kF.l _ f1 _ e, u.keep kF hF⟩
theorem LG.len {F : List Addr} {H : Hp} : ∀ {xs : List V} {gs : List Grp} {M : List Addr}, LG F H xs gs M → xs.length = gs.length
  | xs, [], M, h => by simp [h.1]
  | xs, g :: r, M, h => by
    obtain ⟨ys, sp, out, fst, zs, M', rfl, _, _, _, _, _, _, hr⟩ := h
    simp [LG.len hr]
structure LS (H0 H : Hp) (F M : List Addr) (st cu : Addr) (gs : List Grp) (cur : List It) : Prop where
  nd : (st :: cu :: M).Nodup
  dj : ∀ a ∈ st :: cu :: M, a ∉ F
  nw : ∀ a, a ∈ st :: cu :: M ∨ a ∈ F → H0 a = none
  ex : ∀ a, a ∈ st :: cu :: M ∨ a ∈ F → ∃ o, H a = some o
  s : Same H0 H
  hs : ∃ xs, H st = some (.lst xs) ∧ LG F H xs gs M
  hc : ∃ xs, H cu = some (.lst xs) ∧ LTrs F H xs cur
theorem upd_ex {H : Hp} {p : Addr} {o : HO} {a : Addr} (h : ∃ u, H a = some u) : ∃ u, upd H p o a = some u := by
  by_cases e : a = p
  · exact ⟨o, by rw [e, upd_same]⟩
  · obtain ⟨u, h⟩ := h
    exact ⟨u, by rw [upd_ne e]; exact h⟩
section
variable {H0 H : Hp} {F M : List Addr} {st cu : Addr} {gs : List Grp} {cur : List It}
theorem LS.app {xs : List V} {v : V} {it : It} (L : LS H0 H F M st cu gs cur) (hx : H cu = some (.lst xs)) (hv : LTr F H v it) : LS H0 (upd H cu (.lst (xs ++ [v]))) F M st cu gs (cur ++ [it]) := by
  obtain ⟨nd, dj, nw, ex, s, ⟨ys, hs, lg⟩, ⟨zs, hc, lt⟩⟩ := L
  rw [hx] at hc
  cases hc
  have n1 : st ≠ cu := by simp at nd; exact fun z => nd.1.1 z
  have n2 : cu ∉ M := by simp at nd; exact nd.2.1
  have n3 : cu ∉ F := dj cu (by simp)
  have kF : Kl F H (upd H cu (.lst (xs ++ [v]))) := Kl.refl.mut hx n3
  refine ⟨nd, dj, nw, fun a ha => upd_ex (ex a ha), sMut s (nw cu (by simp)), ⟨ys, by rw [upd_ne n1]; exact hs, lg.keep (fun _ h => h) gs (Kl.refl.mut hx (by simp [n2, n3]))⟩, ⟨_, upd_same, LTrs.app (lt.keep kF fun _ h => h) (LTrs.one (hv.keep kF (fun _ h => h) it))⟩⟩
theorem LS.top {g : Grp} {r : List Grp} (L : LS H0 H F M st cu (g :: r) cur) : ∃ ys sp out fst zs, H st = some (.lst (ys ++ [.ref sp])) ∧ H sp = some (.lst [tV [g.c], .ref out, .ref fst]) ∧ H out = some (.lst zs) ∧ zs.length = g.o.length ∧ ys.length = r.length := by
  obtain ⟨xs, hs, ys, sp, out, fst, zs, M', rfl, rfl, h1, h2, t, f1, h3, hr⟩ := L.hs
  exact ⟨ys, sp, out, fst, zs, hs, h1, h2, t.len, hr.len⟩
theorem app1_inj {α : Type} {a b : List α} {x y : α} (h : a ++ [x] = b ++ [y]) : a = b ∧ x = y := by
  have := List.append_inj' h rfl
  simpa using this
theorem LS.cls {g : Grp} {r : List Grp} {ys zs : List V} {sp out fst tp : Addr} {x : Nat} {it : It} (L : LS H0 H F M st cu (g :: r) cur) (hst : H st = some (.lst (ys ++ [.ref sp]))) (hsp : H sp = some (.lst [tV [g.c], .ref out, .ref fst])) (hout : H out = some (.lst zs)) (h2 : upd H st (.lst ys) tp = none)
    (hit : (x = 41 ∧ g.f = none ∧ it = .rep cur) ∨ (x = 93 ∧ ∃ f, g.f = some f ∧ it = .cho f cur)) :
    ∃ M', LS H0 (upd (upd (upd H st (.lst ys)) tp (.tup [tV [x], .ref fst, .ref cu])) out (.lst (zs ++ [.ref tp]))) (cu :: F) M' st out r (g.o ++ [it]) := by
  obtain ⟨nd, dj, nw, ex, s, ⟨xs, hs, lg⟩, ⟨ws, hc, lt⟩⟩ := L
  obtain ⟨ys', sp', out', fst', zs', M', e1, rfl, g1, g2, t, f1, g3, hr⟩ := lg
  rw [e1, hst] at hs
  have hs' : ys ++ [V.ref sp] = ys' ++ [.ref sp'] := by injection hs with hs; injection hs
  obtain ⟨rfl, e2⟩ := app1_inj hs'
  cases e2
  rw [hsp] at g1
  cases g1
  rw [hout] at g2
  cases g2
  subst e1
  have n_t_st : tp ≠ st := fun z => by rw [z, upd_same] at h2; cases h2
  have h2' : H tp = none := by rw [upd_ne n_t_st] at h2; exact h2
  have nA : ∀ a, a ∈ st :: cu :: sp :: out :: M' ∨ a ∈ F → a ≠ tp := fun a ha => by
    obtain ⟨o, e⟩ := ex a ha
    exact ne_of_none e h2'
  obtain ⟨d1, d2⟩ := List.nodup_cons.mp nd
  obtain ⟨d3, d4⟩ := List.nodup_cons.mp d2
  obtain ⟨d5, d6⟩ := List.nodup_cons.mp d4
  obtain ⟨d7, d8⟩ := List.nodup_cons.mp d6
  have n_st_out : st ≠ out := fun z => d1 (by simp [z])
  have n_cu_out : cu ≠ out := fun z => d3 (by simp [z])
  have n_out_tp : out ≠ tp := nA out (by simp)
  have outF : out ∉ F := dj out (by simp)
  have hout2 : upd (upd H st (.lst ys)) tp (.tup [tV [x], .ref fst, .ref cu]) out = some (.lst zs) := by rw [upd_ne n_out_tp, upd_ne n_st_out.symm]; exact hout
  have kk : Kl (cu :: M' ++ F) H (upd (upd (upd H st (.lst ys)) tp (.tup [tV [x], .ref fst, .ref cu])) out (.lst (zs ++ [.ref tp]))) := by
    refine ((Kl.refl.mut hst ?_).new h2).mut hout2 ?_
    · intro m
      simp only [List.cons_append, List.mem_cons, List.mem_append] at m
      rcases m with m | m | m
      · exact d1 (by simp [m])
      · exact d1 (by simp [m])
      · exact dj st (by simp) m
    · intro m
      simp only [List.cons_append, List.mem_cons, List.mem_append] at m
      rcases m with m | m | m
      · exact n_cu_out m.symm
      · exact d7 m
      · exact outF m
  have kF := kk.sub (L' := F) (by intro a ha; simp [ha])
  have hF : ∀ a ∈ F, a ∈ cu :: F := fun a ha => by simp [ha]
  have htp : upd (upd (upd H st (.lst ys)) tp (.tup [tV [x], .ref fst, .ref cu])) out (.lst (zs ++ [.ref tp])) tp = some (.tup [tV [x], .ref fst, .ref cu]) := by rw [upd_ne n_out_tp.symm, upd_same]
  refine ⟨M', ?_, ?_, ?_, ?_, ?_, ⟨_, by rw [upd_ne n_st_out, upd_ne n_t_st.symm, upd_same], hr.keep hF r (kk.sub (by intro a ha; simp at ha ⊢; rcases ha with h | h <;> simp [h]))⟩, ⟨_, upd_same, LTrs.app (t.keep kF hF) (LTrs.one ?_)⟩⟩
  · refine List.nodup_cons.mpr ⟨?_, List.nodup_cons.mpr ⟨d7, d8⟩⟩
    intro m
    rcases List.mem_cons.mp m with m | m
    · exact n_st_out m
    · exact d1 (by simp [m])
  · intro a ha m
    simp only [List.mem_cons] at ha m
    rcases m with rfl | m
    · rcases ha with e | e | e
      · exact d1 (by simp [e])
      · exact n_cu_out e
      · exact d3 (by simp [e])
    · rcases ha with e | e | e
      · exact dj a (by simp [e]) m
      · exact dj a (by simp [e]) m
      · exact dj a (by simp [e]) m
  · intro a ha
    simp only [List.mem_cons] at ha
    rcases ha with (e | e | e) | e | e
    · exact nw a (by simp [e])
    · exact nw a (by simp [e])
    · exact nw a (by simp [e])
    · exact nw a (by simp [e])
    · exact nw a (.inr e)
  · intro a ha
    simp only [List.mem_cons] at ha
    rcases ha with (e | e | e) | e | e
    · exact upd_ex (upd_ex (upd_ex (ex a (by simp [e]))))
    · exact upd_ex (upd_ex (upd_ex (ex a (by simp [e]))))
    · exact upd_ex (upd_ex (upd_ex (ex a (by simp [e]))))
    · exact upd_ex (upd_ex (upd_ex (ex a (by simp [e]))))
    · exact upd_ex (upd_ex (upd_ex (ex a (.inr e))))
  · exact sMut (sNew (sMut s (nw st (by simp))) h2) (nw out (by simp))
  · have hcu := kk.l cu (by simp) _ hc
    rcases hit with ⟨rfl, ef, rfl⟩ | ⟨rfl, f', ef, rfl⟩
    · rw [ef] at g3
      exact ⟨tp, fst, cu, ws, rfl, htp, hF _ f1, kF.l _ f1 _ g3, by simp, hcu, lt.keep kF hF⟩
    · rw [ef] at g3
      obtain ⟨vs, g4, g5⟩ := g3
      exact ⟨tp, fst, cu, vs, ws, rfl, htp, hF _ f1, kF.l _ f1 _ g4, by simp, hcu, g5.keep kF hF, lt.keep kF hF⟩
end
mutual
theorem LTr.dp {K : PySem.W.Frag} {F : List Addr} {H : Hp} : ∀ {v : V} (i : It), LTr F H v i → i.ok → ∃ d, Dp K H v d ∧ PyData.canLay0 d = true ∧ PyData.depth d ≤ 2 * i.dep
  | v, .key s, h, o => by
    have e : v = tV s := h
    subst e
    exact ⟨.str (S s), .str _, strOk_sgn o.2.2, by simp [PyData.depth]⟩
  | v, .rep a, h, o => by
    obtain ⟨p, e, q, xs, rfl, h1, _, h2, _, h3, t⟩ := h
    obtain ⟨ds, hd, hl, hc, hz⟩ := LTrs.dp (K := K) a t o
    refine ⟨.tuple [.str (S [41]), .list [], .list ds], .tup (SqT.of h1) (.cons (.str _) (.cons (.lst (SqL.of h2) .nil) (.cons (.lst (SqL.of h3) hd) .nil))), ?_, ?_⟩
    · show (PyData.canLay0 (.str (S [41])) && (PyData.canLay0 (.list []) && (PyData.canLayAll0 ds && true))) = true
      rw [hc]; decide +kernel
    · show max (PyData.depth (.str (S [41]))) (max (PyData.depthAll [] + 1) (max (PyData.depthAll ds + 1) 0)) + 1 ≤ _
      have e : PyData.depth (.str (S [41])) = 0 := rfl
      have e2 : PyData.depthAll [] = 0 := rfl
      simp [It.dep, e, e2]; omega
  | v, .cho a b, h, o => by
    obtain ⟨p, q, r, xs, ys, rfl, h1, _, h2, _, h3, t, u⟩ := h
    obtain ⟨ds, hd, hl, hc, hz⟩ := LTrs.dp (K := K) a t o.1
    obtain ⟨es, he, hl2, hc2, hz2⟩ := LTrs.dp (K := K) b u o.2
    refine ⟨.tuple [.str (S [93]), .list ds, .list es], .tup (SqT.of h1) (.cons (.str _) (.cons (.lst (SqL.of h2) hd) (.cons (.lst (SqL.of h3) he) .nil))), ?_, ?_⟩
    · show (PyData.canLay0 (.str (S [93])) && (PyData.canLayAll0 ds && (PyData.canLayAll0 es && true))) = true
      rw [hc, hc2]; decide +kernel
    · show max (PyData.depth (.str (S [93]))) (max (PyData.depthAll ds + 1) (max (PyData.depthAll es + 1) 0)) + 1 ≤ _
      have e : PyData.depth (.str (S [93])) = 0 := rfl
      simp [It.dep, e]; omega
theorem LTrs.dp {K : PySem.W.Frag} {F : List Addr} {H : Hp} : ∀ {xs : List V} (a : List It), LTrs F H xs a → okL a → ∃ ds, DpAll K H xs ds ∧ ds.length = a.length ∧ PyData.canLayAll0 ds = true ∧ PyData.depthAll ds ≤ 2 * depL a
  | xs, [], h, o => by
    have e : xs = [] := h
    subst e
    exact ⟨[], .nil, rfl, rfl, by simp [PyData.depthAll]⟩
  | xs, i :: r, h, o => by
    obtain ⟨v, ys, rfl, h1, h2⟩ := h
    obtain ⟨d, hd, hc, hz⟩ := LTr.dp (K := K) i h1 o.1
    obtain ⟨ds, hds, hl, hcs, hzs⟩ := LTrs.dp (K := K) r h2 o.2
    refine ⟨d :: ds, .cons hd hds, by simp [hl], ?_, ?_⟩
    · show (PyData.canLay0 d && PyData.canLayAll0 ds) = true
      rw [hc, hcs]; rfl
    · show max (PyData.depth d) (PyData.depthAll ds) ≤ _
      simp [depL]; omega
end
theorem LtAt.dp {K : PySem.W.Frag} {H : Hp} {p : Addr} {a : List It} (h : LtAt H p a) (o : okL a) (hd : depL a ≤ 30) : ∃ ds, Dp K H (.ref p) (.list ds) ∧ SeqAt.shaped (.list ds) = true ∧ ds.isEmpty = a.isEmpty := by
  obtain ⟨F, xs, e, t⟩ := h
  obtain ⟨ds, h1, h2, h3, h4⟩ := t.dp (K := K) a o
  refine ⟨ds, .lst (SqL.of e) h1, ?_, ?_⟩
  · unfold SeqAt.shaped
    rw [Bool.and_eq_true]
    refine ⟨h3, decide_eq_true ?_⟩
    show PyData.depthAll ds + 1 ≤ 64
    omega
  · cases ds <;> cases a <;> simp at h2 <;> rfl
end Kr

set_option Elab.async false
set_option linter.all false
set_option maxRecDepth 100000
set_option maxHeartbeats 2000000
namespace PySem
open Sem (wp)
open AutoSeq1 (wpAny_loadPart')
section
variable {prog : Program} {w : World} {A : Around} {E : Value → Shared → Prop} {s : Shared}
end
end PySem
namespace L2
open PySem PySem.Spec PyProof.Rows
end L2

set_option Elab.async false
set_option linter.all false
set_option maxRecDepth 100000
set_option maxHeartbeats 2000000
namespace Kr
open PySem PySem.Spec PyProof.Rows L2
open SX (S)
abbrev Tg := Nat × Int
structure Row where
  k : List Nat
  s : List Nat
  o : Tg
  f : Tg
mutual
def It.lay : It → Nat → Nat → Tg → Tg → List Row
  | .key s, _, _, af, fa => [⟨s.take 1, s.drop 1, af, fa⟩]
  | .rep a, nu, re, af, _ => layL a nu (re + 1) (nu, re) af
  | .cho a b, nu, re, af, fa => layL a nu re af (if b.isEmpty then af else (nu + (keysL a).length, -1)) ++ layL b (nu + (keysL a).length) (re + repsL a) af fa
def layL : List It → Nat → Nat → Tg → Tg → List Row
  | [], _, _, _, _ => []
  | i :: r, nu, re, on, fa => i.lay nu re (if r.isEmpty then on else (nu + i.keys.length, -1)) fa ++ layL r (nu + i.keys.length) (re + i.reps) on fa
end
mutual
theorem lay_len : ∀ (i : It) (nu re : Nat) (af fa : Tg), (i.lay nu re af fa).length = i.keys.length
  | .key s, _, _, _, _ => rfl
  | .rep a, nu, re, af, fa => layL_len a _ _ _ _
  | .cho a b, nu, re, af, fa => by
    show (_ ++ _ : List Row).length = (_ ++ _ : List (List Nat)).length
    rw [List.length_append, List.length_append, layL_len a, layL_len b]
theorem layL_len : ∀ (a : List It) (nu re : Nat) (on fa : Tg), (layL a nu re on fa).length = (keysL a).length
  | [], _, _, _, _ => rfl
  | i :: r, nu, re, on, fa => by
    show (_ ++ _ : List Row).length = (_ ++ _ : List (List Nat)).length
    rw [List.length_append, List.length_append, lay_len i, layL_len r]
end
def TgAt (H : Hp) (p : Addr) (t : Tg) : Prop := H p = some (.tup [.int (t.1 : Nat), .int t.2])
def RowV (H : Hp) (v : V) (r : Row) : Prop := ∃ (p o f : Addr), v = .ref p ∧ H p = some (.tup [tV r.k, tV r.s, .ref o, .ref f]) ∧ TgAt H o r.o ∧ TgAt H f r.f
def RowsV (H : Hp) (xs : List V) (rs : List Row) : Prop := Paired (RowV H) xs rs
theorem RowV.keep {H H' : Hp} {v : V} {r : Row} (k : Tk H H') (h : RowV H v r) : RowV H' v r := by
  obtain ⟨p, o, f, e, h1, h2, h3⟩ := h
  exact ⟨p, o, f, e, k _ _ h1, k _ _ h2, k _ _ h3⟩
theorem RowsV.keep {H H' : Hp} {xs : List V} {rs : List Row} (k : Tk H H') (h : RowsV H xs rs) : RowsV H' xs rs := Paired.mapP h fun _ _ z => z.keep k
theorem RowsV.len {H : Hp} {xs : List V} {rs : List Row} (h : RowsV H xs rs) : xs.length = rs.length := Paired.length h
theorem pairedApp {α β : Type} {R : α → β → Prop} {a b : List α} {c d : List β} (h : Paired R a c) (h' : Paired R b d) : Paired R (a ++ b) (c ++ d) := by
  induction h with
  | nil => exact h'
  | cons r _ ih => exact .cons r ih
theorem RowsV.app {H : Hp} {xs ys : List V} {rs qs : List Row} (h : RowsV H xs rs) (h' : RowsV H ys qs) : RowsV H (xs ++ ys) (rs ++ qs) := pairedApp h h'
def RowsAt (H : Hp) (p : Addr) (rs : List Row) : Prop := ∃ xs, H p = some (.lst xs) ∧ RowsV H xs rs
theorem RowsAt.same {H H' : Hp} {p : Addr} {rs : List Row} (s : Same H H') (h : RowsAt H p rs) : RowsAt H' p rs := by
  obtain ⟨xs, e, h⟩ := h
  exact ⟨xs, s _ _ e, h.keep (Tk.same s)⟩
theorem RowsAt.snoc {H : Hp} {D t o f : Addr} {ys : List V} {rs : List Row} {r : Row} (hD : H D = some (.lst ys)) (hR : RowsV H ys rs) (ht : H t = none) (ho : TgAt H o r.o) (hf : TgAt H f r.f) :
    RowsAt (upd (upd H t (.tup [tV r.k, tV r.s, .ref o, .ref f])) D (.lst (ys ++ [.ref t]))) D (rs ++ [r]) := by
  have hD2 : upd H t (.tup [tV r.k, tV r.s, .ref o, .ref f]) D = some (.lst ys) := by rw [upd_ne (ne_of_none hD ht)]; exact hD
  have k1 : Tk H (upd (upd H t (.tup [tV r.k, tV r.s, .ref o, .ref f])) D (.lst (ys ++ [.ref t]))) := (Tk.refl.new ht).lst hD2
  refine ⟨_, upd_same, (hR.keep k1).app (.cons ⟨t, o, f, rfl, ?_, k1 _ _ ho, k1 _ _ hf⟩ .nil)⟩
  rw [upd_ne (ne_of_none hD ht).symm, upd_same]
end Kr

set_option Elab.async false
set_option linter.all false
set_option maxRecDepth 100000
set_option maxHeartbeats 2000000
namespace Kr
open PySem PySem.Spec PyProof.Rows L2
open SX (S)
theorem Same.get {H H' : Hp} {a : Addr} {o : HO} (s : Same H H') (h : H a = some o) : H' a = some o := s a o h
theorem updGet {H : Hp} {p a : Addr} {o u : HO} (h : H a = some u) (n : a ≠ p) : upd H p o a = some u := by rw [upd_ne n]; exact h
theorem updNone {H : Hp} {p a : Addr} {o : HO} (h : upd H p o a = none) : a ≠ p ∧ H a = none := by
  by_cases e : a = p
  · rw [e, upd_same] at h; cases h
  · rw [upd_ne e] at h; exact ⟨e, h⟩
theorem neSN {H : Hp} {p a : Addr} (n : H p = none) (h : (H a).isSome = true) : a ≠ p := fun e => by rw [e, n] at h; cases h
theorem neNS {H : Hp} {p a : Addr} (n : H a = none) (h : (H p).isSome = true) : a ≠ p := fun e => by rw [← e, n] at h; cases h
theorem isS {H : Hp} {a : Addr} {u : HO} (h : H a = some u) : (H a).isSome = true := by rw [h]; rfl
theorem isSs {H H' : Hp} {a : Addr} (s : Same H H') (h : (H a).isSome = true) : (H' a).isSome = true := by
  obtain ⟨u, e⟩ := Option.isSome_iff_exists.mp h
  rw [s _ _ e]; rfl
theorem isSu {H : Hp} {a p : Addr} {o : HO} (h : (H a).isSome = true) : (upd H p o a).isSome = true := by
  by_cases e : a = p
  · rw [e, upd_same]; rfl
  · rw [upd_ne e]; exact h
theorem isSu0 {H : Hp} {p : Addr} {o : HO} : (upd H p o p).isSome = true := by rw [upd_same]; rfl
theorem Kp.get2 {H H' : Hp} {a b l : Addr} {o : HO} (k : Kp [b, l] H H') (h : H a = some o) (h1 : a ≠ b) (h2 : a ≠ l) : H' a = some o := k a o (by simp [h1, h2]) h
theorem atIz {α : Type} {xs : List α} {i : Nat} {x : α} (h : xs[i]? = some x) : atI xs (0 + (i : Int)) = some x := by
  rw [Int.zero_add]; exact atI_nat h
theorem atIn {α : Type} {xs : List α} {i : Nat} {x : α} (h : xs[i]? = some x) : atI xs (i : Int) = some x := atI_nat h
structure Box (H : Hp) (b l : Addr) : Prop where
  ne : b ≠ l
  ex : ∃ (cs : List Int) (x y : Int), H b = some (.lst [.ref l, .int x, .int y]) ∧ H l = some (.lst (cs.map V.int)) ∧ 0 ≤ x ∧ 0 ≤ y ∧ y < 2147483647
theorem Box.new {H : Hp} {b l p : Addr} {o : HO} (B : Box H b l) (h : H p = none) : Box (upd H p o) b l := by
  obtain ⟨ne, cs, x, y, h1, h2, r⟩ := B
  exact ⟨ne, cs, x, y, by rw [upd_ne (ne_of_none h1 h)]; exact h1, by rw [upd_ne (ne_of_none h2 h)]; exact h2, r⟩
theorem Box.mut {H : Hp} {b l p : Addr} {o : HO} (B : Box H b l) (h1 : p ≠ b) (h2 : p ≠ l) : Box (upd H p o) b l := by
  obtain ⟨ne, cs, x, y, e1, e2, r⟩ := B
  exact ⟨ne, cs, x, y, by rw [upd_ne h1.symm]; exact e1, by rw [upd_ne h2.symm]; exact e2, r⟩
theorem Box.same {H H' : Hp} {b l : Addr} (B : Box H b l) (k : Same H H') : Box H' b l := by
  obtain ⟨ne, cs, x, y, e1, e2, r⟩ := B
  exact ⟨ne, cs, x, y, k _ _ e1, k _ _ e2, r⟩
theorem Box.sm {H H' : Hp} {b l : Addr} (k : Same H H') (B : Box H b l) : Box H' b l := B.same k
theorem Box.k1 {H H' : Hp} {b l x : Addr} (k : Kp [x] H H') (B : Box H b l) (n1 : b ≠ x) (n2 : l ≠ x) : Box H' b l := by
  obtain ⟨ne, cs, p, q, e1, e2, r⟩ := B
  exact ⟨ne, cs, p, q, k _ _ (by simp [n1]) e1, k _ _ (by simp [n2]) e2, r⟩
theorem Box.mt {H : Hp} {b l p : Addr} {o : HO} (B : Box H b l) (n1 : b ≠ p) (n2 : l ≠ p) : Box (upd H p o) b l := B.mut n1.symm n2.symm
theorem Box.isB {H : Hp} {b l : Addr} (B : Box H b l) : (H b).isSome = true := by
  obtain ⟨_, cs, x, y, e1, _⟩ := B
  rw [e1]; rfl
theorem Box.isL {H : Hp} {b l : Addr} (B : Box H b l) : (H l).isSome = true := by
  obtain ⟨_, cs, x, y, _, e1, _⟩ := B
  rw [e1]; rfl
theorem Tk.sm {H H1 H2 : Hp} (s : Same H1 H2) (k : Tk H H1) : Tk H H2 := k.trans (Tk.same s)
theorem Tk.nw {H H1 : Hp} {p : Addr} {o : HO} (h : H1 p = none) (k : Tk H H1) : Tk H (upd H1 p o) := k.new h
theorem Tk.ls {H H1 : Hp} {p : Addr} {o : HO} {ys : List V} (h : H1 p = some (.lst ys)) (k : Tk H H1) : Tk H (upd H1 p o) := k.lst h
theorem Tk.bx {H H1 H2 : Hp} {b l : Addr} (s : Kp [b, l] H1 H2) (B : Box H1 b l) (k : Tk H H1) : Tk H H2 := k.trans (Tk.kp s fun p hp => by
  obtain ⟨_, cs, x, y, e1, e2, _⟩ := B
  rcases List.mem_cons.mp hp with rfl | hp
  · exact ⟨_, e1⟩
  · rcases List.mem_cons.mp hp with rfl | hp
    · exact ⟨_, e2⟩
    · cases hp)
theorem Tk.k1 {H H1 H2 : Hp} {x C dx : Addr} {fs : List (Str × V)} (s : Kp [x] H1 H2) (h : H1 x = some (.ins C dx fs)) (k : Tk H H1) : Tk H H2 := k.trans fun a xs e => s a _ (fun z => by
  rw [List.mem_singleton.mp z, h] at e; cases e) e
theorem Kp.get1 {H H' : Hp} {a b : Addr} {o : HO} (k : Kp [b] H H') (h : H a = some o) (h1 : a ≠ b) : H' a = some o := k a o (by simp [h1]) h
theorem updNon {H : Hp} {p a : Addr} {o : HO} (h : H a = none) (n : a ≠ p) : upd H p o a = none := by rw [upd_ne n]; exact h
theorem Same.tr {H H1 H2 : Hp} (s : Same H1 H2) (k : Same H H1) : Same H H2 := k.trans s
theorem Same.nw {H H1 : Hp} {p : Addr} {o : HO} (h : H1 p = none) (k : Same H H1) : Same H (upd H1 p o) := sNew k h
theorem Same.mu {H H1 : Hp} {p : Addr} {o : HO} (h : H p = none) (k : Same H H1) : Same H (upd H1 p o) := sMut k h
theorem ItsAt.kp {H H' : Hp} {p : Addr} {a : List It} (h : ItsAt H p a) (k : Tk H H') : ItsAt H' p a := h.keep k
theorem ItsAt.one {H : Hp} {p : Addr} {x : V} {it : It} (h : H p = some (.tup [x])) (t : Tr H x it) : ItsAt H p [it] := ⟨[x], h, Trs.one t⟩
theorem Tr.kp {H H' : Hp} {v : V} {i : It} (h : Tr H v i) (k : Tk H H') : Tr H' v i := Tr.keep k i h
theorem neTL {H : Hp} {p a : Addr} {xs ys : List V} (h : H a = some (.tup xs)) (h' : H p = some (.lst ys)) : a ≠ p := ne_of h h' (by intro z; cases z)
theorem neLT {H : Hp} {p a : Addr} {xs ys : List V} (h : H a = some (.lst xs)) (h' : H p = some (.tup ys)) : a ≠ p := ne_of h h' (by intro z; cases z)
theorem neTI {H : Hp} {p a C dx : Addr} {xs : List V} {fs : List (Str × V)} (h : H a = some (.tup xs)) (h' : H p = some (.ins C dx fs)) : a ≠ p := ne_of h h' (by intro z; cases z)
theorem neLI {H : Hp} {p a C dx : Addr} {xs : List V} {fs : List (Str × V)} (h : H a = some (.lst xs)) (h' : H p = some (.ins C dx fs)) : a ≠ p := ne_of h h' (by intro z; cases z)
theorem neIT {H : Hp} {p a C dx : Addr} {xs : List V} {fs : List (Str × V)} (h : H a = some (.ins C dx fs)) (h' : H p = some (.tup xs)) : a ≠ p := ne_of h h' (by intro z; cases z)
theorem neIL {H : Hp} {p a C dx : Addr} {xs : List V} {fs : List (Str × V)} (h : H a = some (.ins C dx fs)) (h' : H p = some (.lst xs)) : a ≠ p := ne_of h h' (by intro z; cases z)
theorem Kp.nw1 {H H1 : Hp} {x p : Addr} {o : HO} (h : H1 p = none) (k : Kp [x] H H1) : Kp [x] H (L2.upd H1 p o) := k.new h
theorem Kp.up1 {H H1 : Hp} {x : Addr} {o : HO} (k : Kp [x] H H1) : Kp [x] H (L2.upd H1 x o) := k.upd (by simp)
theorem Kp.tr1 {H H1 H2 : Hp} {x : Addr} (k2 : Kp [x] H1 H2) (k : Kp [x] H H1) : Kp [x] H H2 := k.trans k2
theorem Kp.sm1 {H H1 H2 : Hp} {x : Addr} (s : Same H1 H2) (k : Kp [x] H H1) : Kp [x] H H2 := k.trans (Kp.of_same s)
theorem Tk.kpl {H H1 H2 : Hp} {D : Addr} {ys : List V} (k : Kp [D] H1 H2) (h : H1 D = some (.lst ys)) (t : Tk H H1) : Tk H H2 := t.trans fun a xs e => k a _ (fun z => by
  rw [List.mem_singleton.mp z, h] at e; cases e) e
def spLaw (K : PySem.W.Frag) : Sp := fun vs H Q _ => ∃ (a : Addr) (ns : List Int), vs = [.ref a] ∧ SqL K H a (ns.map V.int) ∧ ∀ H', Q (.bl true) H'
end Kr

set_option Elab.async false
set_option linter.all false
set_option maxRecDepth 100000
set_option maxHeartbeats 2000000
namespace Kr
open PySem PySem.Spec PyProof.Rows L2
open SX (S)
abbrev Spn := Nat × Int
mutual
def It.spans : It → Nat → List Spn
  | .key _, _ => []
  | .rep a, nu => (nu, (nu : Int) + ((keysL a).length : Nat) - 1) :: spansL a nu
  | .cho a b, nu => spansL a nu ++ spansL b (nu + (keysL a).length)
def spansL : List It → Nat → List Spn
  | [], _ => []
  | i :: r, nu => i.spans nu ++ spansL r (nu + i.keys.length)
end
mutual
theorem spans_len : ∀ (i : It) (nu : Nat), (i.spans nu).length = i.reps
  | .key _, _ => rfl
  | .rep a, nu => by simp [It.spans, It.reps, spansL_len a]; omega
  | .cho a b, nu => by simp [It.spans, It.reps, spansL_len a, spansL_len b]
theorem spansL_len : ∀ (a : List It) (nu : Nat), (spansL a nu).length = repsL a
  | [], _ => rfl
  | i :: r, nu => by simp [spansL, repsL, spans_len i, spansL_len r]
end
def SpV (H : Hp) (v : V) (s : Spn) : Prop := ∃ p : Addr, v = .ref p ∧ H p = some (.tup [.int (s.1 : Nat), .int s.2])
theorem SpV.keep {H H' : Hp} {v : V} {s : Spn} (k : Tk H H') (h : SpV H v s) : SpV H' v s := by
  obtain ⟨p, e, h⟩ := h
  exact ⟨p, e, k _ _ h⟩
def SpsV (H : Hp) (xs : List V) (ss : List Spn) : Prop := Paired (SpV H) xs ss
theorem SpsV.keep {H H' : Hp} {xs : List V} {ss : List Spn} (k : Tk H H') (h : SpsV H xs ss) : SpsV H' xs ss := Paired.mapP h fun _ _ z => z.keep k
theorem SpsV.app {H : Hp} {xs ys : List V} {rs qs : List Spn} (h : SpsV H xs rs) (h' : SpsV H ys qs) : SpsV H (xs ++ ys) (rs ++ qs) := pairedApp h h'
abbrev Ext := Nat × Bool
def ExV (H : Hp) (v : V) (e : Ext) : Prop := ∃ p : Addr, v = .ref p ∧ H p = some (.tup [.int (e.1 : Nat), .bl e.2])
theorem ExV.keep {H H' : Hp} {v : V} {s : Ext} (k : Tk H H') (h : ExV H v s) : ExV H' v s := by
  obtain ⟨p, e, h⟩ := h
  exact ⟨p, e, k _ _ h⟩
def ExsV (H : Hp) (xs : List V) (es : List Ext) : Prop := Paired (ExV H) xs es
theorem ExsV.keep {H H' : Hp} {xs : List V} {ss : List Ext} (k : Tk H H') (h : ExsV H xs ss) : ExsV H' xs ss := Paired.mapP h fun _ _ z => z.keep k
theorem ExsV.app {H : Hp} {xs ys : List V} {rs qs : List Ext} (h : ExsV H xs rs) (h' : ExsV H ys qs) : ExsV H (xs ++ ys) (rs ++ qs) := pairedApp h h'
abbrev Rp := Spn × List Ext
def RpV (H : Hp) (v : V) (r : Rp) : Prop := ∃ (p t : Addr) (xs : List V), v = .ref p ∧ H p = some (.tup [.int (r.1.1 : Nat), .int r.1.2, .ref t]) ∧ H t = some (.tup xs) ∧ ExsV H xs r.2
theorem RpV.keep {H H' : Hp} {v : V} {r : Rp} (k : Tk H H') (h : RpV H v r) : RpV H' v r := by
  obtain ⟨p, t, xs, e, h1, h2, h3⟩ := h
  exact ⟨p, t, xs, e, k _ _ h1, k _ _ h2, h3.keep k⟩
def RpsAt (H : Hp) (l : Addr) (rs : List Rp) : Prop := ∃ xs, H l = some (.lst xs) ∧ Paired (RpV H) xs rs
theorem RpsAt.kp {H H' : Hp} {l : Addr} {rs : List Rp} (h : RpsAt H l rs) (k : Tk H H') (e : ∀ xs, H l = some (.lst xs) → H' l = some (.lst xs)) : RpsAt H' l rs := by
  obtain ⟨xs, h1, h2⟩ := h
  exact ⟨xs, e _ h1, Paired.mapP h2 fun _ _ z => z.keep k⟩
end Kr

set_option Elab.async false
set_option linter.all false
set_option maxRecDepth 100000
set_option maxHeartbeats 2000000
namespace Kr
open PySem PySem.Spec PyProof.Rows L2
open SX (S)
def LsV (H : Hp) (p : Addr) (s : Spn) : Prop := H p = some (.lst [.int (s.1 : Nat), .int s.2])
structure LsAt (H0 H : Hp) (sl wl : Addr) (ss : List Spn) (W : List Nat) (ps : List Addr) : Prop where
  s : Same H0 H
  f1 : H0 sl = none
  f2 : H0 wl = none
  ne : sl ≠ wl
  hs : H sl = some (.lst (ps.map V.ref))
  hw : H wl = some (.lst (W.map fun i => V.int (i : Nat)))
  nd : ps.Nodup
  nin : ∀ p ∈ ps, p ≠ sl ∧ p ≠ wl ∧ H0 p = none
  pv : Paired (LsV H) ps ss
theorem pairedMem {α β : Type} {R : α → β → Prop} {a : List α} {b : List β} (h : Paired R a b) : ∀ p ∈ a, ∃ y, R p y := by
  induction h with
  | nil => intro p hp; cases hp
  | cons r _ ih =>
    intro p hp
    rcases List.mem_cons.mp hp with rfl | hp
    · exact ⟨_, r⟩
    · exact ih p hp
theorem pairedImp {α β : Type} {R R' : α → β → Prop} {a : List α} {b : List β} (h : Paired R a b) : (∀ p ∈ a, ∀ y, R p y → R' p y) → Paired R' a b := by
  induction h with
  | nil => intro _; exact .nil
  | cons r _ ih => exact fun k => .cons (k _ (by simp) _ r) (ih fun p hp y z => k p (by simp [hp]) y z)
theorem LsAt.new {H0 H : Hp} {sl wl : Addr} {ss : List Spn} {W : List Nat} {ps : List Addr} (L : LsAt H0 H sl wl ss W ps) {q : Addr} {m : Nat} (hq : upd H wl (.lst ((W ++ [ss.length]).map fun i => V.int (i : Nat))) q = none) :
    LsAt H0 (upd (upd (upd H wl (.lst ((W ++ [ss.length]).map fun i => V.int (i : Nat)))) q (.lst [.int (m : Nat), .int (m : Nat)])) sl (.lst ((ps ++ [q]).map V.ref))) sl wl (ss ++ [(m, (m : Int))]) (W ++ [ss.length]) (ps ++ [q]) := by
  obtain ⟨s, f1, f2, ne, hs, hw, nd, nin, pv⟩ := L
  obtain ⟨q1, q2⟩ := updNone hq
  have q3 : q ≠ sl := (ne_of_none hs q2).symm
  have q4 : q ∉ ps := fun z => by
    obtain ⟨y, e⟩ := pairedMem pv q z
    have e' : H q = some _ := e
    rw [q2] at e'; cases e'
  refine ⟨sMut (sNew (sMut s f2) hq) f1, f1, f2, ne, upd_same, ?_, ?_, ?_, ?_⟩
  · rw [upd_ne ne.symm, upd_ne q1.symm, upd_same]
  · rw [List.nodup_append]
    refine ⟨nd, by simp, ?_⟩
    intro a ha b hb
    simp at hb
    subst hb
    exact fun e => q4 (e ▸ ha)
  · intro p hp
    rcases List.mem_append.mp hp with h | h
    · exact nin p h
    · simp at h
      subst h
      exact ⟨q3, q1, s.free q2⟩
  · refine pairedApp ?_ (.cons ?_ .nil)
    · refine pairedImp pv fun p hp y r => ?_
      obtain ⟨n1, n2, _⟩ := nin p hp
      have n3 : p ≠ q := fun e => q4 (e ▸ hp)
      show upd _ _ _ _ = _
      rw [upd_ne n1, upd_ne n3, upd_ne n2]; exact r
    · show upd _ _ _ _ = _
      rw [upd_ne q3, upd_same]
end Kr

set_option Elab.async false
set_option linter.all false
set_option maxRecDepth 100000
set_option maxHeartbeats 2000000
namespace Kr
open PySem PySem.Spec PyProof.Rows L2
open SX (S)
section
variable {X : Cx}
end
end Kr

set_option Elab.async false
set_option linter.all false
set_option maxRecDepth 100000
set_option maxHeartbeats 2000000
namespace Kr
open PySem PySem.Spec PyProof.Rows L2
open SX (S)
open Builtin Builtin.Float Builtin.Str
def f3 : FormatSpec := { fill := 32, align := 62, width := some 3 }
def f4 : FormatSpec := { fill := 32, align := 60, width := some 4 }
section
variable {prog : Program} {w : World} {A : Around} {E : Value → Shared → Prop} {s : Shared} {t : Tok}
end
def r3 (n : Nat) : List Nat := if n < 10 then [32, 32, 48 + n] else [32, 48 + n / 10, 48 + n % 10]
section
variable {X : Cx}
end
end Kr

set_option Elab.async false
set_option linter.all false
set_option maxRecDepth 100000
set_option maxHeartbeats 2000000
namespace Kr
open PySem PySem.Spec PyProof.Rows L2
open SX (S)
section
variable {X : Cx}
theorem one {α : Type} {M : Model} {A : Around} {s : Shared} {t : Sem α} {Q : α → Shared → Prop} {E : Value → Shared → Prop} (h1 : 1 ≤ s.toks) (h : wpAny M A t Q E s) : wpAny M A t (fun a s' => 1 ≤ s'.toks ∧ Q a s') E s :=
  wpAny_mono (wpAny_toks_of h1 h) (fun _ _ z => z) fun _ _ z => z.2
end
def dg (n : Nat) : List Nat := if n < 10 then [48 + n] else [48 + n / 10, 48 + n % 10]
theorem dg_ok : ∀ n : Fin 100, (Str.ofString (toString (n.val : Int))) = S (dg n.val) := by decide +kernel
def rStrI : List V → Hp → VK → Prop := fun xs H Q => ∃ n : Nat, xs = [.int (n : Int)] ∧ n < 100 ∧ Q (.str (S (dg n))) H
theorem call_strI {X : Cx} : CallR X (.type "str") rStrI := callImp call_str_int fun xs H Q ⟨n, e, hn, q⟩ => by
  refine ⟨n, e, ?_, ?_⟩
  · have : n.log2 ≤ n := Nat.log2_le_self n
    show n.log2 < 1920
    omega
  · have e := dg_ok ⟨n, hn⟩
    dsimp only at e
    rw [e]; exact q
end Kr

set_option Elab.async false
set_option linter.all false
set_option maxRecDepth 100000
set_option maxHeartbeats 2000000
namespace Kr
open PySem PySem.Spec PyProof.Rows L2
section
variable {X : Cx} {k j : Nat} {x : Str} {C : Addr} {sp : Sp} {dvs : List V} {e : Expr} {es : List Expr} {t : TA} {p pos : Pos} {W : WX}
end
section
variable {X : Cx} {k j : Nat} {C : Addr} {sp : Sp} {a b : Expr} {ta tb : TE} {pos : Pos} {W : WX}
theorem cmpB {P : Value → Shared → Prop} {z : V} {v : Value} {s' : Shared} (r : RelV z v) (h : P v s') : PySem.W.CmpBack P v s' := by
  cases z with
  | non => cases (show v = Value.none from r); exact h
  | bl b => cases (show v = Value.bool b from r); exact h
  | int i => obtain ⟨t, rfl⟩ := r; exact h
  | str x => obtain ⟨t, rfl⟩ := r; exact h
  | byt x => obtain ⟨t, rfl⟩ := r; exact h
  | flt x => obtain ⟨t, rfl⟩ := r; exact h
  | ref a => cases (show v = Value.ref a from r); exact h
  | ty n => cases (show v = Value.type n from r); exact h
theorem dMul : PySem.dunder "mul" = ("__mul__" : Str) := by decide +kernel
theorem dRmul : PySem.dunderR "mul" = ("__rmul__" : Str) := by decide +kernel
def tOO (C : Addr) (sp : Sp) (E : L2.St → XK) (ta tb : TE) : TE := fun σ H Q => ta σ H fun x H1 => tb σ H1 fun y H2 => ∃ p q dx fs dy gs, x = .ref p ∧ y = .ref q ∧ H2 p = some (.ins C dx fs) ∧ H2 q = some (.ins C dy gs) ∧ sp [.ref p, .ref q] H2 Q (E σ)
theorem pe_OO {op : Operator} (c : KMet X.prog X.w X.K X.mg X.base k C (PySem.dunder op.info.2) sp) (hs : PySem.W.selfFirst X.K C = true) (tk : Takes X W) (hr : Room j X.A) (hk : k ≤ j) (ha : PE X a ta) (hb : PE X b tb) :
    PE X (.BinOp a op b pos) (tOO C sp (WE W) ta tb) := by
  obtain ⟨f, fd, ps, hc, hm, F, bi⟩ := c.ex
  refine ⟨fun pins s σ H Q I h => ?_⟩
  refine wpAny_BinOp (thn (ha.run pins s σ H _ I h) fun v s1 ⟨x, H1, I1, r1, q1⟩ => ?_)
  refine thn (hb.run pins s1 σ H1 _ I1 q1) fun u s2 ⟨y, H2, I2, r2, p, q, dx, fs, dy, gs, ex, ey, hp, hq, q2⟩ => ?_
  subst ex ey
  obtain rfl : v = Value.ref p := r1
  obtain rfl : u = Value.ref q := r2
  obtain ⟨mA, O, _, _, _, _⟩ := ins_get I2.hok hp
  obtain ⟨od, J, _⟩ := O.look
  obtain ⟨mB, O2, _, _, _, _⟩ := ins_get I2.hok hq
  obtain ⟨od2, J2, _⟩ := O2.look
  obtain ⟨m, hF⟩ := I2.fr
  refine PySem.W.binop_K hF I2.ok.mod.kin J J2.type hs hm.at_ hm.fn ?_
  refine wpAny_mono (run_fnSD (dvs := []) (ds := []) (E := WE W) (vs := [.ref p, .ref q]) F (hr.mono hk) bi .nil (passAt tk σ) I2 (.cons rfl (.cons rfl .nil)) (by simpa using q2)) (fun w s' z => ?_) fun _ _ x => x
  obtain ⟨z', H', I', rz, qz⟩ := z
  exact cmpB rz ⟨z', H', I', rz, qz⟩
structure IntMul (K : PySem.W.Frag) (C : Addr) : Prop where
  sf : PySem.W.selfFirst K C = true
  s1 : PySem.W.subIn K (.type "int") (.ref C) = some false
  s2 : PySem.W.subIn K (.ref C) (.type "int") = some false
def tOI (C : Addr) (sp : Sp) (E : L2.St → XK) (ta tb : TE) : TE := fun σ H Q => ta σ H fun x H1 => tb σ H1 fun y H2 => ∃ p n dx fs, x = .ref p ∧ y = .int n ∧ H2 p = some (.ins C dx fs) ∧ sp [.ref p, .int n] H2 Q (E σ)
theorem pe_OI (c : KMet X.prog X.w X.K X.mg X.base k C "__mul__" sp) (c2 : ∃ g : Addr, PySem.W.findIn X.K (.ref C) "__rmul__" = some (some (.ref g))) (hs : IntMul X.K C) (tk : Takes X W) (hr : Room j X.A) (hk : k ≤ j) (ha : PE X a ta) (hb : PE X b tb) :
    PE X (.BinOp a .Mult b pos) (tOI C sp (WE W) ta tb) := by
  obtain ⟨f, fd, ps, hc, hm, F, bi⟩ := c.ex
  obtain ⟨g, hg⟩ := c2
  refine ⟨fun pins s σ H Q I h => ?_⟩
  refine wpAny_BinOp (thn (ha.run pins s σ H _ I h) fun v s1 ⟨x, H1, I1, r1, q1⟩ => ?_)
  refine thn (hb.run pins s1 σ H1 _ I1 q1) fun u s2 ⟨y, H2, I2, r2, p, n, dx, fs, ex, ey, hp, q2⟩ => ?_
  subst ex ey
  obtain rfl : v = Value.ref p := r1
  obtain ⟨tn, rfl⟩ := r2
  obtain ⟨mA, O, _, _, _, _⟩ := ins_get I2.hok hp
  obtain ⟨od, J, _⟩ := O.look
  obtain ⟨cd, hcd, hm0⟩ := PySem.W.any_some hs.sf
  obtain ⟨rest, hmr⟩ : ∃ rest, cd.mro = .ref C :: rest := by
    cases q : cd.mro with
    | nil => rw [q] at hm0; cases hm0
    | cons a r => rw [q] at hm0; exact ⟨r, by rw [List.head?_cons] at hm0; cases (beq_iff_eq.mp hm0); rfl⟩
  have KX := I2.kIn
  have h1 : PySem.W.findIn X.K (.ref C) (PySem.dunder "mul") = some (some (.ref f)) := by rw [dMul]; exact hm.at_
  have h2 : PySem.W.findIn X.K (.ref C) (PySem.dunderR "mul") = some (some (.ref g)) := by rw [dRmul]; exact hg
  unfold binaryOp
  refine wpAny_holding (wpAny_bind ?_)
  show wpAny _ _ (binaryOp1 "mul" (.ref p) (.int n tn)) _ _ _
  unfold binaryOp1
  refine wpAny_bind (J.type.here (wpAny_bind (wpAny_typeOf (typeIs_int _ n tn) (wpAny_bind ((PySem.W.fills_K KX hcd hmr h1).here ?_)))))
  rw [if_neg (by intro z; cases z)]
  refine wpAny_bind (wpAny_of_eq PySem.F.fills_int_mul ?_)
  simp only [Bool.and_self, if_true]
  refine wpAny_bind ((PySem.W.looks_subIn KX hs.s1).here ?_)
  simp only [Bool.false_eq_true, if_false, Bool.not_false, Bool.and_self, if_true]
  have np : PySem.W.Looks (model X.prog X.w) s2.heap (numberSlotInPython (.ref C) "mul") true := by
    intro A' Q' E' s' kk q'
    unfold numberSlotInPython
    refine wpAny_bind (PySem.W.looks_findIn KX h1 A' _ E' s' kk ?_)
    refine wpAny_bind (wpAny_pure ?_)
    refine wpAny_bind (PySem.W.looks_findIn KX h2 A' _ E' s' kk ?_)
    refine wpAny_bind (wpAny_pure ?_)
    simp only [Bool.or_self, if_true]
    exact wpAny_pure q'
  refine wpAny_bind (np.here ?_)
  simp only [if_true]
  refine wpAny_bind (m := numberSlotInPython (.type "int") "mul") (wpAny_pure ?_)
  simp only [Bool.not_false, if_true]
  refine wpAny_bind (wpAny_of_eq PySem.F.slot_int_rmul.lookup ?_)
  refine wpAny_bind (m := tryMethod (.ref p) _ _) ?_
  unfold tryMethod
  refine wpAny_bind (PySem.W.special_fn KX J h1 (beq_iff_eq.mp hm.fn) (wpAny_mono (run_fnSD (dvs := []) (ds := []) (E := WE W) (vs := [.ref p, .int n]) F (hr.mono hk) bi .nil (passAt tk σ) I2 (.cons rfl (.cons ⟨tn, rfl⟩ .nil)) (by simpa using q2)) (fun v s' z => ?_) fun _ _ x => x))
  obtain ⟨z', H', I', rz, qz⟩ := z
  have hv : PySem.W.CmpBack (EP X pins σ Q) v s' := cmpB rz ⟨z', H', I', rz, qz⟩
  cases v <;> first | exact hv.elim | exact wpAny_pure (wpAny_pure (wpAny_pure hv))
def tIO (C : Addr) (sp : Sp) (E : L2.St → XK) (ta tb : TE) : TE := fun σ H Q => ta σ H fun x H1 => tb σ H1 fun y H2 => ∃ p n dx fs, x = .int n ∧ y = .ref p ∧ H2 p = some (.ins C dx fs) ∧ sp [.ref p, .int n] H2 Q (E σ)
theorem int_mul_obj (n : Int) (t : Tok) (l C dx : Addr) :
    Meets (Builtin.«int.__mul__» ⟨[.int n t, .ref l], []⟩) (fun _ R s => s.heap.get? l = some (PySem.W.instObj C dx) ∧ R (.ok (.ret Value.notImplemented)) s) :=
  .of_wp fun prog w A R s h => by
    obtain ⟨hp, g, d, tk, os⟩ := s
    obtain ⟨hl, h⟩ := h
    unfold PySem.W.instObj at hl
    wp_walk
    exact ⟨_, rfl, h⟩
theorem pe_IO (c : KMet X.prog X.w X.K X.mg X.base k C "__rmul__" sp) (c2 : ∃ g : Addr, PySem.W.findIn X.K (.ref C) "__mul__" = some (some (.ref g))) (hs : IntMul X.K C) (tk : Takes X W) (hr : Room j X.A) (hk : k ≤ j) (ha : PE X a ta) (hb : PE X b tb) :
    PE X (.BinOp a .Mult b pos) (tIO C sp (WE W) ta tb) := by
  obtain ⟨f, fd, ps, hc, hm, F, bi⟩ := c.ex
  obtain ⟨g, hg⟩ := c2
  refine ⟨fun pins s σ H Q I h => ?_⟩
  refine wpAny_BinOp (thn (ha.run pins s σ H _ I h) fun v s1 ⟨x, H1, I1, r1, q1⟩ => ?_)
  refine thn (hb.run pins s1 σ H1 _ I1 q1) fun u s2 ⟨y, H2, I2, r2, p, n, dx, fs, ex, ey, hp, q2⟩ => ?_
  subst ex ey
  obtain rfl : u = Value.ref p := r2
  obtain ⟨tn, rfl⟩ := r1
  obtain ⟨mA, O, _, _, _, _⟩ := ins_get I2.hok hp
  obtain ⟨od, J, _⟩ := O.look
  obtain ⟨cd, hcd, hm0⟩ := PySem.W.any_some hs.sf
  obtain ⟨rest, hmr⟩ : ∃ rest, cd.mro = .ref C :: rest := by
    cases q : cd.mro with
    | nil => rw [q] at hm0; cases hm0
    | cons a r => rw [q] at hm0; exact ⟨r, by rw [List.head?_cons] at hm0; cases (beq_iff_eq.mp hm0); rfl⟩
  have KX := I2.kIn
  have h1 : PySem.W.findIn X.K (.ref C) (PySem.dunder "mul") = some (some (.ref g)) := by rw [dMul]; exact hg
  have h2 : PySem.W.findIn X.K (.ref C) (PySem.dunderR "mul") = some (some (.ref f)) := by rw [dRmul]; exact hm.at_
  unfold binaryOp
  refine wpAny_holding (wpAny_bind ?_)
  show wpAny _ _ (binaryOp1 "mul" (.int n tn) (.ref p)) _ _ _
  unfold binaryOp1
  refine wpAny_bind (wpAny_typeOf (typeIs_int _ n tn) (wpAny_bind (J.type.here (wpAny_bind (wpAny_of_eq PySem.F.fills_int_mul ?_)))))
  rw [if_neg (by intro z; cases z)]
  refine wpAny_bind ((PySem.W.fills_K KX hcd hmr h1).here ?_)
  simp only [Bool.and_self, if_true]
  refine wpAny_bind ((PySem.W.looks_subIn KX hs.s2).here ?_)
  simp only [Bool.false_eq_true, if_false, Bool.not_false, Bool.and_self, if_true]
  refine wpAny_bind (m := numberSlotInPython (.type "int") "mul") (wpAny_pure ?_)
  simp only [Bool.false_eq_true, if_false]
  refine wpAny_bind (wpAny_tryMethod_declines (typeIs_int _ n tn) PySem.F.slot_int_mul (call_meets PySem.F.slot_int_mul (typeIs_int _ n tn) PySem.F.entry_int_mul (PySem.F.args_int_mul_2 _ _) (int_mul_obj n tn p C dx) ⟨O.obj, rfl, ?_⟩))
  simp only [Bool.false_eq_true, if_false, Bool.not_false, Bool.and_self, if_true]
  refine wpAny_bind (m := tryMethod (.ref p) _ _) ?_
  unfold tryMethod
  refine wpAny_bind (PySem.W.special_fn KX J h2 (beq_iff_eq.mp hm.fn) (wpAny_mono (run_fnSD (dvs := []) (ds := []) (E := WE W) (vs := [.ref p, .int n]) F (hr.mono hk) bi .nil (passAt tk σ) I2 (.cons rfl (.cons ⟨tn, rfl⟩ .nil)) (by simpa using q2)) (fun v s' z => ?_) fun _ _ x => x))
  obtain ⟨z', H', I', rz, qz⟩ := z
  have hv : PySem.W.CmpBack (EP X pins σ Q) v s' := cmpB rz ⟨z', H', I', rz, qz⟩
  cases v <;> first | exact hv.elim | exact wpAny_pure (wpAny_bind (wpAny_rule (wpAny_pure (wpAny_pure hv))))
end
theorem _root_.Kr.KMet.fnd {P : Program} {w : World} {K : PySem.W.Frag} {mg : Str → Option Value} {base : Heap} {k : Nat} {C : Addr} {m : Str} {sp : Sp} (c : KMet P w K mg base k C m sp) : ∃ g : Addr, PySem.W.findIn K (.ref C) m = some (some (.ref g)) := by
  obtain ⟨f, fd, ps, hc, hm, F, bi⟩ := c.ex
  exact ⟨f, hm.at_⟩
structure KCv (K : PySem.W.Frag) (C : Addr) (f : Str) (i : Int) : Prop where
  rd : ClX.CRead K C (.type "type")
  ex : ∃ u, ClX.CVal K C (.type "type") f (.int i) u
def imB (K : PySem.W.Frag) (C : Str) : Bool := PySem.W.selfFirst K (He.ga K C) && (decide (PySem.W.subIn K (.type "int") (.ref (He.ga K C)) = some false) && decide (PySem.W.subIn K (.ref (He.ga K C)) (.type "int") = some false))
theorem imB_ok {K : PySem.W.Frag} {C : Str} (h : imB K C = true) : IntMul K (He.ga K C) := by
  obtain ⟨h1, h⟩ := He.ba h
  obtain ⟨h2, h3⟩ := He.ba h
  exact ⟨h1, of_decide_eq_true h2, of_decide_eq_true h3⟩
end Kr

set_option Elab.async false
set_option linter.all false
set_option maxRecDepth 100000
set_option maxHeartbeats 2000000
namespace Kr
open PySem PySem.Spec PyProof.Rows L2
abbrev Cls1 := Value × Option Nat × (Addr → Value → Option Addr → TS)
inductive HdMy (X : Cx) : List ExceptHandler → List Cls1 → Prop
  | nil : HdMy X [] []
  | plain {x : Str} {c : Value} {ts : Addr → Value → Option Addr → TS} {b₀ : Stmt} {suite : List Stmt} {np pos' : Pos} {hds : List ExceptHandler} {l : List Cls1} (hc : Names X x c)
      (hsu : ∀ (a : Addr) (oe : Obj) (cls : Value) (d : Option Addr) (pn : List (Addr × Obj)), Zc cls d oe → (∃ vs, oe.data = .fields vs) → PSs (X.suite a ((a, oe) :: pn)) (b₀ :: suite) (ts a cls d)) (r : HdMy X hds l) :
      HdMy X (.ExceptHandler (some (.Name x np)) none (b₀ :: suite) pos' :: hds) ((c, none, ts) :: l)
  | named {x n : Str} {i : Nat} {c : Value} {ts : Addr → Value → Option Addr → TS} {b₀ : Stmt} {suite : List Stmt} {np pos' : Pos} {hds : List ExceptHandler} {l : List Cls1} (hc : Names X x c) (hi : X.N[i]? = some n) (hln : X.env.kindOf n = some .local)
      (hsu : ∀ (a : Addr) (oe : Obj) (cls : Value) (d : Option Addr) (pn : List (Addr × Obj)), Zc cls d oe → (∃ vs, oe.data = .fields vs) → PSs (X.suite a ((a, oe) :: pn)) (b₀ :: suite) (ts a cls d)) (r : HdMy X hds l) :
      HdMy X (.ExceptHandler (some (.Name x np)) (some n) (b₀ :: suite) pos' :: hds) ((c, some i, ts) :: l)
section
variable {X : Cx} {body : List Stmt} {h₀ : ExceptHandler} {hds : List ExceptHandler} {l : List Cls1} {pos : Pos} {tb : WX → TS} {Wout : WX}
end
end Kr

set_option Elab.async false
set_option linter.all false
set_option maxRecDepth 100000
set_option maxHeartbeats 2000000
namespace Kr
open PySem PySem.Spec PyProof.Rows L2
structure KSt (P : Program) (w : World) (K : PySem.W.Frag) (mg : Str → Option Value) (base : Heap) (k : Nat) (x ck : Str) (sp : Sp) (dv : V) : Prop where
  ex : ∃ f : Addr, mg x = some (.ref f) ∧ PySem.W.keepIn K (.ref f) = true ∧
    (∀ (A : Around) (outer : List Env) (s : Shared) (H : Hp) (us : List Value) (rest : List V) (Q : VK) (E : XK), Room k A → Env0 P w K mg base A outer s H → Vals rest us → rest.length ≤ sizeLine → (∀ p, H p = none → sp [dv, V.ref p] (upd H p (.tup rest)) Q E) →
      codeAny (model P w) A (.call (.ref f) ⟨us, []⟩) (CR (CX P w) outer P w H s Q E) s) ∧
    (∀ (A : Around) (outer : List Env) (s : Shared) (H : Hp) (us : List Value) (rest : List V) (c : V) (u : Value) (Q : VK) (E : XK), Room k A → Env0 P w K mg base A outer s H → Vals rest us → RelV c u → rest.length ≤ sizeLine → (∀ p, H p = none → sp [c, V.ref p] (upd H p (.tup rest)) Q E) →
      codeAny (model P w) A (.call (.ref f) ⟨us, [(ck, u)]⟩) (CR (CX P w) outer P w H s Q E) s)
section
variable {X : Cx} {k j : Nat} {x ck : Str} {sp : Sp} {dv : V} {e : Expr} {es : List Expr} {t : TA} {p pos : Pos} {W : WX}
end
end Kr

set_option Elab.async false
set_option linter.all false
set_option maxRecDepth 100000
set_option maxHeartbeats 2000000
namespace Kr
open PySem PySem.Spec PyProof.Rows L2
open SX (S)
theorem pairAt {α β : Type} {R : α → β → Prop} {a : List α} {b : List β} (h : Paired R a b) : ∀ {i : Nat} {x : α}, a[i]? = some x → ∃ y, b[i]? = some y ∧ R x y := by
  induction h with
  | nil => intro i x e; simp at e
  | cons r _ ih =>
    intro i x e
    cases i with
    | zero => simp at e; subst e; exact ⟨_, rfl, r⟩
    | succ i =>
      obtain ⟨y, h1, h2⟩ := ih (i := i) (x := x) (by simpa using e)
      exact ⟨y, by simpa using h1, h2⟩
theorem sIns {H : Hp} {x dx C : Addr} (hx : H x = none) (hd : H dx = none) (nd : dx ≠ x) : Same H (upd (upd H dx (.own x)) x (.ins C dx [])) := fun b o h => by
  rw [upd_ne (ne_of_none h hx), upd_ne (ne_of_none h hd)]; exact h
theorem sKp {H H1 H2 : Hp} {x : Addr} (s : Same H H1) (k : Kp [x] H1 H2) (hx : H x = none) : Same H H2 := fun b o h => k b o (by simp; exact ne_of_none h hx) (s b o h)
end Kr

set_option Elab.async false
set_option linter.all false
set_option maxRecDepth 100000
set_option maxHeartbeats 2000000
namespace Kr
open PySem PySem.Spec PyProof.Rows L2
open SX (S)
def sc (ca : Bool) : Nat → List Nat → List Nat → Bool → Option Nat → Option Nat
  | i, [], _, _, some _ => some i
  | i, [], gs, _, none => if gs.isEmpty then none else some i
  | i, d :: t, gs, em, some c => if d ∈ (if c = 64 then ltr else sgn) then sc ca (i + 1) t gs false none else some i
  | i, c :: t, gs, em, none =>
    if c ∈ plk then sc ca (i + 1) t gs false none
    else if c ∈ sgk ∨ (ca = true ∧ c = 64) then sc ca (i + 1) t gs em (some c)
    else if c = 40 ∨ c = 91 then (if gs.length = 8 then some i else sc ca (i + 1) t (c :: gs) true none)
    else match gs with
      | [] => some i
      | g :: r => if c = 41 ∧ g = 40 ∧ em = false then sc ca (i + 1) t r false none
        else if c = 124 ∧ g = 91 ∧ em = false then sc ca (i + 1) t (124 :: r) em none
        else if c = 93 ∧ g = 124 then sc ca (i + 1) t r false none else some i
def SameFault (i : Nat) (pl : List Nat) (a b : Option Nat) : Prop := (a = none → b = none) ∧ ∀ k, a = some k → ∃ p, b = some p ∧ i ≤ p ∧ ((pl[p - i]? ≠ some 64 ∧ k = p) ∨ (pl[p - i]? = some 64 ∧ k = p + 1))
theorem SameFault.none {i : Nat} {pl : List Nat} : SameFault i pl none none := ⟨fun _ => rfl, fun k h => by cases h⟩
theorem SameFault.here {i k : Nat} {pl : List Nat} (h : pl[0]? ≠ some 64) (e : k = i) : SameFault i pl (some k) (some i) := by
  refine ⟨fun z => (by cases z), fun k' z => ?_⟩
  cases z
  exact ⟨i, rfl, Nat.le_refl _, .inl ⟨by rw [Nat.sub_self]; exact h, e⟩⟩
theorem SameFault.on {i n : Nat} {x pl : List Nat} {a b : Option Nat} (h : SameFault (i + n) pl a b) (hn : x.length = n) : SameFault i (x ++ pl) a b := by
  refine ⟨h.1, fun k e => ?_⟩
  obtain ⟨p, e1, e2, e3⟩ := h.2 k e
  refine ⟨p, e1, by omega, ?_⟩
  have e4 : (x ++ pl)[p - i]? = pl[p - (i + n)]? := by
    rw [List.getElem?_append_right (by omega), hn, show p - i - n = p - (i + n) by omega]
  rw [e4]
  exact e3
end Kr

set_option Elab.async false
set_option linter.all false
set_option maxRecDepth 100000
set_option maxHeartbeats 2000000
namespace Kr
open PySem PySem.Spec PyProof.Rows L2
def fiv : Nat → Nat
  | 0 => 0
  | n + 1 => 5 * fiv n + 1
theorem fiv_pow (n : Nat) : 5 ^ n = 4 * fiv n + 1 := by
  induction n with
  | zero => rfl
  | succ n ih => rw [Nat.pow_succ, ih, fiv]; omega
theorem fiv_add (n d : Nat) : fiv (n + d) = 5 ^ n * fiv d + fiv n := by
  induction n with
  | zero => simp [fiv]
  | succ n ih =>
    have e : n + 1 + d = (n + d) + 1 := by omega
    rw [e, fiv, ih, fiv, Nat.pow_succ, Nat.mul_add]
    have : 5 * (5 ^ n * fiv d) = 5 ^ n * 5 * fiv d := by rw [Nat.mul_comm (5 ^ n) 5, Nat.mul_assoc]
    omega
theorem fiv_two (n : Nat) : fiv (n + n) = 2 * (fiv n * (2 * fiv n + 1)) := by
  rw [fiv_add, fiv_pow]
  generalize fiv n = a
  have e1 : (4 * a + 1) * a = 4 * (a * a) + a := by rw [Nat.add_mul, Nat.mul_assoc, Nat.one_mul]
  have e2 : a * (2 * a + 1) = 2 * (a * a) + a := by rw [Nat.mul_add, Nat.mul_one, Nat.mul_left_comm]
  omega
theorem fiv_odd (n : Nat) : fiv n % 2 = n % 2 := by
  induction n with
  | zero => rfl
  | succ n ih => rw [fiv]; omega
theorem odd_dvd (e : Nat) : ∀ {a b : Nat}, b % 2 = 1 → 2 ^ e ∣ a * b → 2 ^ e ∣ a := by
  induction e with
  | zero => intro a b _ _; exact Nat.one_dvd a
  | succ e ih =>
    intro a b hb h
    have h2 : 2 ∣ a * b := Nat.dvd_trans ⟨2 ^ e, by rw [Nat.pow_succ, Nat.mul_comm]⟩ h
    have ha : a % 2 = 0 := by
      have := Nat.mod_eq_zero_of_dvd h2
      rw [Nat.mul_mod, hb] at this
      omega
    obtain ⟨c, rfl⟩ : ∃ c, a = 2 * c := ⟨a / 2, by omega⟩
    obtain ⟨d, hd⟩ := h
    have : 2 ^ e ∣ c := ih hb ⟨d, by
      rw [Nat.pow_succ] at hd
      rw [Nat.mul_assoc 2 c b] at hd
      have e1 : 2 ^ e * 2 * d = 2 * (2 ^ e * d) := by rw [Nat.mul_comm (2 ^ e) 2, Nat.mul_assoc]
      rw [e1] at hd
      omega⟩
    obtain ⟨k, rfl⟩ := this
    exact ⟨k, by rw [Nat.pow_succ]; rw [Nat.mul_comm (2 ^ e) 2, Nat.mul_assoc]⟩
theorem fiv_dvd (e : Nat) : ∀ n, 2 ^ e ∣ fiv n → 2 ^ e ∣ n := by
  induction e with
  | zero => intro n _; exact Nat.one_dvd n
  | succ e ih =>
    intro n h
    have h2 : 2 ∣ fiv n := Nat.dvd_trans ⟨2 ^ e, by rw [Nat.pow_succ, Nat.mul_comm]⟩ h
    have hn := fiv_odd n
    have : fiv n % 2 = 0 := Nat.mod_eq_zero_of_dvd h2
    obtain ⟨m, rfl⟩ : ∃ m, n = m + m := ⟨n / 2, by omega⟩
    rw [fiv_two] at h
    obtain ⟨d, hd⟩ := h
    have h3 : 2 ^ e ∣ fiv m * (2 * fiv m + 1) := ⟨d, by
      rw [Nat.pow_succ, Nat.mul_assoc] at hd
      have e1 : 2 ^ e * (2 * d) = 2 * (2 ^ e * d) := Nat.mul_left_comm _ _ _
      omega⟩
    obtain ⟨k, rfl⟩ := ih m (odd_dvd e (by omega) h3)
    exact ⟨k, by rw [Nat.pow_succ, Nat.mul_comm (2 ^ e) 2, Nat.mul_assoc]; omega⟩
theorem fiv_pow2 (e : Nat) : 2 ^ e ∣ fiv (2 ^ e) := by
  induction e with
  | zero => exact Nat.one_dvd _
  | succ e ih =>
    have e1 : 2 ^ (e + 1) = 2 ^ e + 2 ^ e := by rw [Nat.pow_succ]; omega
    rw [e1, fiv_two, ← e1]
    obtain ⟨k, hk⟩ := ih
    exact ⟨k * (2 * fiv (2 ^ e) + 1), by rw [hk, Nat.pow_succ, Nat.mul_comm (2 ^ e) 2, Nat.mul_assoc, Nat.mul_assoc]⟩
theorem fiv_inj {e i j : Nat} (hi : i < 2 ^ e) (hj : j < 2 ^ e) (h : fiv i % 2 ^ e = fiv j % 2 ^ e) : i = j := by
  have key : ∀ {i j : Nat}, i ≤ j → j < 2 ^ e → fiv i % 2 ^ e = fiv j % 2 ^ e → i = j := by
    intro i j hij hj h
    obtain ⟨d, rfl⟩ : ∃ d, j = i + d := ⟨j - i, by omega⟩
    rw [fiv_add] at h
    have hd : 2 ^ e ∣ 5 ^ i * fiv d := by
      have := Nat.sub_mod_eq_zero_of_mod_eq h.symm
      rw [Nat.add_sub_cancel] at this
      exact Nat.dvd_of_mod_eq_zero this
    have h5 : 5 ^ i % 2 = 1 := by rw [fiv_pow]; omega
    have := fiv_dvd e d (odd_dvd e h5 (by rw [Nat.mul_comm]; exact hd))
    have hd0 : d = 0 := by
      rcases Nat.eq_zero_or_pos d with z | z
      · exact z
      · have := Nat.le_of_dvd z this; omega
    omega
  rcases Nat.le_total i j with c | c
  · exact key c hj h
  · exact (key c hi h.symm).symm
theorem fiv_all {e j : Nat} (hj : j < 2 ^ e) : ∃ n, n < 2 ^ e ∧ fiv n % 2 ^ e = j := by
  have hp : 0 < 2 ^ e := Nat.pow_pos (by decide)
  rcases Classical.em (∃ n, n < 2 ^ e ∧ fiv n % 2 ^ e = j) with c | c
  · exact c
  · exfalso
    have hl := nat_nodup_len ((List.range (2 ^ e)).map fun n => fiv n % 2 ^ e) ((List.range (2 ^ e)).erase j) ?_ ?_
    · rw [List.length_map, List.length_range, List.length_erase_of_mem (List.mem_range.mpr hj), List.length_range] at hl
      omega
    · refine List.pairwise_map.mpr (List.Pairwise.imp_of_mem ?_ List.nodup_range)
      intro a b ha hb hne z
      exact hne (fiv_inj (List.mem_range.mp ha) (List.mem_range.mp hb) z)
    · intro x hx
      obtain ⟨n, hn, rfl⟩ := List.mem_map.mp hx
      refine (List.mem_erase_of_ne (fun z => c ⟨n, List.mem_range.mp hn, z⟩)).mpr (List.mem_range.mpr (Nat.mod_lt _ hp))
def Msk (m : Nat) : Prop := ∃ e, 1 ≤ e ∧ m + 1 = 2 ^ e
theorem lcgI_fiv (m i : Nat) : ∀ k, i ≤ m → lcgI m i k = (5 ^ k * i + fiv k) % (m + 1)
  | 0, hi => by simp [lcgI, fiv]; exact (Nat.mod_eq_of_lt (by omega)).symm
  | k + 1, hi => by
    show (lcgI m i k * 5 + 1) % (m + 1) = _
    rw [lcgI_fiv m i k hi, Nat.pow_succ, fiv]
    have e : 5 ^ k * 5 * i + (5 * fiv k + 1) = (5 ^ k * i + fiv k) * 5 + 1 := by
      rw [Nat.add_mul]
      have : 5 ^ k * 5 * i = 5 ^ k * i * 5 := by rw [Nat.mul_assoc, Nat.mul_comm 5 i, ← Nat.mul_assoc]
      omega
    rw [e, Nat.add_mod, Nat.mul_mod, Nat.mod_mod, ← Nat.mul_mod, ← Nat.add_mod]
theorem lcg_meets {m : Nat} (hm : Msk m) {i j : Nat} (hi : i ≤ m) (hj : j ≤ m) : ∃ k, k ≤ m ∧ lcgI m i k = j := by
  obtain ⟨e, he, hm⟩ := hm
  obtain ⟨a, ha, ea⟩ := fiv_all (e := e) (j := i) (by omega)
  obtain ⟨b, hb, eb⟩ := fiv_all (e := e) (j := j) (by omega)
  have key : ∀ k, lcgI m i k = fiv (k + a) % 2 ^ e := fun k => by
    rw [lcgI_fiv m i k hi, fiv_add, hm, ← ea, Nat.add_mod, Nat.mul_mod, Nat.mod_mod, ← Nat.mul_mod, ← Nat.add_mod]
  rcases Nat.lt_or_ge b a with c | c
  · refine ⟨2 ^ e + b - a, by omega, ?_⟩
    rw [key, show 2 ^ e + b - a + a = b + 2 ^ e by omega, fiv_add]
    obtain ⟨q, hq⟩ := fiv_pow2 e
    rw [hq, Nat.mul_left_comm, Nat.mul_add_mod]
    exact eb
  · exact ⟨b - a, by omega, by rw [key, Nat.sub_add_cancel c]; exact eb⟩
theorem start_meets {m : Nat} (hm : Msk m) (h : Int) {j : Nat} (hj : j ≤ m) : ∃ n, n ≤ m + 12 ∧ runI m (SetTable.bits h) n = j := by
  obtain ⟨k, k1, k2⟩ := lcg_meets hm (runI_le m (SetTable.bits h) 12) hj
  refine ⟨12 + k, by omega, ?_⟩
  rw [runI_tail (bits_lt h)]
  exact k2
theorem way_meets {m : Nat} (hm : Msk m) (h : Int) {j : Nat} (hj : j ≤ m) : ∃ k, k < 10 * SetTable.turns m ∧ way m h k = j := by
  obtain ⟨n, n1, n2⟩ := start_meets hm h hj
  obtain ⟨k, k1, k2⟩ := run_nth m (SetTable.bits h) n
  refine ⟨k, ?_, ?_⟩
  · unfold SetTable.turns
    omega
  · show (nth _ _ _).j = j
    rw [k2]
    exact n2
theorem way_in {m : Nat} (h : Int) (k : Nat) : way m h k ≤ m := by
  have h0 : SetTable.bits h % (m + 1) ≤ m := Nat.le_of_lt_succ (Nat.mod_lt _ (Nat.succ_pos _))
  obtain ⟨a, b, c⟩ := runEnd_bd h0
  have := nth_in k (runAt m (SetTable.bits h % (m + 1)) (SetTable.bits h)) (show SetTable.bits h % (m + 1) + (SetTable.runEnd m (SetTable.bits h % (m + 1)) - SetTable.bits h % (m + 1)) ≤ m by omega)
  show (nth _ _ _).j ≤ m
  omega
structure Tb (t : SetTable) (hs : List Int) : Prop where
  ris : Ris t.place.toList
  dm : t.dummies = #[]
  sz : t.place.toList.length = hs.length
  ms : Msk t.mask
  bd : ∀ x ∈ t.place.toList, x ≤ t.mask
  wy : ∀ (i : Nat) (h : Int) (j : Nat), hs[i]? = some h → t.place.toList[i]? = some j → ∃ k, L2.way t.mask h k = j ∧ ∀ c, c < k → L2.way t.mask h c ∈ t.place.toList
structure Fst (t : SetTable) (h : Int) (K : Nat) : Prop where
  few : K < 10 * SetTable.turns t.mask
  free : L2.way t.mask h K ∉ t.place.toList
  full : ∀ c, c < K → L2.way t.mask h c ∈ t.place.toList
theorem Tb.fst {t : SetTable} {hs : List Int} (T : Tb t hs) (hl : hs.length ≤ t.mask) (h : Int) : ∃ K, Fst t h K := by
  obtain ⟨j, j1, j2⟩ := st_missing t.place.toList (t.mask + 1) (by rw [T.sz]; omega)
  obtain ⟨k, k1, k2⟩ := way_meets T.ms h (Nat.le_of_lt_succ j1)
  obtain ⟨K, a, b, c⟩ := st_least (p := fun z => L2.way t.mask h z ∉ t.place.toList) k (by rw [k2]; exact j2)
  refine ⟨K, by omega, b, fun z hz => ?_⟩
  rcases Classical.em (L2.way t.mask h z ∈ t.place.toList) with q | q
  · exact q
  · exact absurd q (c z hz)
theorem Tb.put {t : SetTable} {hs : List Int} (T : Tb t hs) {h : Int} {K : Nat} (F : Fst t h K) : ∃ p, p ≤ hs.length ∧ (t.put (L2.way t.mask h K)).2 = p ∧ Tb (t.put (L2.way t.mask h K)).1 (hs.take p ++ h :: hs.drop p) ∧
    (t.put (L2.way t.mask h K)).1.mask = t.mask ∧ (t.put (L2.way t.mask h K)).1.led = t.led ∧ (t.put (L2.way t.mask h K)).1.plain = t.plain ∧ (t.put (L2.way t.mask h K)).1.fill = hs.length + 1 := by
  have hle := way_in (m := t.mask) h K
  have hfr := F.free
  have hful := F.full
  generalize hj : L2.way t.mask h K = j at *
  obtain ⟨p, hp⟩ : ∃ p, p = SetTable.below t.place j := ⟨_, rfl⟩
  have c1 : p ≤ t.place.toList.length := by
    rw [hp, Array.length_toList]
    exact (below_cut T.ris j).1
  have c2 : p ≤ hs.length := by rw [← T.sz]; exact c1
  have pl : (t.put j).1.place.toList = t.place.toList.take p ++ j :: t.place.toList.drop p := by rw [hp]; exact put_place t j
  have ln : (t.put j).1.place.toList.length = hs.length + 1 := by rw [pl, len_ins _ c1, T.sz]
  refine ⟨p, c2, hp.symm, ⟨?_, put_dm T.dm j, by rw [ln, len_ins _ c2], T.ms, fun x hx => ?_, fun i h' j' a b => ?_⟩, rfl, rfl, rfl, ?_⟩
  · exact ris_insert T.ris fun e => hfr (List.mem_of_getElem? (by rw [Array.getElem?_toList]; exact e))
  · rw [pl] at hx
    rcases mem_ins.1 hx with q | q
    · rw [q]; exact hle
    · exact T.bd x q
  · have up : ∀ {x}, x ∈ t.place.toList → x ∈ (t.put j).1.place.toList := fun {x} hx => by rw [pl]; exact mem_ins.2 (.inr hx)
    rw [pl, tins_get _ c1] at b
    rw [tins_get hs c2] at a
    show ∃ k, L2.way t.mask h' k = j' ∧ ∀ c, c < k → L2.way t.mask h' c ∈ (t.put j).1.place.toList
    rcases Nat.lt_trichotomy i p with q | q | q
    · rw [if_pos q] at a b
      obtain ⟨k, u, v⟩ := T.wy i h' j' a b
      exact ⟨k, u, fun c hc => up (v c hc)⟩
    · rw [if_neg (by omega), if_pos q] at a b
      cases a
      cases b
      exact ⟨K, hj, fun c hc => up (hful c hc)⟩
    · rw [if_neg (by omega), if_neg (by omega)] at a b
      obtain ⟨k, u, v⟩ := T.wy (i - 1) h' j' a b
      exact ⟨k, u, fun c hc => up (v c hc)⟩
  · show (t.put j).1.place.size + (t.put j).1.dummies.size = _
    rw [put_dm T.dm j, ← Array.length_toList, ln]
    rfl
def M6 (m : Nat) : Prop := m = 7 ∨ m = 31 ∨ m = 127 ∨ m = 511 ∨ m = 2047 ∨ m = 8191
end Kr

set_option Elab.async false
set_option linter.all false
set_option maxRecDepth 100000
set_option maxHeartbeats 2000000
namespace Kr
open PySem PySem.Spec PyProof.Rows L2
section
variable {P : Program} {w : World}
def NoCls (P : Program) (w : World) (n : Nat) (s : Shared) (v : Value) : Prop := ∀ (A : Around) (E : Value → Shared → Prop) (Q : Bool → Shared → Prop), Q false s → wpAny (model P w) A (ofAClassStatement n v) Q E s
def HashAsk (P : Program) (w : World) (n : Nat) (s : Shared) (v : Value) : Prop := ∀ (A : Around) (E : Value → Shared → Prop) (Q : Bool → Shared → Prop), (∀ b, Q b s) → wpAny (model P w) A (hashByValue n v) Q E s
theorem NoCls.tup {n m : Nat} {s : Shared} {a : Addr} {o : Obj} {vs : Array Value} (ho : s.heap.get? a = some o) (hc : o.cls = .type "tuple") (hd : o.data = .seq vs m) (hv : ∀ v ∈ vs.toList, NoCls P w n s v) : NoCls P w (n + 1) s (.ref a) := fun A E Q h => by
  have hT : s.TypeIs (.ref a) "tuple" := ⟨o, ho, hc⟩
  unfold ofAClassStatement
  refine wpAny_bind (wpAny_typeOf hT ?_)
  dsimp only
  have e : (("tuple" : String) == "tuple") = true := by decide
  simp only [e, if_true, Bool.not_true, Bool.false_eq_true, if_false]
  try refine wpAny_bind (wpAny_pure ?_)
  try simp only [Bool.not_true, Bool.false_eq_true, if_false]
  show wpAny _ _ (seqItems? (.ref a) >>= _) _ _ s
  refine wpAny_bind (wpAny_seqItems ho hd ?_)
  dsimp only
  refine wpAny_bind ?_
  show wpAny _ _ (forIn vs _ _) _ _ s
  rw [← Array.forIn_toList]
  refine wpAny_forIn_list _ (fun rest r s' => r.1 = none ∧ s' = s ∧ ∀ v ∈ rest, NoCls P w n s v) _ ?_ ?_ _ _ ⟨rfl, rfl, hv⟩
  · rintro v rest r s' ⟨hr, rfl, hall⟩
    refine wpAny_bind (hall v List.mem_cons_self _ _ _ ?_)
    simp only [Bool.false_eq_true, if_false]
    exact wpAny_pure ⟨rfl, rfl, fun u hu' => hall u (List.mem_cons_of_mem _ hu')⟩
  · rintro ⟨r1, r2⟩ s' ⟨hr, rfl, _⟩
    simp only at hr
    subst hr
    exact wpAny_pure h
theorem HashAsk.tup {n m : Nat} {s : Shared} {a : Addr} {o : Obj} {vs : Array Value} (ho : s.heap.get? a = some o) (hc : o.cls = .type "tuple") (hd : o.data = .seq vs m) (hv : ∀ v ∈ vs.toList, HashAsk P w n s v) : HashAsk P w (n + 1) s (.ref a) := fun A E Q h => by
  have hT : s.TypeIs (.ref a) "tuple" := ⟨o, ho, hc⟩
  unfold hashByValue
  refine wpAny_bind (wpAny_specialOf hT F.slot_tuple_hash.lookup ?_)
  show wpAny _ _ (seqItems? (.ref a) >>= _) _ _ s
  refine wpAny_bind (wpAny_seqItems ho hd ?_)
  refine wpAny_bind ?_
  show wpAny _ _ (forIn vs _ _) _ _ s
  rw [← Array.forIn_toList]
  refine wpAny_forIn_list _ (fun rest r s' => r.1 = none ∧ s' = s ∧ ∀ v ∈ rest, HashAsk P w n s v) _ ?_ ?_ _ _ ⟨rfl, rfl, hv⟩
  · rintro v rest r s' ⟨hr, rfl, hall⟩
    refine wpAny_bind (hall v List.mem_cons_self _ _ _ fun b => ?_)
    cases b with
    | true =>
      simp only [Bool.not_true, Bool.false_eq_true, if_false]
      exact wpAny_pure ⟨rfl, rfl, fun u hu' => hall u (List.mem_cons_of_mem _ hu')⟩
    | false =>
      simp only [Bool.not_false, if_true]
      exact wpAny_pure (wpAny_pure (h false))
  · rintro ⟨r1, r2⟩ s' ⟨hr, rfl, _⟩
    simp only at hr
    subst hr
    exact wpAny_pure (h true)
mutual
theorem noCls_key : ∀ (k : NestedKey) (v : Value) (n : Nat) (s : Shared), NestedIs s.heap k v → k.depth ≤ n → NoCls P w n s v
  | .none, _, n, s, x, _ => by
    cases x
    intro A E Q h
    have e : ofAClassStatement n .none = pure false := by cases n <;> rfl
    rw [e]; exact wpAny_pure h
  | .num i, _, n, s, x, _ => by
    intro A E Q h
    cases x with
    | bool _ =>
      rename_i b _
      have e : ofAClassStatement n (.bool b) = pure false := by cases n <;> rfl
      rw [e]; exact wpAny_pure h
    | int _ t =>
      have e : ofAClassStatement n (.int i t) = pure false := by cases n <;> rfl
      rw [e]; exact wpAny_pure h
  | .text y, _, n, s, x, _ => by
    intro A E Q h
    cases x with
    | text _ t =>
      have e : ofAClassStatement n (.str y t) = pure false := by cases n <;> rfl
      rw [e]; exact wpAny_pure h
  | .tup ks, _, n, s, x, hd => by
    cases x with
    | tup ho hc hdat hk =>
      have hd' : NestedKey.depthAll ks + 1 ≤ n := by simpa [NestedKey.depth] using hd
      obtain ⟨m, rfl⟩ : ∃ m, n = m + 1 := ⟨n - 1, by omega⟩
      exact NoCls.tup ho hc hdat (noCls_keys ks _ m s hk (by omega))
theorem noCls_keys : ∀ (ks : List NestedKey) (vs : List Value) (n : Nat) (s : Shared), NestedAll s.heap ks vs → NestedKey.depthAll ks ≤ n → ∀ v ∈ vs, NoCls P w n s v
  | [], _, n, s, x, _ => by cases x; intro v hv; cases hv
  | k :: ks, _, n, s, x, hd => by
    cases x with
    | cons x1 x2 =>
      have hd' : max k.depth (NestedKey.depthAll ks) ≤ n := by simpa [NestedKey.depthAll] using hd
      intro v hv
      rcases List.mem_cons.mp hv with e | hv
      · rw [e]; exact noCls_key k _ n s x1 (by omega)
      · exact noCls_keys ks _ n s x2 (by omega) v hv
end
mutual
theorem hashAsk_key : ∀ (k : NestedKey) (v : Value) (n : Nat) (s : Shared), NestedIs s.heap k v → k.depth ≤ n → HashAsk P w n s v
  | .none, _, n, s, x, _ => by
    cases x
    intro A E Q h
    have e : hashByValue n .none = pure true := by cases n <;> rfl
    rw [e]; exact wpAny_pure (h _)
  | .num i, _, n, s, x, _ => by
    intro A E Q h
    cases x with
    | bool _ =>
      rename_i b _
      have e : hashByValue n (.bool b) = pure true := by cases n <;> rfl
      rw [e]; exact wpAny_pure (h _)
    | int _ t =>
      have e : hashByValue n (.int i t) = pure true := by cases n <;> rfl
      rw [e]; exact wpAny_pure (h _)
  | .text y, _, n, s, x, _ => by
    intro A E Q h
    cases x with
    | text _ t =>
      have e : hashByValue n (.str y t) = pure false := by cases n <;> rfl
      rw [e]; exact wpAny_pure (h _)
  | .tup ks, _, n, s, x, hd => by
    cases x with
    | tup ho hc hdat hk =>
      have hd' : NestedKey.depthAll ks + 1 ≤ n := by simpa [NestedKey.depth] using hd
      obtain ⟨m, rfl⟩ : ∃ m, n = m + 1 := ⟨n - 1, by omega⟩
      exact HashAsk.tup ho hc hdat (hashAsk_keys ks _ m s hk (by omega))
theorem hashAsk_keys : ∀ (ks : List NestedKey) (vs : List Value) (n : Nat) (s : Shared), NestedAll s.heap ks vs → NestedKey.depthAll ks ≤ n → ∀ v ∈ vs, HashAsk P w n s v
  | [], _, n, s, x, _ => by cases x; intro v hv; cases hv
  | k :: ks, _, n, s, x, hd => by
    cases x with
    | cons x1 x2 =>
      have hd' : max k.depth (NestedKey.depthAll ks) ≤ n := by simpa [NestedKey.depthAll] using hd
      intro v hv
      rcases List.mem_cons.mp hv with e | hv
      · rw [e]; exact hashAsk_key k _ n s x1 (by omega)
      · exact hashAsk_keys ks _ n s x2 (by omega) v hv
end
def IsN (h : Heap) (k : NestedKey) (b : Addr) : Prop := NestedIs h k (.ref b) ∧ k.depth ≤ 8
theorem IsN.keep {h h' : Heap} {k : NestedKey} {b : Addr} (x : IsN h k b) (hk : ∀ a o vs n, h.get? a = some o → o.data = .seq vs n → h'.get? a = some o) : IsN h' k b := ⟨NestedIs.at hk k _ x.1, x.2⟩
theorem IsN.same {h h' : Heap} {k : NestedKey} {a b : Addr} {o : Obj} {es : Array (Int × Value)} {ep : Nat} {t : SetTable} (x : IsN h k b) (ho : h.get? a = some o) (hd : o.data = .set es ep t) (hs : Heap.SameBut a h h') : IsN h' k b := by
  refine x.keep fun c oc vs n hc hcd => ?_
  refine (hs.2 c ?_).trans hc
  rintro rfl
  rw [ho] at hc
  cases hc
  rw [hd] at hcd
  cases hcd
variable {A : Around} {E : Value → Shared → Prop} {s : Shared}
abbrev nh (w : World) (p : Addr × NestedKey) : Int := p.2.hash w
def entN (w : World) (L : List (Addr × NestedKey)) : List (Int × Value) := L.map fun p => (nh w p, Value.ref p.1)
structure SN (w : World) (h : Heap) (a : Addr) (L : List (Addr × NestedKey)) (es : Array (Int × Value)) (ep : Nat) (t : SetTable) : Prop where
  ob : ∃ o, h.get? a = some o ∧ o.ExactSet ∧ o.data = .set es ep t
  rows : es.toList = entN w L
  tab : Tb t (L.map (nh w))
  m6 : M6 t.mask
  nd : (L.map (·.2)).Nodup
  tup : ∀ p ∈ L, IsN h p.2 p.1
  room : L.length * 5 < t.mask * 3
variable {a : Addr} {L : List (Addr × NestedKey)} {es : Array (Int × Value)} {ep : Nat} {t : SetTable}
theorem ent_len {w : World} {L : List (Addr × NestedKey)} {es : Array (Int × Value)} (h : es.toList = entN w L) : es.size = L.length := by
  have h1 := congrArg List.length h
  unfold entN at h1
  rw [Array.length_toList, List.length_map] at h1
  exact h1
theorem fits_of {t : SetTable} {n : Nat} (h1 : t.place.size = n) (h2 : t.dummies = #[]) (h3 : n ≤ t.mask) : t.fits n = true := by
  unfold SetTable.fits SetTable.fill
  rw [h2, Bool.and_eq_true, beq_iff_eq, decide_eq_true_eq]
  show t.place.size = n ∧ t.place.size + 0 ≤ t.mask
  omega
theorem SN.fits (R : SN w s.heap a L es ep t) : t.fits es.size = true := by
  have h1 := R.tab.sz
  rw [List.length_map, Array.length_toList] at h1
  have h2 := ent_len R.rows
  have h3 := R.room
  exact fits_of (by omega) R.tab.dm (by omega)
end
mutual
/-- the data as a key -/
def kyO : PyData → NestedKey
  | .none => .none
  | .bool b => .num (if b = true then 1 else 0)
  | .int i => .num i
  | .str x => .text x
  | .tuple l => .tup (kyL l)
  | .list _ => .none
  | .dict _ => .none
def kyL : List PyData → List NestedKey
  | [] => []
  | d :: l => kyO d :: kyL l
end
mutual
def hbl : PyData → Bool
  | .tuple l => hblL l
  | .list _ => false
  | .dict _ => false
  | _ => true
def hblL : List PyData → Bool
  | [] => true
  | d :: l => hbl d && hblL l
end
mutual
theorem reads_key {h : Heap} : ∀ (d : PyData) (u : Value) (as : List Addr), hbl d = true → Reads h u d as → NestedIs h (kyO d) u
  | .none, _, _, _, r => by cases r; exact .none
  | .bool b, _, _, _, r => by cases r; exact .bool rfl
  | .int i, _, _, _, r => by cases r; exact .int _ _
  | .str x, _, _, _, r => by cases r; exact .text _ _
  | .tuple l, _, _, hb, r => by
    cases r with
    | tuple ho hc hd ha => exact .tup ho hc hd (reads_keys l _ _ (by simpa [hbl] using hb) ha)
  | .list _, _, _, hb, _ => by simp [hbl] at hb
  | .dict _, _, _, hb, _ => by simp [hbl] at hb
theorem reads_keys {h : Heap} : ∀ (l : List PyData) (us : List Value) (as : List Addr), hblL l = true → ReadsAll h us l as → NestedAll h (kyL l) us
  | [], _, _, _, r => by cases r; exact .nil
  | d :: l, _, _, hb, r => by
    have hb' : hbl d = true ∧ hblL l = true := by simpa [hblL] using hb
    cases r with
    | cons r1 r2 => exact .cons (reads_key d _ _ hb'.1 r1) (reads_keys l _ _ hb'.2 r2)
end
mutual
/-- data made of tuples that stand in the heap -/
inductive Dt (H : Hp) : V → PyData → Prop
  | non : Dt H .non .none
  | bl (b : Bool) : Dt H (.bl b) (.bool b)
  | int (i : Int) : Dt H (.int i) (.int i)
  | str (x : Str) : Dt H (.str x) (.str x)
  | tup {a : Addr} {xs : List V} {ds : List PyData} : H a = some (.tup xs) → DtAll H xs ds → Dt H (.ref a) (.tuple ds)
inductive DtAll (H : Hp) : List V → List PyData → Prop
  | nil : DtAll H [] []
  | cons {v : V} {vs : List V} {d : PyData} {ds : List PyData} : Dt H v d → DtAll H vs ds → DtAll H (v :: vs) (d :: ds)
end
mutual
theorem Dt.keep {H H' : Hp} (k : Tk H H') : ∀ (d : PyData) (v : V), Dt H v d → Dt H' v d
  | .none, _, h => by cases h; exact .non
  | .bool b, _, h => by cases h; exact .bl b
  | .int i, _, h => by cases h; exact .int i
  | .str x, _, h => by cases h; exact .str x
  | .tuple ds, _, h => by
    cases h with
    | tup e ha => exact .tup (k _ _ e) (DtAll.keep k ds _ ha)
  | .list _, _, h => by cases h
  | .dict _, _, h => by cases h
theorem DtAll.keep {H H' : Hp} (k : Tk H H') : ∀ (ds : List PyData) (vs : List V), DtAll H vs ds → DtAll H' vs ds
  | [], _, h => by cases h; exact .nil
  | d :: ds, _, h => by
    cases h with
    | cons h1 h2 => exact .cons (Dt.keep k d _ h1) (DtAll.keep k ds _ h2)
end
mutual
theorem Dt.dp {K : PySem.W.Frag} {H : Hp} : ∀ (d : PyData) (v : V), Dt H v d → Dp K H v d ∧ hbl d = true
  | .none, _, h => by cases h; exact ⟨.non, rfl⟩
  | .bool b, _, h => by cases h; exact ⟨.bl b, rfl⟩
  | .int i, _, h => by cases h; exact ⟨.int i, rfl⟩
  | .str x, _, h => by cases h; exact ⟨.str x, rfl⟩
  | .tuple ds, _, h => by
    cases h with
    | tup e ha =>
      obtain ⟨a1, a2⟩ := DtAll.dp (K := K) ds _ ha
      exact ⟨.tup (SqT.of e) a1, by simpa [hbl] using a2⟩
  | .list _, _, h => by cases h
  | .dict _, _, h => by cases h
theorem DtAll.dp {K : PySem.W.Frag} {H : Hp} : ∀ (ds : List PyData) (vs : List V), DtAll H vs ds → DpAll K H vs ds ∧ hblL ds = true
  | [], _, h => by cases h; exact ⟨.nil, rfl⟩
  | d :: ds, _, h => by
    cases h with
    | cons h1 h2 =>
      obtain ⟨a1, a2⟩ := Dt.dp (K := K) d _ h1
      obtain ⟨b1, b2⟩ := DtAll.dp (K := K) ds _ h2
      exact ⟨.cons a1 b1, by rw [hblL, a2, b2]; rfl⟩
end
def MemN (H : Hp) (p : Addr × NestedKey) : Prop := ∃ d, Dt H (.ref p.1) d ∧ kyO d = p.2 ∧ p.2.depth ≤ 8
theorem MemN.keep {H H' : Hp} (k : Tk H H') {p : Addr × NestedKey} (h : MemN H p) : MemN H' p := by
  obtain ⟨d, a, b, c⟩ := h
  exact ⟨d, a.keep k, b, c⟩
structure SN0 (w : World) (h : Heap) (a : Addr) (L : List (Addr × NestedKey)) : Prop where
  ex : ∃ (es : Array (Int × Value)) (ep : Nat) (t : SetTable), (∃ o, h.get? a = some o ∧ o.ExactSet ∧ o.data = .set es ep t) ∧ es.toList = entN w L ∧ Tb t (L.map (nh w)) ∧ M6 t.mask ∧ (L.map (·.2)).Nodup ∧ L.length * 5 < t.mask * 3
section
variable {X : Cx} {pins : List (Addr × Obj)} {σ : L2.St} {H : Hp} {s : Shared}
theorem MemN.is (I : Inv X pins σ H s) {p : Addr × NestedKey} (h : MemN H p) : IsN s.heap p.2 p.1 := by
  obtain ⟨d, hd', e, hk⟩ := h
  obtain ⟨hd, hb⟩ := Dt.dp (K := X.K) d _ hd'
  obtain ⟨as, r⟩ := Dp.reads I d _ (.ref p.1) hd rfl
  rw [← e]
  exact ⟨reads_key d _ _ hb r, by rw [e]; exact hk⟩
theorem SN.o {w : World} {h : Heap} {a : Addr} {L : List (Addr × NestedKey)} {es : Array (Int × Value)} {ep : Nat} {t : SetTable} (R : SN w h a L es ep t) : SN0 w h a L := ⟨es, ep, t, R.ob, R.rows, R.tab, R.m6, R.nd, R.room⟩
variable {o e : Expr} {es : List Expr} {to : TE} {t : TA} {apos cpos : Pos}
end
end Kr

set_option Elab.async false
set_option linter.all false
set_option maxRecDepth 100000
set_option maxHeartbeats 2000000
namespace Kr
open PySem PySem.Spec PyProof.Rows L2
structure KCn (P : Program) (w : World) (K : PySem.W.Frag) (mg : Str → Option Value) (base : Heap) (k : Nat) (x : Str) (n : Nat) (ks : List Str) (sp : Sp) (gV : List V → List V → List V) : Prop where
  ex : ∃ (f : Addr) (fd : FuncData) (ps : List Str) (g : List Value → List Value → List Value), FnOk P w K mg base (CX P w) k f fd ps sp ∧ mg x = some (.ref f) ∧ PySem.W.keepIn K (.ref f) = true ∧ KBn K fd ps n ks g gV
section
variable {X : Cx} {k j n : Nat} {x : Str} {C : Addr} {ks : List Str} {sp : Sp} {gV : List V → List V → List V} {e : Expr} {es : List Expr} {kws : List Keyword} {t tw : TA} {p pos : Pos} {W : WX}
end
end Kr

set_option Elab.async false
set_option linter.all false
set_option maxRecDepth 100000
set_option maxHeartbeats 2000000
namespace Kr
open PySem PySem.Spec PyProof.Rows L2
open SX (S)
end Kr

set_option Elab.async false
set_option linter.all false
set_option maxRecDepth 100000
set_option maxHeartbeats 2000000
namespace Kr
open PySem PySem.Spec PyProof.Rows L2 GenW
section
variable {M : Model} {A : Around} {R : GenEnd} {Y : Protocol} {n : Nat} {s₀ : Shared} {c : Code} {fs : List Frame} {s : Shared} {env : Env}
  {K : Flow → Sem PySem.Fin} {J : Value → Sem PySem.Fin} {gd : Bool → Bool} {lv : List Value → List Value}
end
section
variable {prog : Program} {w : World} {A : Around} {R : GenEnd} {Y : Protocol} {n : Nat} {s₀ : Shared} {fs : List Frame} {s : Shared} {env : Env}
end
section
variable {X : Cx} {tg : Expr}
end
section
variable {X : Cx}
end
structure KGn (P : Program) (w : World) (K : PySem.W.Frag) (mg : Str → Option Value) (base : Heap) (k : Nat) (x : Str) (n : Nat) (ks : List Str) (sp : SpG) (gV : List V → List V → List V) : Prop where
  ex : ∃ (f : Addr) (fd : FuncData) (ps : List Str) (g : List Value → List Value → List Value), GFn P w K mg base k f fd ps sp ∧ mg x = some (.ref f) ∧ PySem.W.keepIn K (.ref f) = true ∧ KBn K fd ps n ks g gV
section
variable {X : Cx} {k j n : Nat} {x : Str} {ks : List Str} {sp : SpG} {gV : List V → List V → List V} {e : Expr} {es : List Expr} {kws : List Keyword} {t tw : TA} {p pos : Pos}
end
set_option maxRecDepth 8000 in
section
variable {X : Cx}
end
theorem op_in_seqK {X : Cx} {K : PySem.W.Frag} (h : X.K = K) : OpR X (compareOp .In) (rIn K false) := by
  subst h
  exact op_in_seq
end Kr

set_option Elab.async false
set_option linter.all false
set_option maxRecDepth 100000
set_option maxHeartbeats 2000000
namespace Kr
open PySem PySem.Spec PyProof.Rows L2
structure KMd (P : Program) (w : World) (K : PySem.W.Frag) (mg : Str → Option Value) (base : Heap) (k : Nat) (C : Addr) (m : Str) (sp : Sp) (dvs : List V) : Prop where
  ex : ∃ (f : Addr) (fd : FuncData) (ps : List Str) (ds : List Value), Cls K C ∧ Meth K C m f ∧ FnOk P w K mg base (CX P w) k f fd ps sp ∧ Binds K fd ps ds ∧ Vals dvs ds
section
variable {X : Cx} {k j : Nat} {C : Addr} {m : Str} {sp : Sp} {o e : Expr} {es : List Expr} {ta : TE} {t : TA} {p pos apos : Pos} {W : WX} {dvs : List V}
end
section
variable {X : Cx} {body : List Stmt} {f₀ : Stmt} {fs : List Stmt} {pos : Pos} {tb : WX → TS} {tf tfs : TS} {Wout : WX}
end
section
variable {X : Cx} {K : PySem.W.Frag} {o value : Expr} {f : Str} {ta tv : TE} {pos pos' : Pos}
end
end Kr

set_option Elab.async false
set_option linter.all false
set_option maxRecDepth 100000
set_option maxHeartbeats 2000000
namespace Kr
open PySem PySem.Spec PyProof.Rows L2
section
variable {X : Cx} {k : Nat} {e : Expr} {nm : Str} {p pos : Pos} {W : WX}
end
end Kr

set_option Elab.async false
set_option linter.all false
set_option maxRecDepth 100000
set_option maxHeartbeats 2000000
namespace Kr
open PySem PySem.Spec PyProof.Rows L2 L2H
structure FnAs (P : Program) (w : World) (K : PySem.W.Frag) (mg : Str → Option Value) (base : Heap) (k : Nat) (f : Addr) (fd : FuncData) (ps : List Str) (sp : Sp) : Prop where
  len : ∀ vs H Q E, sp vs H Q E → vs.length = ps.length
  run : ∀ (A : Around) (outer : List Env) (s : Shared) (H : Hp) (args : Args) (us : List Value) (vs : List V) (Q : VK) (E : XK) (p : Addr × Obj), RoomH k A → PinOk outer H s p → Env0 P w K mg base A outer s H →
    BindsTo s fd args (ps.zip us) → Vals vs us → sp vs H Q E → codeAny (model P w) A (.call (.ref f) args) (CR (CX P w) outer P w H s Q E) s
structure KMp (P : Program) (w : World) (K : PySem.W.Frag) (mg : Str → Option Value) (base : Heap) (k : Nat) (C : Addr) (m : Str) (sp : Sp) : Prop where
  ex : ∃ (f : Addr) (fd : FuncData) (ps : List Str), Cls K C ∧ Meth K C m f ∧ FnAs P w K mg base k f fd ps sp ∧ Binds K fd ps []
section
variable {X : Cx} {j k : Nat} {C : Addr} {sp : Sp}
end
end Kr

set_option Elab.async false
set_option linter.all false
set_option maxRecDepth 100000
set_option maxHeartbeats 2000000
namespace Kr
open PySem PySem.Spec PyProof.Rows L2
def valN (L : List (NestedKey × Addr × V)) (k : NestedKey) : Option V := (L.find? fun x => decide (x.1 = k)).map (·.2.2)
def putN (L : List (NestedKey × Addr × V)) (k : NestedKey) (a : Addr) (v : V) : List (NestedKey × Addr × V) :=
  if (valN L k).isSome then L.map (fun x => if x.1 = k then (x.1, x.2.1, v) else x) else L ++ [(k, a, v)]
theorem putN_new {L : List (NestedKey × Addr × V)} {k : NestedKey} (h : valN L k = none) (a : Addr) (v : V) : putN L k a v = L ++ [(k, a, v)] := by
  unfold putN; rw [h]; rfl
theorem putN_mem {L : List (NestedKey × Addr × V)} {k : NestedKey} {a : Addr} {v : V} {p : NestedKey × Addr × V} (h : p ∈ putN L k a v) : (∃ q ∈ L, q.1 = p.1 ∧ q.2.1 = p.2.1) ∨ (p.1 = k ∧ p.2.1 = a) := by
  unfold putN at h
  split at h
  · obtain ⟨q, hq, rfl⟩ := List.mem_map.mp h
    left
    refine ⟨q, hq, ?_⟩
    split <;> exact ⟨rfl, rfl⟩
  · rcases List.mem_append.mp h with h | h
    · exact .inl ⟨p, h, rfl, rfl⟩
    · rw [List.mem_singleton] at h
      subst h
      exact .inr ⟨rfl, rfl⟩
theorem putN_len (L : List (NestedKey × Addr × V)) (k : NestedKey) (a : Addr) (v : V) : (putN L k a v).length ≤ L.length + 1 := by
  unfold putN
  split
  · rw [List.length_map]; omega
  · rw [List.length_append]; simp
abbrev LikeN (p : NestedKey × Addr × V) (q : NestedKey × Addr × Value) : Prop := p.1 = q.1 ∧ p.2.1 = q.2.1 ∧ RelV p.2.2 q.2.2
structure DN0 (P : Program) (w : World) (h : Heap) (a : Addr) (L : List (NestedKey × Addr × V)) : Prop where
  sz : L.length ≤ sizeLine
  sm : (a == sysModules) = false
  ex : ∃ xs : List (NestedKey × Addr × Value), Paired LikeN L xs ∧ ∃ o es ep, h.get? a = some o ∧ o.ExactDict ∧ o.data = .dict es ep ∧ es.toList = xs.map (entryOfKey (nestedKind P w)) ∧ (xs.map (·.1)).Nodup
def DctN (P : Program) (w : World) (a : Addr) (L : List (NestedKey × Addr × V)) : HO := .ext fun h => DN0 P w h a L
def KysN (H : Hp) (L : List (NestedKey × Addr × V)) : Prop := ∀ p ∈ L, MemN H (p.2.1, p.1)
theorem KysN.keep {H H' : Hp} {L : List (NestedKey × Addr × V)} (k : Tk H H') (h : KysN H L) : KysN H' L := fun p hp => (h p hp).keep k
theorem KysN.put {H : Hp} {L : List (NestedKey × Addr × V)} {k : NestedKey} {a : Addr} {v : V} (h : KysN H L) (hk : MemN H (a, k)) : KysN H (putN L k a v) := fun p hp => by
  rcases putN_mem hp with ⟨q, hq, e1, e2⟩ | ⟨e1, e2⟩
  · rw [← e1, ← e2]; exact h q hq
  · rw [e1, e2]; exact hk
theorem paired_find {L : List (NestedKey × Addr × V)} {xs : List (NestedKey × Addr × Value)} (r : Paired LikeN L xs) (k : NestedKey) : (valN L k = none ∧ atKey xs k = none) ∨ ∃ v p, valN L k = some v ∧ atKey xs k = some p ∧ RelV v p.2 := by
  induction r with
  | nil => exact .inl ⟨rfl, rfl⟩
  | @cons a b l m h t ih =>
    obtain ⟨h1, h2, h3⟩ := h
    by_cases e : a.1 = k
    · right
      have e' : b.1 = k := h1 ▸ e
      exact ⟨a.2.2, b.2, by simp [valN, e], by simp [atKey, e'], h3⟩
    · have e' : ¬ b.1 = k := fun z => e (h1.trans z)
      have a1 : valN (a :: l) k = valN l k := by simp [valN, e]
      have a2 : atKey (b :: m) k = atKey m k := by simp [atKey, e']
      rw [a1, a2]
      exact ih
theorem paired_put {L : List (NestedKey × Addr × V)} {xs : List (NestedKey × Addr × Value)} (r : Paired LikeN L xs) (k : NestedKey) (a : Addr) {v : V} {u : Value} (rv : RelV v u) : Paired LikeN (putN L k a v) (storedH xs k a u) := by
  rcases paired_find r k with ⟨h1, h2⟩ | ⟨v0, p0, h1, h2, _⟩
  · rw [putN_new h1, storedH_new h2]
    exact r.snoc ⟨rfl, rfl, rv⟩
  · rw [storedH_old h2]
    unfold putN
    rw [h1]
    simp only [Option.isSome_some, if_true]
    clear h1 h2
    induction r with
    | nil => exact .nil
    | @cons x y l m h t ih =>
      refine .cons ?_ ih
      obtain ⟨h1, h2, h3⟩ := h
      unfold putAt
      dsimp only
      by_cases e : x.1 = k
      · have e' : y.1 = k := h1 ▸ e
        rw [if_pos e, if_pos e']
        exact ⟨h1, h2, rv⟩
      · have e' : ¬ y.1 = k := fun z => e (h1.trans z)
        rw [if_neg e, if_neg e']
        exact ⟨h1, h2, h3⟩
theorem paired_len {α β : Type} {F : α → β → Prop} {l : List α} {m : List β} (r : Paired F l m) : l.length = m.length := by
  induction r with
  | nil => rfl
  | cons _ _ ih => simp [ih]
section
variable {X : Cx} {pins : List (Addr × Obj)} {σ : L2.St} {H : Hp} {s : Shared}
theorem dctN_new {P : Program} {w : World} {H : Hp} {h : Heap} {a : Addr} {L : List (NestedKey × Addr × V)} (R : DN0 P w h a L) : ObjOk P w H h a (DctN P w a L) := by
  obtain ⟨xs, _, o, es, ep, ho, _⟩ := R.ex
  refine ⟨R, ⟨o, ho⟩, fun h1 h2 p k => ?_⟩
  obtain ⟨xs', r', o', es', ep', ho', q'⟩ := DN0.ex p
  exact ⟨DN0.sz p, DN0.sm p, xs', r', o', es', ep', k o' ho', q'⟩
theorem dctN_of (I : Inv X pins σ H s) {a : Addr} {L : List (NestedKey × Addr × V)} (ha : H a = some (DctN X.prog X.w a L)) (hm : KysN H L) : DN0 X.prog X.w s.heap a L ∧ ∃ xs, Paired LikeN L xs ∧ s.heap.DictOfH (nestedKind X.prog X.w) a xs := by
  have R : DN0 X.prog X.w s.heap a L := (I.hok a _ ha).1
  refine ⟨R, ?_⟩
  obtain ⟨xs, r, o, es, ep, ho, hex, hd, he, hn⟩ := R.ex
  refine ⟨xs, r, o, es, ep, ho, hex, hd, he, ?_, hn⟩
  have key : ∀ {L : List (NestedKey × Addr × V)} {xs : List (NestedKey × Addr × Value)}, Paired LikeN L xs → KysN H L → ∀ x ∈ xs, (nestedKind X.prog X.w).is s.heap x.1 x.2.1 := by
    intro L xs r
    induction r with
    | nil => intro _ x hx; cases hx
    | @cons p q l m h t ih =>
      intro hm x hx
      rcases List.mem_cons.mp hx with rfl | hx
      · have := (hm p (by simp)).is I
        obtain ⟨h1, h2, _⟩ := h
        rw [← h1, ← h2]
        exact this
      · exact ih (fun p hp => hm p (by simp [hp])) x hx
  exact key r hm
def tDNewN (P : Program) (w : World) : TE := fun _ H Q => ∀ p, H p = none → Q (.ref p) (upd H p (DctN P w p []))
theorem pe_dnewN {pos : Pos} : PE X (.Dict [] [] pos) (tDNewN X.prog X.w) := ⟨fun pins s σ H Q I h =>
  wpAny_Dict_empty ⟨.ref s.heap.objs.size, _, I.laid (a := s.heap.objs.size) (o := DctN X.prog X.w s.heap.objs.size []) (t' := s.toks) (fun _ _ q => Heap.get?_push_of_some _ q) (Nat.le_refl _)
    (dctN_new ⟨Nat.zero_le _, beq_eq_false_iff_ne.mpr (Ne.symm (Nat.ne_of_lt I.big)), [], .nil, _, #[], 0, Heap.get?_push_size _ rfl, ⟨rfl, rfl, rfl⟩, rfl, rfl, List.nodup_nil⟩), rfl, h _ (I.hok.fresh (Nat.le_refl _))⟩⟩
def rSetDN (P : Program) (w : World) : TSet := fun o i v H Q => ∃ (a b : Addr) (k : NestedKey) (L : List (NestedKey × Addr × V)), o = .ref a ∧ i = .ref b ∧ H a = some (DctN P w a L) ∧ KysN H L ∧ MemN H (b, k) ∧ L.length < sizeLine ∧ Q (upd H a (DctN P w a (putN L k b v)))
theorem set_dictN (hu : X.A.units + 64 < cLine) : PSet X (rSetDN X.prog X.w) := by
  intro pins s σ H o i v ov iv u Q I ro ri rv h
  obtain ⟨a, b, k, L, rfl, rfl, ha, hm, hk, hz, q⟩ := h
  cases (show ov = Value.ref a from ro)
  cases (show iv = Value.ref b from ri)
  obtain ⟨R, xs, r, dd⟩ := dctN_of I ha hm
  have hl := paired_len r
  refine wpAny_setItem_heap (knd := nestedKind X.prog X.w) (hsz := by rw [← hl]; exact Nat.le_of_lt hz) (show X.A.in1.units + 8 < cLine from (by show (X.A.units + 1) + 8 < cLine; omega)) (MemN.is I hk) dd fun h' hm' hs => ?_
  obtain ⟨o', es', ep', ho', hex', hd', he', _, hn'⟩ := hm'
  have new : DN0 X.prog X.w h' a (putN L k b v) := ⟨Nat.le_trans (putN_len L k b v) (by omega), R.sm, _, paired_put r k b rv, o', es', ep', ho', hex', hd', he', hn'⟩
  exact ⟨_, d_write I (by rw [ha]; trivial) hs ⟨o', ho'⟩ (dctN_new new), q⟩
end
end Kr
namespace Kr
open PySem PySem.Spec PyProof.Rows L2
open SX (S)
section
variable {X : Cx}
end
end Kr

set_option Elab.async false
set_option linter.all false
set_option maxRecDepth 100000
set_option maxHeartbeats 2000000
namespace Kr
open PySem PySem.Spec PyProof.Rows L2
open SX (S)
section
variable {X : Cx}
end
end Kr

set_option Elab.async false
set_option linter.all false
set_option maxRecDepth 100000
set_option maxHeartbeats 2000000
namespace Kr
open PySem PySem.Spec PyProof.Rows L2
section
variable {X : Cx}
end
end Kr

set_option Elab.async false
set_option linter.all false
set_option maxRecDepth 100000
set_option maxHeartbeats 2000000
namespace Kr
open PySem PySem.Spec PyProof.Rows L2
open SX (S)
abbrev MkR := Option (Bool × List Nat)
structure Stp where
  ls : Bool
  mr : MkR
  kp : List Nat
  bk : List Nat
  gv : List Nat
  wr : List Nat
def Stp.look (s : Stp) : List Nat := match s.bk with
  | c :: _ => [c]
  | [] => s.gv
def Stp.drop (s : Stp) : Bool × Stp := match s.bk with
  | _ :: r => (false, { s with bk := r })
  | [] => (true, { s with gv := [] })
def Stp.emit1 (h : Nat) (s : Stp) (c : Nat) : Stp := match s.mr with
  | none => { s with ls := decide (c = 10), wr := s.wr ++ [c] }
  | some (f, hd) => if hd.length < h then { s with ls := decide (c = 10), mr := some (f, hd ++ [c]) } else { s with ls := decide (c = 10), wr := s.wr ++ (hd ++ [c]), mr := none }
def Stp.emit (h : Nat) (s : Stp) (cs : List Nat) : Stp := cs.foldl (Stp.emit1 h) s
def stopsC (key : Nat) (sign : List Nat) (a : List Nat) : Bool :=
  if key = 47 then decide (a = sign) else if key = 36 then decide (a = [10]) else decide ((match a with | [c] => decide (c ∈ wsg) | _ => false) = decide (key = 110))
def Stp.useMark (h : Nat) (s : Stp) (key : Nat) : Bool × Stp := match s.mr with
  | none => (false, s)
  | some (f, hd) =>
    if key = 98 then (if hd.length + s.bk.length > h then (false, s) else (true, { s with bk := hd ++ s.bk, ls := f, mr := some (f, []) }))
    else if key = 107 then (true, { s with kp := hd })
    else (true, { s with kp := hd, ls := f, mr := some (f, []) })
def mkHd : MkR → List Nat
  | none => []
  | some (_, hd) => hd
def Stp.setMark (s : Stp) : Stp := { s with wr := s.wr ++ mkHd s.mr, mr := some (s.ls, []) }
def Stp.still (h : Nat) (s : Stp) (key : Nat) (sign : List Nat) : Bool × Stp :=
  if key ∈ [98, 107, 99] then s.useMark h key
  else if key = 61 then (decide (s.look = sign), s)
  else if key = 94 then (s.ls, s)
  else if key = 109 then (true, s.setMark)
  else (decide ((if key = 39 then sign else s.kp) ≠ []), s.emit h (if key = 39 then sign else s.kp))
def Stp.step (h : Nat) (s : Stp) (key : Nat) (sign : List Nat) : Option Bool × Bool × Stp :=
  if key ∈ [47, 119, 110, 36] then
    (if s.look = [] then (some (decide (key ∈ [119, 36])), false, s)
     else if stopsC key sign s.look then (some true, false, s)
     else (none, (s.emit h s.look).drop))
  else if key = 62 ∨ key = 120 then
    (if s.look = [] then (some false, false, s) else (some true, (if key = 62 then s.emit h s.look else s).drop))
  else (some (s.still h key sign).1, false, (s.still h key sign).2)
structure Rs where
  n : Nat
  s : Stp
  pr : Nat
  rd : List Nat
  tk : Bool
def bump (rd : List Nat) (i : Int) : List Nat := if 0 ≤ i then rd.modify i.toNat (· + 1) else rd
def Row.kc (r : Row) : Nat := r.k.headD 0
def nxR (rows : List Row) (h : Nat) (r : Rs) : Rs := match rows[r.n]? with
  | none => r
  | some row => match r.s.step h row.kc row.s with
    | (none, t, s) => { r with s := s, tk := t }
    | (some b, t, s) => { n := (if b then row.o else row.f).1, s := s, pr := r.pr + 1, rd := bump r.rd (if b then row.o else row.f).2, tk := t }
def finR (rows : List Row) (r : Rs) : Bool := decide (¬ r.n < rows.length) || r.tk
abbrev Ky := Nat × Bool × MkR × List Nat × List Nat
def Rs.ky (r : Rs) : Ky := (r.n, r.s.ls, r.s.mr, r.s.bk, r.s.kp)
def itR (rows : List Row) (h : Nat) (r : Rs) : Nat → Rs
  | 0 => r
  | j + 1 => nxR rows h (itR rows h r j)
structure RRun (rows : List Row) (h : Nat) (r : Rs) (n : Nat) : Prop where
  go : ∀ j, j < n → finR rows (itR rows h r j) = false
  df : ∀ i j, i < j → j < n → (itR rows h r i).ky ≠ (itR rows h r j).ky
  en : finR rows (itR rows h r n) = true ∨ ∃ j, j < n ∧ (itR rows h r j).ky = (itR rows h r n).ky
def txsN (sg : List Nat) : Nat → List (List Nat)
  | 0 => [[]]
  | h + 1 => [] :: sg.flatMap fun c => (txsN sg h).map (c :: ·)
theorem mem_txsN {sg : List Nat} : ∀ {h : Nat} {x : List Nat}, x.length ≤ h → (∀ c ∈ x, c ∈ sg) → x ∈ txsN sg h
  | 0, x, hl, _ => by
    have : x = [] := List.eq_nil_of_length_eq_zero (by omega)
    rw [this]; exact List.mem_singleton.mpr rfl
  | h + 1, [], _, _ => List.mem_cons_self
  | h + 1, c :: r, hl, hc => by
    refine List.mem_cons_of_mem _ (List.mem_flatMap.mpr ⟨c, hc c (by simp), List.mem_map.mpr ⟨r, mem_txsN (by simp at hl; omega) (fun x hx => hc x (by simp [hx])), rfl⟩⟩)
def lstL (l : List Nat) : Bool := match l.getLast? with | some c => decide (c = 10) | none => false
structure SOk (sg : List Nat) (h : Nat) (s : Stp) : Prop where
  kl : s.kp.length ≤ h
  ks : ∀ c ∈ s.kp, c ∈ sg
  bl : s.bk.length ≤ h
  bs : ∀ c ∈ s.bk, c ∈ sg
  ml : ∀ f hd, s.mr = some (f, hd) → hd.length ≤ h ∧ (∀ c ∈ hd, c ∈ sg) ∧ s.ls = (if hd = [] then f else lstL hd)
  gl : s.gv.length ≤ 1
  gs : ∀ c ∈ s.gv, c ∈ sg
theorem SOk.look {sg : List Nat} {h : Nat} {s : Stp} (k : SOk sg h s) : (∀ c ∈ s.look, c ∈ sg) ∧ s.look.length ≤ 1 := by
  unfold Stp.look
  cases e : s.bk with
  | nil => exact ⟨k.gs, k.gl⟩
  | cons c r => exact ⟨fun x hx => k.bs x (by rw [e]; simp at hx; simp [hx]), Nat.le_refl _⟩
theorem SOk.emit1 {sg : List Nat} {h c : Nat} {s : Stp} (k : SOk sg h s) (hc : c ∈ sg) : SOk sg h (s.emit1 h c) := by
  unfold Stp.emit1
  split
  · exact ⟨k.kl, k.ks, k.bl, k.bs, fun f hd e => (by rename_i e0; have e : s.mr = some (f, hd) := e; rw [e0] at e; cases e), k.gl, k.gs⟩
  · rename_i f hd e0
    obtain ⟨m1, m2, m3⟩ := k.ml f hd e0
    split
    · rename_i hl
      refine ⟨k.kl, k.ks, k.bl, k.bs, fun f' hd' e => ?_, k.gl, k.gs⟩
      have e : some (f, hd ++ [c]) = some (f', hd') := e
      cases e
      refine ⟨by simp; omega, fun x hx => ?_, ?_⟩
      · rcases List.mem_append.mp hx with hx | hx
        · exact m2 x hx
        · rw [List.mem_singleton.mp hx]; exact hc
      · rw [if_neg (by simp)]
        simp [lstL]
    · exact ⟨k.kl, k.ks, k.bl, k.bs, fun f hd e => (by have e : (none : MkR) = some (f, hd) := e; cases e), k.gl, k.gs⟩
theorem SOk.emit {sg : List Nat} {h : Nat} : ∀ {cs : List Nat} {s : Stp}, SOk sg h s → (∀ c ∈ cs, c ∈ sg) → SOk sg h (s.emit h cs)
  | [], _, k, _ => k
  | c :: cs, s, k, hc => SOk.emit (cs := cs) (s := s.emit1 h c) (k.emit1 (hc c (by simp))) fun x hx => hc x (by simp [hx])
theorem SOk.drop {sg : List Nat} {h : Nat} {s : Stp} (k : SOk sg h s) : SOk sg h s.drop.2 := by
  unfold Stp.drop
  cases e : s.bk with
  | nil => exact ⟨k.kl, k.ks, Nat.zero_le _, fun c hc => (by cases hc), k.ml, Nat.zero_le _, fun c hc => by cases hc⟩
  | cons c r =>
    have kb := k.bl
    rw [e] at kb
    exact ⟨k.kl, k.ks, by show r.length ≤ h; simp at kb; omega, fun x hx => k.bs x (by rw [e]; simp [show x ∈ r from hx]), k.ml, k.gl, k.gs⟩
theorem SOk.useMark {sg : List Nat} {h key : Nat} {s : Stp} (k : SOk sg h s) : SOk sg h (s.useMark h key).2 := by
  unfold Stp.useMark
  split
  · exact k
  · rename_i f hd e0
    obtain ⟨m1, m2, m3⟩ := k.ml f hd e0
    have fin : ∀ f' hd', (some (f, ([] : List Nat)) : MkR) = some (f', hd') → hd'.length ≤ h ∧ (∀ c ∈ hd', c ∈ sg) ∧ f = (if hd' = [] then f' else lstL hd') := fun f' hd' e => by
      cases e
      exact ⟨Nat.zero_le _, fun c hc => (by cases hc), by rw [if_pos rfl]⟩
    split
    · split
      · exact k
      · rename_i hl
        refine ⟨k.kl, k.ks, by show (hd ++ s.bk).length ≤ h; rw [List.length_append]; omega, fun x hx => ?_, fin, k.gl, k.gs⟩
        rcases List.mem_append.mp (show x ∈ hd ++ s.bk from hx) with hx | hx
        · exact m2 x hx
        · exact k.bs x hx
    · split
      · exact ⟨m1, m2, k.bl, k.bs, k.ml, k.gl, k.gs⟩
      · exact ⟨m1, m2, k.bl, k.bs, fin, k.gl, k.gs⟩
theorem SOk.setMark {sg : List Nat} {h : Nat} {s : Stp} (k : SOk sg h s) : SOk sg h s.setMark := by
  refine ⟨k.kl, k.ks, k.bl, k.bs, fun f hd e => ?_, k.gl, k.gs⟩
  have e : some (s.ls, ([] : List Nat)) = some (f, hd) := e
  cases e
  exact ⟨Nat.zero_le _, fun c hc => (by cases hc), by rw [if_pos rfl]; rfl⟩
theorem SOk.still {sg : List Nat} {h key : Nat} {sign : List Nat} {s : Stp} (k : SOk sg h s) (hs : key ≠ 61 → ∀ c ∈ sign, c ∈ sg) : SOk sg h (s.still h key sign).2 := by
  unfold Stp.still
  split
  · exact k.useMark
  · split
    · exact k
    · rename_i n61
      split
      · exact k
      · split
        · exact k.setMark
        · refine k.emit fun c hc => ?_
          split at hc
          · exact hs n61 c hc
          · exact k.ks c hc
theorem SOk.step {sg : List Nat} {h key : Nat} {sign : List Nat} {s : Stp} (k : SOk sg h s) (hs : key ≠ 61 → ∀ c ∈ sign, c ∈ sg) : SOk sg h (s.step h key sign).2.2 := by
  unfold Stp.step
  split
  · split
    · exact k
    · split
      · exact k
      · exact (k.emit k.look.1).drop
  · split
    · split
      · exact k
      · show SOk sg h (if key = 62 then s.emit h s.look else s).drop.2
        split
        · exact (k.emit k.look.1).drop
        · exact k.drop
    · exact k.still hs
def RwsOk (sg : List Nat) (rows : List Row) : Prop := ∀ r ∈ rows, r.kc ≠ 61 → ∀ c ∈ r.s, c ∈ sg
theorem nxR_ok {sg : List Nat} {rows : List Row} {h : Nat} {r : Rs} (hr : RwsOk sg rows) (k : SOk sg h r.s) : SOk sg h (nxR rows h r).s := by
  unfold nxR
  split
  · exact k
  · rename_i row e
    have hs := hr row (List.mem_of_getElem? e)
    have := k.step (key := row.kc) hs
    split
    · rename_i t s e2; rw [e2] at this; exact this
    · rename_i b t s e2; rw [e2] at this; exact this
theorem itR_ok {sg : List Nat} {rows : List Row} {h : Nat} {r : Rs} (hr : RwsOk sg rows) (k : SOk sg h r.s) : ∀ j, SOk sg h (itR rows h r j).s
  | 0 => k
  | j + 1 => nxR_ok hr (itR_ok hr k j)
def allKy (sg : List Nat) (h len : Nat) : List Ky :=
  (List.range len).flatMap fun n => ([true, false].flatMap fun b => ((b, (none : MkR)) :: (txsN sg h).map fun hd => ((if hd = [] then b else lstL hd), some (b, hd)))).flatMap fun lm => (txsN sg h).flatMap fun bk => (txsN sg h).map fun kp => (n, lm.1, lm.2, bk, kp)
theorem SOk.mem {sg : List Nat} {h len : Nat} {r : Rs} (k : SOk sg h r.s) (hn : r.n < len) : r.ky ∈ allKy sg h len := by
  refine List.mem_flatMap.mpr ⟨r.n, List.mem_range.mpr hn, List.mem_flatMap.mpr ⟨(r.s.ls, r.s.mr), ?_, List.mem_flatMap.mpr ⟨r.s.bk, mem_txsN k.bl k.bs, List.mem_map.mpr ⟨r.s.kp, mem_txsN k.kl k.ks, rfl⟩⟩⟩⟩
  cases e : r.s.mr with
  | none =>
    refine List.mem_flatMap.mpr ⟨r.s.ls, by cases r.s.ls <;> simp, ?_⟩
    exact List.mem_cons_self
  | some m =>
    obtain ⟨f, hd⟩ := m
    obtain ⟨m1, m2, m3⟩ := k.ml f hd e
    refine List.mem_flatMap.mpr ⟨f, by cases f <;> simp, List.mem_cons_of_mem _ (List.mem_map.mpr ⟨hd, mem_txsN m1 m2, ?_⟩)⟩
    rw [m3]
theorem pigeon {α : Type} [DecidableEq α] : ∀ (l D : List α), l.Nodup → (∀ x ∈ l, x ∈ D) → l.length ≤ D.length
  | [], _, _, _ => Nat.zero_le _
  | x :: l, D, hn, hs => by
    obtain ⟨h1, h2⟩ := List.nodup_cons.mp hn
    have hx : x ∈ D := hs x List.mem_cons_self
    have := pigeon l (D.erase x) h2 fun y hy => (List.mem_erase_of_ne (fun e => h1 (by rw [← e]; exact hy))).mpr (hs y (List.mem_cons_of_mem _ hy))
    rw [List.length_erase_of_mem hx] at this
    have := List.length_pos_of_mem hx
    rw [List.length_cons]
    omega
theorem RRun.ex {sg : List Nat} {rows : List Row} {h : Nat} {r : Rs} (hr : RwsOk sg rows) (k : SOk sg h r.s) : ∃ n, RRun rows h r n ∧ n ≤ (allKy sg h rows.length).length := by
  let B := (allKy sg h rows.length).length
  let P := fun n => finR rows (itR rows h r n) = true ∨ ∃ j, j < n ∧ (itR rows h r j).ky = (itR rows h r n).ky
  have hex : ∃ m, m ≤ B ∧ P m := by
    refine Classical.byContradiction fun no => ?_
    have no : ∀ m, m ≤ B → ¬ P m := fun m hm hp => no ⟨m, hm, hp⟩
    have nd : ((List.range (B + 1)).map fun j => (itR rows h r j).ky).Nodup := by
      refine List.pairwise_map.mpr (List.Pairwise.imp_of_mem ?_ (List.pairwise_lt_range (n := B + 1)))
      intro a b ha hb hab e
      exact no b (by have := List.mem_range.mp hb; omega) (.inr ⟨a, hab, e⟩)
    haveI : DecidableEq Ky := fun a b => Classical.propDecidable (a = b)
    have := pigeon _ (allKy sg h rows.length) nd fun x hx => by
      obtain ⟨j, hj, rfl⟩ := List.mem_map.mp hx
      refine (itR_ok hr k j).mem ?_
      have q : ¬ P j := no j (by have := List.mem_range.mp hj; omega)
      refine Classical.byContradiction fun c => q (.inl ?_)
      unfold finR
      rw [decide_eq_true c]
      rfl
    rw [List.length_map, List.length_range] at this
    omega
  obtain ⟨m, hm, hp⟩ := hex
  obtain ⟨n, hn, h1, h2⟩ := st_least (p := P) m hp
  refine ⟨n, ⟨fun j hj => ?_, fun i j hij hj e => h2 j hj (.inr ⟨i, hij, e⟩), h1⟩, by omega⟩
  cases e : finR rows (itR rows h r j) with
  | false => rfl
  | true => exact absurd (.inl e) (h2 j hj)
end Kr

set_option Elab.async false
set_option linter.all false
set_option maxRecDepth 100000
set_option maxHeartbeats 2000000
namespace L2
open PySem PySem.Spec PyProof.Rows
end L2

set_option Elab.async false
set_option linter.all false
set_option maxRecDepth 100000
set_option maxHeartbeats 2000000
namespace Kr
open PySem PySem.Spec PyProof.Rows L2
open SX (S)
open PySem.Builtin.Str
section
variable {X : Cx} {k j : Nat} {C : Addr} {m : Str} {sp : Sp} {o : Expr} {ta : TE} {pos apos : Pos} {W : WX}
end
end Kr

set_option Elab.async false
set_option linter.all false
set_option maxRecDepth 100000
set_option maxHeartbeats 4000000
namespace Kr
open PySem PySem.Spec PyProof.Rows L2
section
variable (l : Addr) (its : Array Value) (n : Nat) (dd : Option Addr) (sl : Array (Option Value)) (u : Tok)
end
end Kr

set_option Elab.async false
set_option linter.all false
set_option maxRecDepth 100000
set_option maxHeartbeats 4000000
namespace Kr
open PySem PySem.Spec PyProof.Rows L2
section
variable {X : Cx}
end
end Kr

set_option Elab.async false
set_option linter.all false
set_option maxRecDepth 100000
set_option maxHeartbeats 4000000
namespace Kr
open PySem PySem.W PySem.Calls PySem.Spec PyProof.Rows L2
def atom : PyData → Bool
  | .int _ => true
  | .str _ => true
  | _ => false
def alk : List PyData → List PyData → Prop
  | x :: xs, y :: ys => alike x y = true ∧ (PyData.eqv x y = true → alk xs ys)
  | [], _ => True
  | _ :: _, [] => True
theorem atom_eqv {x : PyData} (h : atom x = true) : PyData.eqv x x = true := by
  cases x <;> first | (simp [atom] at h; done) | simp [PyData.eqv]
theorem alk_unique {h : Heap} : ∀ (xs ys : List PyData) (vs : List Value) (as as' : List Addr), (∀ x ∈ xs, atom x = true) → alk xs ys → ReadsAll h vs xs as → ReadsAll h vs ys as' → xs = ys
  | [], ys, _, _, _, _, _, ra, rb => by
    cases ra
    cases rb
    rfl
  | x :: xs, [], _, _, _, _, _, ra, rb => by
    cases ra
    cases rb
  | x :: xs, y :: ys, _, _, _, ha, hk, ra, rb => by
    cases ra with
    | cons r rs =>
      cases rb with
      | cons r' rs' =>
        have e := alike_unique x y _ _ _ hk.1 r r'
        subst e
        rw [alk_unique xs ys _ _ _ (fun z hz => ha z (List.mem_cons_of_mem _ hz)) (hk.2 (atom_eqv (ha x List.mem_cons_self))) rs rs']
theorem rm_head {n : Nat} {x y : PyData} {xs ys : List PyData} (h : n + min (PyData.depthAll (x :: xs)) (PyData.depthAll (y :: ys)) < cLine) : n + min x.depth y.depth < cLine := by
  simp only [PyData.depthAll] at h
  omega
theorem rm_tail {n : Nat} {x y : PyData} {xs ys : List PyData} (h : n + min (PyData.depthAll (x :: xs)) (PyData.depthAll (y :: ys)) < cLine) : n + min (PyData.depthAll xs) (PyData.depthAll ys) < cLine := by
  simp only [PyData.depthAll] at h
  omega
section
variable {prog : Program} {w : World} {A : Around} {s : Shared}
theorem katLex_alk {b fin : Bool} {Q : Bool → Shared → Prop} : ∀ (xs ys : List PyData) (i : Nat) (vs ws : List Value) (as bs : List Addr), ReadsAll s.heap vs xs as → ReadsAll s.heap ws ys bs → alk xs ys →
    A.units + min (PyData.depthAll xs) (PyData.depthAll ys) < cLine → (b = true → i = 0 → ∀ x r t, xs = x :: r → x ≠ .tuple t) → fin = decide (xs.length < ys.length) → Q (PyProof.Rows.lexLt itemOrd (keyToksAll xs) (keyToksAll ys)) s → KatLex prog w A b fin Q (vs.zip ws) i s
  | [], [], i, _, _, _, _, ra, rb, _, _, _, hf, hq => by
    cases ra
    cases rb
    have e : fin = false := by rw [hf]; rfl
    subst e
    rw [lex_irrefl] at hq
    exact kat_nil hq
  | [], y :: ys, i, _, _, _, _, ra, rb, _, _, _, hf, hq => by
    cases ra
    have e : fin = true := by rw [hf]; exact decide_eq_true (Nat.succ_pos _)
    subst e
    rw [toks_all_cons] at hq
    simp only [keyToksAll] at hq
    rw [lex_diff (O := itemOrd) (by simp)] at hq
    rw [List.zip_nil_left]
    exact kat_nil (by simpa [itemLt] using hq)
  | x :: xs, [], i, _, _, _, _, ra, rb, _, _, _, hf, hq => by
    cases rb
    have e : fin = false := by rw [hf]; exact decide_eq_false (Nat.not_lt_zero _)
    subst e
    rw [toks_all_cons] at hq
    simp only [keyToksAll] at hq
    rw [lex_diff (O := itemOrd) (by simp)] at hq
    rw [List.zip_nil_right]
    exact kat_nil (by simpa [itemLt] using hq)
  | x :: xs, y :: ys, i, _, _, _, _, ra, rb, h, hu, hb, hf, hq => by
    obtain ⟨h1, h2⟩ := h
    have hf' : fin = decide (xs.length < ys.length) := by
      rw [hf]
      simp only [List.length_cons, Nat.add_lt_add_iff_right]
    cases ra with
    | cons r rs =>
      cases rb with
      | cons r' rs' =>
        rw [List.zip_cons_cons]
        refine kat_cons (eqAt_alike x y A s _ _ _ _ r r' h1 (rm_head hu) prog w _ _ ?_)
        cases hx : PyData.eqv x y with
        | true =>
          rw [dataLt_all_yes h1 hx] at hq
          exact kat_yes (katLex_alk xs ys (i + 1) _ _ _ _ rs rs' (h2 hx) (rm_tail hu) (fun _ hi => absurd hi (Nat.succ_ne_zero i)) hf' hq)
        | false =>
          rw [dataLt_all_no h1 hx] at hq
          refine kat_no (oneLt_alike (fun hbi t => ?_) r r' h1 (ne_none_of h1 hx) (rm_head hu) hq)
          rw [Bool.and_eq_true] at hbi
          exact hb hbi.1 (by simpa using hbi.2) x xs t rfl
structure MixOk (ds : List PyData) : Prop where
  tup : ∀ d ∈ ds, ∃ (x : Str) (r : List PyData), d = .tuple (.str x :: r) ∧ ∀ z ∈ r, atom z = true
  cmp : ∀ xs ys, PyData.tuple xs ∈ ds → PyData.tuple ys ∈ ds → alk xs ys
  dep : ∀ d ∈ ds, d.depth ≤ 8
theorem mix_unique {h : Heap} {ds : List PyData} (M : MixOk ds) {d d' : PyData} (hd : d ∈ ds) (hd' : d' ∈ ds) {v : Value} {as as' : List Addr} (r : Reads h v d as) (r' : Reads h v d' as') : d = d' := by
  obtain ⟨x, l, rfl, hl⟩ := M.tup d hd
  obtain ⟨x', l', rfl, hl'⟩ := M.tup d' hd'
  cases r with
  | tuple h1 h2 h3 h4 =>
    cases r' with
    | tuple k1 k2 k3 k4 =>
      rw [h1] at k1
      cases k1
      rw [h3] at k3
      cases k3
      rw [alk_unique _ _ _ _ _ (fun z hz => by
        rcases List.mem_cons.mp hz with rfl | hz
        · rfl
        · exact hl z hz) (M.cmp _ _ hd hd') h4 k4]
theorem mix_some {h : Heap} {ds : List PyData} (M : MixOk ds) {v : Value} {d : PyData} {as : List Addr} (hd : d ∈ ds) (r : Reads h v d as) : (dataKind h ds).keyOf v = some (keyToks d) := by
  have q : ∃ d, d ∈ ds ∧ ∃ as, Reads h v d as := ⟨d, hd, as, r⟩
  have e : (dataKind h ds).keyOf v = some (keyToks q.choose) := by
    show (open Classical in if q : ∃ d, d ∈ ds ∧ ∃ as, Reads h v d as then some (keyToks q.choose) else none) = _
    rw [dif_pos q]
  obtain ⟨h1, as', h2⟩ := q.choose_spec
  rw [e, mix_unique M h1 hd h2 r]
theorem SortsAt.mix {vs : List Value} {ds : List PyData} (e : EachIs (fun v d => ∃ as, Reads s.heap v d as) vs ds) (M : MixOk ds) (hu : A.units + 8 < cLine) : SortsAt prog w A s (dataKind s.heap ds) vs := by
  have room : ∀ {d d' : PyData}, d ∈ ds → A.units + min d.depth d'.depth < cLine := fun {d d'} hd => by
    have h1 := M.dep d hd
    have h2 : min d.depth d'.depth ≤ d.depth := Nat.min_le_left _ _
    omega
  have ht : ∀ d, d ∈ ds → ∃ x r, d = .tuple (x :: r) := fun d hd => by
    obtain ⟨x, r, e, _⟩ := M.tup d hd
    exact ⟨_, _, e⟩
  have hfirst : ∀ x r, PyData.tuple (x :: r) ∈ ds → ∃ z, x = .str z := fun x r hm => by
    obtain ⟨z, l, e, _⟩ := M.tup _ hm
    injection e with e
    injection e with e
    exact ⟨z, e⟩
  refine ⟨fun v hv => ?_, ?_⟩
  · obtain ⟨d, hd, as, r⟩ := e.left v hv
    exact ⟨_, mix_some M hd r⟩
  · refine ⟨tuples' true, ?_, fun h2 E Q hq => ?_⟩
    · intro E x y a b Q ha hb hq
      obtain ⟨d, as, hd, ra, rfl⟩ := dataKind_inv ha
      obtain ⟨d', as', hd', rb, rfl⟩ := dataKind_inv hb
      have hroom := room (d' := d') hd
      obtain ⟨x1, r1, rfl⟩ := ht d hd
      obtain ⟨x2, r2, rfl⟩ := ht d' hd'
      have hdd := M.cmp _ _ hd hd'
      have hq' : Q (dataLt (.tuple (x1 :: r1)) (.tuple (x2 :: r2))) s := hq
      rw [dataLt_tuple] at hq'
      cases ra with
      | @tuple l o xs n _ _ h1 h2 h3 h4 =>
        cases rb with
        | @tuple l' o' xs' n' _ _ k1 k2 k3 k4 =>
          have n1 : xs.size = (x1 :: r1).length := by simpa using SeqAt.ReadsAll.length _ _ _ h4
          have n2 : xs'.size = (x2 :: r2).length := by simpa using SeqAt.ReadsAll.length _ _ _ k4
          refine kat_lt h1 h3 k1 k3 (katLex_alk (x1 :: r1) (x2 :: r2) 0 _ _ _ _ h4 k4 hdd (by have q := SeqAt.room_in hroom; omega) (fun hb _ x r t ex => ?_) (by rw [n1, n2]) hq')
          obtain ⟨rfl, rfl⟩ := List.cons.inj ex
          obtain ⟨z, rfl⟩ := hfirst _ _ hd
          exact fun e => by cases e
    · obtain ⟨fs, t1, t2, t3⟩ := each_katTups e ht
      refine kat_kind (T := .type "str") t1 (by omega) (fun f hf => ?_) rfl hq
      obtain ⟨x, r, as, m1, m2⟩ := t3 f hf
      obtain ⟨z, rfl⟩ := hfirst _ _ m1
      exact looks_reads m2
end
def rSortM (K : PySem.W.Frag) : List V → Hp → VK → Prop := fun vs H Q => ∃ (a : Addr) (xs : List V) (ds : List PyData), vs = [.ref a] ∧ SqL K H a xs ∧ DtAll H xs ds ∧ MixOk ds ∧
  ∀ ys p, DtAll H ys (ds.mergeSort (dataLe false id)) → H p = none → Q (.ref p) (upd H p (.lst ys))
section
variable {X : Cx}
theorem dt_rel {H : Hp} : ∀ {xs : List V} {ds : List PyData} {us : List Value}, DtAll H xs ds → Vals xs us → EachIs (fun u d => ∃ x, RelV x u ∧ Dt H x d) us ds
  | _, _, _, .nil, .nil => .nil
  | _, _, _, .cons a r, .cons b t => .cons ⟨_, b, a⟩ (dt_rel r t)
theorem each_dt {H : Hp} : ∀ {us : List Value} {ds : List PyData}, EachIs (fun u d => ∃ x, RelV x u ∧ Dt H x d) us ds → ∃ ys, Vals ys us ∧ DtAll H ys ds
  | _, _, .nil => ⟨[], .nil, .nil⟩
  | _, _, .cons ⟨x, a, b⟩ t => by
    obtain ⟨ys, h1, h2⟩ := each_dt t
    exact ⟨x :: ys, .cons a h1, .cons b h2⟩
theorem cr_sortedM (hu : X.A.units + 64 < cLine) : CallR X (.builtin "sorted") (rSortM X.K) := by
  intro pins s σ H vs us Q I r h
  obtain ⟨a, xs, ds, rfl, hs, hd, M, q⟩ := h
  obtain ⟨its, rv, hl, hz⟩ := I.list hs
  rw [Vals.ref1 r]
  have e := dt_rel hd rv
  have er : EachIs (fun v d => ∃ as, Reads s.heap v d as) its ds := e.mono fun u d ⟨x, hx, hdx⟩ => Dp.reads I d x u (Dt.dp _ _ hdx).1 hx
  have er' : EachIs (fun v d => ∃ as, Reads (sortingHeap (copyHeap s.heap its) (s.heap.objs.size + 1) its) v d as) its ds := er.mono fun _ _ ⟨as, r⟩ => ⟨as, PyProof.Rows.Reads.keeps (fun _ _ => sorting_copy_old) r⟩
  refine sorted_vals (κ := dataKind (sortingHeap (copyHeap s.heap its) (s.heap.objs.size + 1) its) ds) hl.isList (SortsAt.mix (s := { s with heap := sortingHeap (copyHeap s.heap its) (s.heap.objs.size + 1) its }) er' M (by show X.A.units + 1 + 1 + 8 < _; omega)) (by rw [← rv.length]; exact hz) ?_
  have es := sortVals_each (κ := dataKind (sortingHeap (copyHeap s.heap its) (s.heap.objs.size + 1) its) ds) (rev := false) (fun b => keyToks (id b)) e ((each_mem er').mono fun u d ⟨⟨as, r⟩, hm⟩ => mix_some M hm r)
  generalize sortVals (dataKind (sortingHeap (copyHeap s.heap its) (s.heap.objs.size + 1) its) ds) false its its = out at es
  obtain ⟨ys, y1, y2⟩ := each_dt es
  obtain ⟨ep, he'⟩ := PyProof.Rows.sortedAll_at s.heap its out.toArray
  have hlen : ys.length ≤ sizeLine := by
    rw [y1.length, es.length, List.length_mergeSort, ← e.length, ← rv.length]
    exact hz
  exact ⟨.ref _, upd H (s.heap.objs.size + 1) (.lst ys), I.laid (t' := s.toks) (fun _ _ => PyProof.Rows.sortedAll_old) (Nat.le_succ _) ⟨hlen, out, ep, y1, by simpa using he'⟩, rfl, q _ _ y2 (I.hok.fresh (Nat.le_succ _))⟩
end
end Kr

set_option Elab.async false
set_option linter.all false
set_option maxRecDepth 100000
set_option maxHeartbeats 4000000
namespace Kr
open PySem PySem.Spec PyProof.Rows L2
open SX (S)
def PSN (nt : Nat) (X : Cx) (st : Stmt) (t : TS) : Prop :=
  ∀ (pins : List (Addr × Obj)) (s : Shared) (σ : L2.St) (H : Hp) (D : Ends), nt ≤ s.toks → Inv X pins σ H s → t D σ H → wpAny (model X.prog X.w) X.A (exec st X.env) (SP X pins D) X.xe s
def PSsN (nt : Nat) (X : Cx) (st : List Stmt) (t : TS) : Prop :=
  ∀ (pins : List (Addr × Obj)) (s : Shared) (σ : L2.St) (H : Hp) (D : Ends), nt ≤ s.toks → Inv X pins σ H s → t D σ H → wpAny (model X.prog X.w) X.A (execs st X.env) (SP X pins D) X.xe s
def PEN (nt : Nat) (X : Cx) (e : Expr) (t : TE) : Prop :=
  ∀ (pins : List (Addr × Obj)) (s : Shared) (σ : L2.St) (H : Hp) (Q : VK), nt ≤ s.toks → Inv X pins σ H s → t σ H Q → wpAny (model X.prog X.w) X.A (eval e X.env) (EP X pins σ Q) X.xe s
section
variable {X : Cx} {nt : Nat} {st : Stmt} {rest : List Stmt} {t u : TS} {e f : Expr} {te tf : TE} {pos : Pos}
theorem PSsN.of (h : PSs X rest t) : PSsN nt X rest t := fun pins s σ H D _ I q => h.run pins s σ H D I q
theorem PSN.of (h : PS X st t) : PSN nt X st t := fun pins s σ H D _ I q => h.run pins s σ H D I q
theorem PEN.of (h : PE X e te) : PEN nt X e te := fun pins s σ H Q _ I q => h.run pins s σ H Q I q
end
structure FnOkN (nt : Nat) (P : Program) (w : World) (K : PySem.W.Frag) (mg : Str → Option Value) (base : Heap) (CX : CXT) (k : Nat) (f : Addr) (fd : FuncData) (ps : List Str) (sp : Sp) : Prop where
  len : ∀ vs H Q E, sp vs H Q E → vs.length = ps.length
  run : ∀ (A : Around) (outer : List Env) (s : Shared) (H : Hp) (args : Args) (us : List Value) (vs : List V) (Q : VK) (E : XK), nt ≤ s.toks → Room k A → Env0 P w K mg base A outer s H → BindsTo s fd args (ps.zip us) → Vals vs us → sp vs H Q E →
    codeAny (model P w) A (.call (.ref f) args) (CR CX outer P w H s Q E) s
theorem FnOkN.mono {nt : Nat} {P : Program} {w : World} {K : PySem.W.Frag} {mg : Str → Option Value} {base : Heap} {CX : CXT} {j k : Nat} {f : Addr} {fd : FuncData} {ps : List Str} {sp : Sp} (F : FnOkN nt P w K mg base CX j f fd ps sp) (h : j ≤ k) :
    FnOkN nt P w K mg base CX k f fd ps sp := ⟨F.len, fun A outer s H args us vs Q E hn hr => F.run A outer s H args us vs Q E hn (hr.mono h)⟩
structure KMetN (nt : Nat) (P : Program) (w : World) (K : PySem.W.Frag) (mg : Str → Option Value) (base : Heap) (k : Nat) (C : Addr) (m : Str) (sp : Sp) : Prop where
  ex : ∃ (f : Addr) (fd : FuncData) (ps : List Str), Cls K C ∧ Meth K C m f ∧ FnOkN nt P w K mg base (CX P w) k f fd ps sp ∧ Binds K fd ps []
structure KMakN (nt : Nat) (P : Program) (w : World) (K : PySem.W.Frag) (mg : Str → Option Value) (base : Heap) (k : Nat) (x : Str) (C : Addr) (n : Nat) (ks : List Str) (sp : Sp) (gV : List V → List V → List V) : Prop where
  ex : ∃ (f : Addr) (fd : FuncData) (ps : List Str) (g : List Value → List Value → List Value), L2.Mk K C f ∧ FnOkN nt P w K mg base (CX P w) k f fd ps sp ∧ mg x = some (.ref C) ∧ KBn K fd ps (n + 1) ks g gV
structure KCalN (nt : Nat) (P : Program) (w : World) (K : PySem.W.Frag) (mg : Str → Option Value) (base : Heap) (k : Nat) (x : Str) (sp : Sp) : Prop where
  ex : ∃ (f : Addr) (fd : FuncData) (ps : List Str), FnOkN nt P w K mg base (CX P w) k f fd ps sp ∧ mg x = some (.ref f) ∧ PySem.W.keepIn K (.ref f) = true ∧ Binds K fd ps []
section
variable {X : Cx} {nt k j n : Nat} {x m : Str} {C : Addr} {ks : List Str} {sp : Sp} {gV : List V → List V → List V} {o e : Expr} {es : List Expr} {kws : List Keyword} {t tw : TA} {ta : TE} {p pos apos : Pos} {W : WX}
end
end Kr

set_option Elab.async false
set_option linter.all false
set_option maxRecDepth 100000
set_option maxHeartbeats 4000000
namespace PySem.W
open PySem PySem.Calls PyProof.Rows
end PySem.W
namespace Att
open PySem PySem.W PySem.Calls PyProof.Rows
end Att
namespace Kr
open PySem PySem.Spec PyProof.Rows L2
end Kr
namespace HandSHeadRun
open PySem PySem.W PySem.Calls PyProof.Rows
end HandSHeadRun

set_option Elab.async false
set_option linter.all false
set_option maxRecDepth 100000
set_option maxHeartbeats 4000000
namespace Kr
open PySem PySem.Spec PyProof.Rows L2
open SX (S)
def PAN (nt : Nat) (X : Cx) (es : List Expr) (t : TA) : Prop :=
  ∀ (pos : Pos) (pins : List (Addr × Obj)) (s : Shared) (σ : L2.St) (H : Hp) (Q : List V → Hp → Prop), nt ≤ s.toks → Inv X pins σ H s → t σ H Q → wpAny (model X.prog X.w) X.A (spliced (backTo pos (starEach es X.env))) (AP X pins σ Q) X.xe s
section
variable {X : Cx} {nt k j : Nat} {x : Str} {sp : Sp} {dvs : List V} {e : Expr} {es : List Expr} {te : TE} {t : TA} {p pos apos : Pos} {o : Expr} {to : TE}
theorem PAN.of (h : PA X es t) : PAN nt X es t := fun pos pins s σ H Q _ I q => h.run pos pins s σ H Q I q
end
end Kr

set_option Elab.async false
set_option linter.all false
set_option maxRecDepth 100000
set_option maxHeartbeats 4000000
namespace Kr
open PySem PySem.Spec PyProof.Rows L2
open SX (S)
structure Ex0 (K : PySem.W.Frag) (mg : Str → Option Value) (x : Str) (C : Addr) : Prop where
  gC : mg x = some (.ref C)
  kp : PySem.W.keepIn K (.ref C) = true
  ex : PySem.W.excIn K C [.type "ValueError", .type "Exception", .type "BaseException", .type "object"] "ValueError.__new__" = true
  rs : PySem.W.subIn K (.ref C) (.type "BaseException") = some true ∧ PySem.W.typeIn K (.ref C) = some (.type "type")
end Kr
namespace He
open PySem PySem.Spec PyProof.Rows L2 Kr
end He

set_option Elab.async false
set_option linter.all false
set_option maxRecDepth 100000
set_option maxHeartbeats 4000000
namespace Kr
open PySem PySem.Spec PyProof.Rows L2
open SX (S)
def PTN (nt : Nat) (X : Cx) (e : Expr) (t : TT) : Prop :=
  ∀ (pins : List (Addr × Obj)) (s : Shared) (σ : L2.St) (H : Hp) (Q : Bool → Hp → Prop), nt ≤ s.toks → Inv X pins σ H s → t σ H Q → wpAny (model X.prog X.w) X.A (isTrue e X.env (eval e X.env)) (L2.TP X pins σ Q) X.xe s
def PWN (nt : Nat) (X : Cx) (e : Expr) (t : TT) : Prop :=
  ∀ (whole : Sem Value) (pins : List (Addr × Obj)) (s : Shared) (σ : L2.St) (H : Hp) (Q : Bool → Hp → Prop), nt ≤ s.toks → Inv X pins σ H s → t σ H Q → wpAny (model X.prog X.w) X.A (isTrue e X.env whole) (L2.TP X pins σ Q) X.xe s
section
variable {X : Cx} {nt : Nat} {a b e : Expr} {es rest : List Expr} {ta tb te : TE} {t : TA} {pos : Pos}
theorem PWN.pt {e : Expr} {t : TT} (h : PWN nt X e t) : PTN nt X e t := h _
variable {tA tB' : TT}
end
end Kr

set_option Elab.async false
set_option linter.all false
set_option maxRecDepth 100000
set_option maxHeartbeats 4000000
namespace Kr
open PySem PySem.Spec PyProof.Rows L2 NdefX
abbrev spNf (x qual : Str) (params : Arguments) (body : List Stmt) (scope : Scope) (cc c : Addr) : NF := ⟨x, qual, params, body, scope, [("__class__", cc)], c⟩
structure SIn (K : PySem.W.Frag) (P : Program) (params : Arguments) (D f c cc : Addr) : Prop where
  fn : ∃ (oc : Value) (od : Option Addr) (fd : FuncData) (osl : Array (Option Value)), K.lookup f = some ⟨oc, od, .func fd, osl⟩ ∧ fd.params = params
  cell : ∃ (cl : Value) (cld : Option Addr) (csl : Array (Option Value)), K.lookup cc = some ⟨cl, cld, .cell (some (.ref D)), csl⟩
  code : ∃ (ccl : Value) (cdd : Option Addr) (ccs : Array (Option Value)) (vs : Array Value) (file : Str) (tf : Tok), K.lookup c = some ⟨ccl, cdd, .fields vs, ccs⟩ ∧ vs[2]? = some (.str file tf) ∧ ((P.main.file : Str) == file) = true
  top : (P.main.scope.names.lookup ("super" : Str)).isSome = false
structure FunS (K : PySem.W.Frag) (P : Program) (x qual : Str) (params : Arguments) (body : List Stmt) (scope : Scope) (dvs : List V) (kws : List (Str × V)) (D f : Addr) (fd : FuncData) : Prop where
  ex : ∃ (oc : Value) (od : Option Addr) (dV kV doc pm : Value) (an : Option Addr) (c : Addr) (ct : Value) (osl : Array (Option Value)) (cc : Addr),
    fd = PySem.W.fnX x qual params body scope [("__class__", cc)] dV kV doc pm an (.ref c) ct ∧ K.lookup f = some ⟨oc, od, .func fd, osl⟩ ∧ PySem.W.codeIn K (.ref c) qual = true ∧ DflV K dV dvs ∧ KwdV K kV kws ∧ SIn K P params D f c cc
  kp : PySem.W.keepIn K (.ref f) = true
def AtS (X : Cx) (b st : List Stmt) (t : TS) : Prop := ∀ (pins : List (Addr × Obj)) (s : Shared) (σ : L2.St) (H : Hp) (D : Ends), Inv X pins σ H s → t D σ H → _root_.PySem.wpAt (model X.prog X.w) X.A (.func b X.env) (execs st X.env) (L2.SP X pins D) X.xe s
section
variable {X : Cx} {b : List Stmt} {st : Stmt} {rest : List Stmt} {t u : TS} {e : Expr} {te : TE} {pos : Pos}
structure SupM (K : PySem.W.Frag) (C D : Addr) (m : Str) (f2 : Addr) : Prop where
  cD : ∃ cd, PySem.W.clsIn K D = some cd
  sub : PySem.W.mroIn K C (.ref D) = some true
  at_ : PySem.W.ks_superIn K C D m = some (some (.ref f2))
  ty : PySem.W.typeIn K (.ref f2) = some (.type "function")
  fi : PySem.W.fnIn K f2 = true
  op : PySem.W.nsIn K cStatics "thirdparty.any" = some none
end
structure KSu (P : Program) (w : World) (K : PySem.W.Frag) (mg : Str → Option Value) (base : Heap) (k : Nat) (C D : Addr) (m : Str) (sp : Sp) : Prop where
  ex : ∃ f2, SupM K C D m f2 ∧ FnR P w K mg base (CX P w) k f2 sp
section
variable {X : Cx} {b : List Stmt} {e : Expr} {es : List Expr} {t tw : TA} {pos : Pos} {k j : Nat} {C : Addr} {sp : Sp}
structure KCnN (nt : Nat) (P : Program) (w : World) (K : PySem.W.Frag) (mg : Str → Option Value) (base : Heap) (k : Nat) (x : Str) (n : Nat) (ks : List Str) (sp : Sp) (gV : List V → List V → List V) : Prop where
  ex : ∃ (f : Addr) (fd : FuncData) (ps : List Str) (g : List Value → List Value → List Value), FnOkN nt P w K mg base (CX P w) k f fd ps sp ∧ mg x = some (.ref f) ∧ PySem.W.keepIn K (.ref f) = true ∧ KBn K fd ps n ks g gV
structure IsT (K : PySem.W.Frag) (D : Addr) (tab : List (Addr × Bool)) : Prop where
  at_ : ∀ p ∈ tab, C8.InsC K p.1 ∧ PySem.W.kitOne K (.ref p.1) (.ref D) = some p.2
end
section
variable {P : Program} {w : World} {K : PySem.W.Frag} {mg : Str → Option Value} {base : Heap} {x qual : Str} {params : Arguments} {body : List Stmt} {scope : Scope} {dvs : List V} {kws : List (Str × V)} {D f : Addr} {fd : FuncData} {ps : List Str}
theorem cells_sup {s : Shared} {A : Around} {outer : List Env} {H : Hp} {c cc : Addr} (e0 : Env0 P w K mg base A outer s H) (Si : SIn K P params D f c cc) : CellsAt [("__class__", cc)] ["__class__"] [none] s.heap H := by
  obtain ⟨cl, cld, csl, lcc⟩ := Si.cell
  have hb : base.get? cc = some ⟨cl, cld, .cell (some (.ref D)), csl⟩ := e0.mod.kin _ _ lcc
  obtain ⟨h1, h2⟩ := e0.bs _ _ hb
  have lk : ∀ (y : Str) (c' : Addr), List.lookup y [(("__class__" : Str), cc)] = some c' → y = "__class__" ∧ c' = cc := fun y c' e => by
    by_cases hy : y = "__class__"
    · subst hy
      have e2 : List.lookup ("__class__" : Str) [(("__class__" : Str), cc)] = some cc := by simp [List.lookup]
      rw [e2] at e
      exact ⟨rfl, (Option.some.inj e).symm⟩
    · have : (y == ("__class__" : Str)) = false := by simpa using hy
      simp [List.lookup, this] at e
  refine ⟨rfl, fun y c' e => ?_, fun y z c' e1 e2 => by rw [(lk _ _ e1).1, (lk _ _ e2).1], fun i y e => ?_⟩
  · obtain ⟨_, rfl⟩ := lk _ _ e
    exact ⟨h2, _, _, h1, rfl⟩
  · cases i with
    | zero =>
      obtain rfl : ("__class__" : Str) = y := Option.some.inj e
      refine ⟨cc, by simp [List.lookup], fun v hv => by cases hv⟩
    | succ i => cases e
theorem FunS.ok {CX : CXT} {N : List Str} {k : Nat} {sp : Sp} (F : FunS K P x qual params body scope dvs kws D f fd) (S : NScope N ps ["__class__"] scope) (len : ∀ vs H Q E, sp vs H Q E → vs.length = ps.length)
    (hbody : ∀ (c cc : Addr) (A : Around) (outer : List Env) (s : Shared) (H : Hp) (vs : List V) (Q : VK) (E : XK), SIn K P params D f c cc → Room k (A.deeper (envF (spNf x qual params body scope cc c) f s.heap.objs.size)) → sp vs H Q E →
      ∃ t, AtS (ncx CX P w K mg base N (spNf x qual params body scope cc c) f A outer s H E) body body t ∧ t { nx := fun _ H' => Q .non H', rt := Q } (startF N vs [none]) H) : FnOk P w K mg base CX (k + 1) f fd ps sp := by
  obtain ⟨oc, od, dV, kV, doc, pm, an, c, ct, osl, cc, rfl, lk, hcd, _, _, Si⟩ := F.ex
  refine ⟨len, fun A outer s H args us vs Q E hr e0 hb r hsp => ?_⟩
  have hl := len _ _ _ _ hsp
  have KX : K.In s.heap := e0.mod.kin.keeps fun b o e => (e0.bs b o e).1
  have lim : s.heap.NoLimit := e0.mod.nolimit.keeps fun b o e => (e0.bs b o e).1
  refine codeAny_call_function hr.depth (KX _ _ lk) rfl S.co S.gen rfl (PySem.W.codeRec_of KX hcd) (hb _ _ _ _ ?_)
  refine wpAny_newFunctionEnv S.nocell (fun ⟨n, _⟩ hy => S.par n (List.of_mem_zip hy).1) (fun h₁ hns hsb => ⟨lim.fresh _ hsb, ?_⟩) S.kind
  show codeAny _ _ (.func body (envF (spNf x qual params body scope cc c) f s.heap.objs.size)) _ _
  refine ks_codeAny_funcAt ?_
  have kp : ∀ b o, s.heap.get? b = some o → h₁.get? b = some o := fun b o e => hsb.extBut b o (Nat.ne_of_lt (Heap.lt_size e)) (Heap.get?_push_of_some _ e)
  obtain ⟨t, ht, hq⟩ := hbody c cc A outer s H vs Q E Si (hr.deeper _) hsp
  have I : Inv (ncx CX P w K mg base N (spNf x qual params body scope cc c) f A outer s H E) [] (startF N vs [none]) H { s with heap := h₁, toks := s.toks + (ps.zip us).length } := inv_startN S hr.hd e0 hl r (cells_sup e0 Si) hns kp
  refine _root_.PySem.wpAt_mono (ht [] _ (startF N vs [none]) H _ I hq) (fun fl s' hs => ?_) fun e s' hs => hs
  have fin : ∀ {σ' : L2.St} {H' : Hp} {v : V} {u : Value}, Inv (ncx CX P w K mg base N (spNf x qual params body scope cc c) f A outer s H E) [] σ' H' s' → L2.RelV v u → Q v H' → CE outer P w H s Q u s' :=
    fun {σ' H' v u} J rv q => ⟨v, H', J.os, J.bare, J.base, J.hok, rv, q⟩
  cases fl with
  | ret u =>
    obtain ⟨v, σ', H', J, rv, q⟩ := hs
    exact fin J rv q
  | next =>
    obtain ⟨σ', H', J, q⟩ := hs
    exact fin (v := V.non) (u := Value.none) J rfl q
  | brk =>
    obtain ⟨_, _, _, q⟩ := hs
    exact False.elim q
  | cont =>
    obtain ⟨_, _, _, q⟩ := hs
    exact False.elim q
theorem FunS.bindsN (F : FunS K P x qual params body scope [] kws D f fd)
    (h : ∀ (cl : List (Str × Addr)) (kV doc pm : Value) (an : Option Addr) (cdv ct : Value) (us : List Value), us.length = ps.length → bindArgs (PySem.W.fnX x qual params body scope cl .none kV doc pm an cdv ct) ⟨us, []⟩ = pure (ps.zip us)) : Binds K fd ps [] := by
  obtain ⟨oc, od, dV, kV, doc, pm, an, c, ct, osl, cc, rfl, lk, hcd, hD, hK, Si⟩ := F.ex
  rcases hD with ⟨_, rfl⟩ | ⟨e, _⟩
  · exact .all (h _ kV doc pm an _ ct)
  · exact absurd rfl e
end
def fnWS (K : PySem.W.Frag) (a : Addr) : He.FnW := match K.lookup a with
  | some ⟨_, _, .func fd, _⟩ => some (fd.name, fd.qualname, fd.params, fd.body, fd.scope, fd.globals, fd.closure.map fun q => (q.1, 0), fd.builtins)
  | _ => none
def valS (d : He.DefD) : He.FnW := some (d.name, d.qual, d.params, .stmts d.body, d.scope, mainGlobals, [("__class__", 0)], builtinsNs)
def cellB (K : PySem.W.Frag) (cc D : Addr) : Bool := match K.lookup cc with
  | some ⟨_, _, .cell (some (.ref D')), _⟩ => decide (D' = D)
  | _ => false
def fileB (K : PySem.W.Frag) (F0 : Str) (c : Addr) : Bool := match K.lookup c with
  | some ⟨_, _, .fields vs, _⟩ => (match (vs[2]? : Option Value) with
    | some (Value.str file _) => decide (file = F0)
    | _ => false)
  | _ => false
def okS (K : PySem.W.Frag) (F0 : Str) (a D : Addr) (d : He.DefD) : Bool := PySem.W.keepIn K (.ref a) && (match K.lookup a with
  | some ⟨_, _, .func fd, _⟩ => PySem.W.codeIn K fd.code d.qual && (He.dflB K fd.defaults (d.dvs K) && (He.kwdB K fd.kwdefaults (d.kws K) && ((match fd.closure with
      | [(_, cc)] => cellB K cc D
      | _ => false) && (match fd.code with
      | .ref c => fileB K F0 c
      | _ => false))))
  | _ => false)
structure SupP (P : Program) (F0 : Str) : Prop where
  file : ((P.main.file : Str) == F0) = true
  top : (P.main.scope.names.lookup ("super" : Str)).isSome = false
def sobs (ss : List PD) (K : PySem.W.Frag) : List He.FnW := ss.map fun p => fnWS K (He.ma K (He.ga K p.1) p.2.1)
def sval (ss : List PD) : List He.FnW := ss.map fun p => valS p.2.2
def sok (F0 : Str) (ss : List PD) (K : PySem.W.Frag) : Bool := ss.all fun p => okS K F0 (He.ma K (He.ga K p.1) p.2.1) (He.ga K p.1) p.2.2
structure SaysS (F0 : Str) (ss : List PD) (K : PySem.W.Frag) : Prop where
  o : sobs ss K = sval ss
  k : sok F0 ss K = true
end Kr

set_option Elab.async false
set_option linter.all false
set_option maxRecDepth 100000
set_option maxHeartbeats 4000000
namespace Kr
open PySem PySem.Spec PyProof.Rows L2 NdefX
section
variable {X : Cx}
end
section
variable {X : Cx} {k j : Nat} {C : Addr} {sp : Sp}
end
section
variable {X : Cx} {b : List Stmt} {e r : Expr} {te tr : TE} {pos : Pos}
end
section
variable {X : Cx} {b : List Stmt} {pos : Pos}
end
section
variable {X : Cx} {b : List Stmt} {pos : Pos} {k j : Nat} {C : Addr} {sp : Sp}
end
end Kr

set_option Elab.async false
set_option linter.all false
set_option maxRecDepth 100000
set_option maxHeartbeats 4000000
namespace Kr
open PySem PySem.Spec PyProof.Rows L2
open SX (S)
section
variable {X : Cx} {nt : Nat} {a b : Expr} {ta tb : TE} {pos : Pos}
end
end Kr

set_option Elab.async false
set_option linter.all false
set_option maxRecDepth 100000
set_option maxHeartbeats 4000000
namespace Kr
open PySem PySem.Spec PyProof.Rows L2
section
variable {X : Cx} {nt : Nat}
end
end Kr

set_option Elab.async false
set_option linter.all false
set_option maxRecDepth 100000
set_option maxHeartbeats 2000000
namespace Kr
open PySem PySem.Spec PyProof.Rows L2
def ItkN (P : Program) (w : World) (d : Addr) (o : Obj) (N : List (NestedKey × Addr × V)) : L2.It :=
  ⟨fun i H => H d = some (.frz o (DctN P w d N)) ∧ i < N.length, fun i H x H' => H' = H ∧ ∃ e, N[i]? = some e ∧ x = .ref e.2.1, fun i H => H d = some (.frz o (DctN P w d N)) ∧ N.length ≤ i⟩
theorem frzN {X : Cx} {pins : List (Addr × Obj)} {σ : L2.St} {H : Hp} {s : Shared} {d : Addr} {o : Obj} {N : List (NestedKey × Addr × V)} (I : Inv X pins σ H s) (h : H d = some (.frz o (DctN X.prog X.w d N))) :
    (d == sysModules) = false ∧ s.heap.get? d = some o ∧ o.ExactDict ∧ ∃ (es : Array DictEntry) (ep : Nat), o.data = .dict es ep ∧ es.size = N.length ∧
      ∀ (i : Nat) (e : NestedKey × Addr × V), N[i]? = some e → ∃ en : DictEntry, es[i]? = some en ∧ en.key = .ref e.2.1 := by
  obtain ⟨hd, q⟩ := I.hok d _ h
  obtain ⟨⟨_, hs, xs, pr, o', es, ep, ho, hx, hdt, he, _⟩, _⟩ := q
  rw [hd] at ho
  cases ho
  refine ⟨hs, hd, hx, es, ep, hdt, ?_, fun i e hi => ?_⟩
  · have l1 : es.size = xs.length := size_of_entries he
    have l2 : N.length = xs.length := Paired.length pr
    omega
  · obtain ⟨b, hb, _, e1, _⟩ := paired_get pr hi
    have q := entry_at he i
    rw [hb] at q
    refine ⟨_, q, ?_⟩
    rw [e1]
    rfl
section
variable {P : Program} {w : World} {K : PySem.W.Frag} {tg : Expr} {d : Addr} {o : Obj} {es : Array DictEntry} {ep : Nat}
theorem turn_keysN {N : List (NestedKey × Addr × V)} (it : Addr) (hod : o.data = .dict es ep) : Turn P w K tg (ItkN P w d o N) [it] it (fun i h => h.IsKeyIter it d i N.length ep) where
  mem := by simp
  obj := fun i h st b hb => by
    have e : b = it := by simpa using hb
    subst e
    obtain ⟨oi, e, c, dd⟩ := st
    exact ⟨oi, e, fun v z => by rw [dd] at z; cases z⟩
  keep := fun i h h' st k => st.at fun oi e => k it (by simp) oi e
  item := by
    intro X hP hw hK hc i pins s σ H E I hf st hg
    subst hP hw hK
    obtain ⟨hd, hi⟩ := hg
    obtain ⟨f0, f1, f2, f3, f4, f5⟩ := hf it (by simp)
    obtain ⟨hs, hgd, hx, es', ep', hdt, hsz, ent⟩ := frzN I hd
    obtain ⟨rfl, rfl⟩ := dict_ep hod hdt
    obtain ⟨e, hkv⟩ : ∃ p, N[i]? = some p := ⟨N[i], List.getElem?_eq_getElem hi⟩
    obtain ⟨en, hen, hkey⟩ := ent i e hkv
    refine next_key_item st hgd hdt hsz hen fun h' st' sb => ?_
    have I1 : Inv X pins σ H { s with heap := h' } := I.turned (t' := s.toks) (fun b ob hb e => (sb.2 b hb).trans e) f0 f1 f3 f4 f5
    obtain ⟨oi, e', c, dd⟩ := id st'
    exact ⟨en.key, rfl, go_of (s := { s with heap := h' }) e' c dd (by decide) ⟨.ref e.2.1, H, I1, hkey, ⟨rfl, e, hkv, rfl⟩, st', fun b hb => (hf b hb).1⟩⟩
  done := by
    intro X hP hw hK hc i pins s σ H E I hf st hg
    subst hP hw hK
    obtain ⟨hd, hi⟩ := hg
    obtain ⟨f0, f1, f2, f3, f4, f5⟩ := hf it (by simp)
    obtain ⟨hs, hgd, hx, es', ep', hdt, hsz, ent⟩ := frzN I hd
    obtain ⟨rfl, rfl⟩ := dict_ep hod hdt
    exact next_key_end (I.ok.hd hc) st hgd hdt hsz hi fun h' eb => ⟨rfl, I.turned (t' := s.toks) (fun b ob hb e => eb b ob hb e) f0 f1 f3 f4 f5⟩
  self := fun A i s Q E st h => wpAny_pyIter_keyiter st h
end
def iKeysN (P : Program) (w : World) (td : TE) : TI := fun σ H R => td σ H fun x H1 => ∃ d o N, x = .ref d ∧ H1 d = some (.frz o (DctN P w d N)) ∧ R (ItkN P w d o N) H1
theorem pi_keysN {X : Cx} {tg e : Expr} {td : TE} (he : PE X e td) : PI X tg e (iKeysN X.prog X.w td) := by
  refine ⟨fun pins s σ H R I h => ?_⟩
  refine thn (he.run pins s σ H _ I h) fun u s1 ⟨x, H1, I1, rx, d, o, N, ex, hd, q⟩ => ?_
  subst ex
  obtain rfl : u = Value.ref d := rx
  obtain ⟨hs, hgd, hx, es, ep, hdt, hsz, ent⟩ := frzN I1 hd
  refine iter_keys hs hgd hx hdt (pi_one (tk := s1.toks) I1 _ (turn_keysN _ hdt) ⟨_, Heap.get?_push_size _ rfl, rfl, ?_⟩ q)
  rw [hsz] <;> rfl
theorem walk_keysN {P : Program} {w : World} {d : Addr} {o : Obj} {N : List (NestedKey × Addr × V)} : Walk (ItkN P w d o N) N.length (fun H => H d = some (.frz o (DctN P w d N))) (fun i H x H' => H' = H ∧ ∃ e, N[i]? = some e ∧ x = .ref e.2.1) :=
  ⟨fun _ _ hi q => ⟨q, hi⟩, fun _ q => ⟨q, Nat.le_refl _⟩, fun _ _ _ _ _ _ y => y⟩
end Kr

set_option Elab.async false
set_option linter.all false
set_option maxRecDepth 100000
set_option maxHeartbeats 4000000
namespace Kr
open PySem PySem.Spec PyProof.Rows L2
open SX (S)
section
variable {X : Cx} {nt : Nat} {x : Str} {p pos : Pos} {e : Expr} {es : List Expr} {t : TA} {ta : TE} {tA : TT} {id : String} {r : List V → Hp → VK → Prop}
end
end Kr

set_option Elab.async false
set_option linter.all false
set_option maxRecDepth 100000
set_option maxHeartbeats 2000000
namespace Kr
open PySem PySem.Spec PyProof.Rows L2
section
variable {X : Cx} {k j : Nat} {C : Addr} {sp : Sp} {a b : Expr} {ta tb : TE} {pos : Pos} {W : WX}
def tNegO (C : Addr) (sp : Sp) (E : L2.St → XK) (ta : TE) : TE := fun σ H Q => ta σ H fun x H1 => ∃ p dx fs, x = .ref p ∧ H1 p = some (.ins C dx fs) ∧ sp [.ref p] H1 Q (E σ)
theorem pe_negO (c : KMet X.prog X.w X.K X.mg X.base k C "__neg__" sp) (tk : Takes X W) (hr : Room j X.A) (hk : k ≤ j) (ha : PE X a ta) :
    PE X (.UnaryOp .USub a pos) (tNegO C sp (WE W) ta) := by
  obtain ⟨f, fd, ps, hc, hm, F, bi⟩ := c.ex
  refine ⟨fun pins s σ H Q I h => ?_⟩
  refine wpAny_UnaryOp (thn (ha.run pins s σ H _ I h) fun v s1 ⟨x, H1, I1, r1, p, dx, fs, ex, hp, q2⟩ => ?_)
  subst ex
  obtain rfl : v = Value.ref p := r1
  obtain ⟨mA, O, _, _, _, _⟩ := ins_get I1.hok hp
  obtain ⟨od, J, _⟩ := O.look
  unfold unaryOp
  refine wpAny_holding ?_
  dsimp only
  rw [if_neg (by decide)]
  refine wpAny_bind (PySem.W.special_fn I1.kIn J hm.at_ (beq_iff_eq.mp hm.fn) (wpAny_mono (run_fnSD (dvs := []) (ds := []) (E := WE W) (vs := [.ref p]) F (hr.mono hk) bi .nil (passAt tk σ) I1 (.cons rfl .nil) (by simpa using q2)) (fun r s' hq => ?_) fun _ _ y => y))
  exact wpAny_pure hq
def rEqO (C : Addr) (sp : Sp) : R2 := fun x y H Q => ∃ a b dx fs dy gs, x = .ref a ∧ y = .ref b ∧ H a = some (.ins C dx fs) ∧ H b = some (.ins C dy gs) ∧ sp [.ref a, .ref b] H Q E0
theorem op_eqO (c : KMet X.prog X.w X.K X.mg X.base k C "__eq__" sp) (hu : X.A.units + 64 < cLine) (hr : Room j X.A) (hk : k ≤ j) : OpR X (compareOp .Eq) (rEqO C sp) := by
  intro pins s σ H x y v u Q I rx ry h
  obtain ⟨a, b, dx, fs, dy, gs, rfl, rfl, ea, eb, q⟩ := h
  obtain rfl : v = Value.ref a := rx
  obtain rfl : u = Value.ref b := ry
  obtain ⟨f, fd, ps, hc, hm, F, bi⟩ := c.ex
  obtain ⟨mA, O, _, _, _, _⟩ := ins_get I.hok ea
  obtain ⟨od, J, _⟩ := O.look
  obtain ⟨mB, O2, _, _, _, _⟩ := ins_get I.hok eb
  obtain ⟨od2, J2, _⟩ := O2.look
  obtain ⟨m, hF⟩ := I.fr
  show wpAny _ _ (richCompare .Eq (.ref a) (.ref b)) _ _ _
  refine PySem.W.cmp_K (op := .Eq) (tb := .ref C) (Nat.lt_of_le_of_lt (Nat.le_add_right _ _) hu) hF I.ok.mod.kin J J2.type (by simp [PySem.W.notFirst]) hm.at_ hm.fn ?_
  refine wpAny_mono (runSp F (hr.mono hk) I.env0 bi I (vs := [.ref a, .ref b]) (.cons rfl (.cons rfl .nil)) q) (fun r s' hq => ?_) fun _ _ z => z
  obtain ⟨v2, H', I', rv, q'⟩ := hq
  exact cmpB rv ⟨v2, H', I', rv, q'⟩
end
section
variable {X : Cx} {pins : List (Addr × Obj)} {σ : L2.St} {H : Hp} {s : Shared}
theorem dn0_of (I : Inv X pins σ H s) {a : Addr} {L : List (NestedKey × Addr × V)} (R : DN0 X.prog X.w s.heap a L) (hm : KysN H L) : ∃ xs, Paired LikeN L xs ∧ s.heap.DictOfH (nestedKind X.prog X.w) a xs := by
  obtain ⟨xs, r, o, es, ep, ho, hex, hd, he, hn⟩ := R.ex
  refine ⟨xs, r, o, es, ep, ho, hex, hd, he, ?_, hn⟩
  have key : ∀ {L : List (NestedKey × Addr × V)} {xs : List (NestedKey × Addr × Value)}, Paired LikeN L xs → KysN H L → ∀ x ∈ xs, (nestedKind X.prog X.w).is s.heap x.1 x.2.1 := by
    intro L xs r
    induction r with
    | nil => intro _ x hx; cases hx
    | @cons p q l m h t ih =>
      intro hm x hx
      rcases List.mem_cons.mp hx with rfl | hx
      · have := (hm p (by simp)).is I
        obtain ⟨h1, h2, _⟩ := h
        rw [← h1, ← h2]
        exact this
      · exact ih (fun p hp => hm p (by simp [hp])) x hx
  exact key r hm
def tDGetNZ (P : Program) (w : World) (td ty : TE) : TE := fun σ H Q => td σ H fun x H1 => ty σ H1 fun y H2 => ∃ (a b : Addr) (o : Obj) (k : NestedKey) (L : List (NestedKey × Addr × V)) (v : V), x = .ref a ∧ y = .ref b ∧ H2 a = some (.frz o (DctN P w a L)) ∧ KysN H2 L ∧ MemN H2 (b, k) ∧ valN L k = some v ∧ Q v H2
theorem pe_dgetNZ {P : Program} {w : World} {o i : Expr} {td ty : TE} {pos : Pos} (hp : X.prog = P) (hw : X.w = w) (hu : X.A.units + 64 < cLine) (ho : PE X o td) (hi : PE X i ty) (hs : NoSl i) : PE X (.Subscript o i pos) (tDGetNZ P w td ty) := by
  subst hp hw
  refine ⟨fun pins s σ H Q I h => ?_⟩
  refine subD_of PySem.F.slot_dict_getitem.lookup hs (thn (ho.run pins s σ H _ I h) fun u s1 ⟨x, H1, I1, rx, q1⟩ => thn (hi.run pins s1 σ H1 _ I1 q1) fun iv s2 ⟨y, H2, I2, ry, a, b, oo, k, L, v, ex, ey, ha, hm, hk, hv, q2⟩ => ?_)
  subst ex
  subst ey
  obtain rfl : u = Value.ref a := rx
  obtain rfl : iv = Value.ref b := ry
  obtain ⟨_, q⟩ := I2.hok a _ ha
  obtain ⟨xs, r, dd⟩ := dn0_of I2 q.1 hm
  refine ⟨dd.typeIs, ?_⟩
  rcases paired_find r k with ⟨h1, h2⟩ | ⟨v0, p0, h1, h2, h3⟩
  · rw [h1] at hv; cases hv
  · rw [h1] at hv
    obtain rfl : v0 = v := Option.some.inj hv
    refine wpAny_getItem_heap (knd := nestedKind X.prog X.w) (show X.A.in1.units + 8 < cLine from (by show (X.A.units + 1) + 8 < cLine; omega)) (MemN.is I2 hk) dd h2 ?_
    exact ⟨v0, H2, I2.tok _, h3, q2⟩
def tDGet2N (P : Program) (w : World) (td ty tx : TE) : TE := fun σ H Q => td σ H fun x H1 => ∃ a L0, x = .ref a ∧ H1 a = some (DctN P w a L0) ∧ KysN H1 L0 ∧ ty σ H1 fun y H2 => tx σ H2 fun z H3 => ∃ (b : Addr) (k : NestedKey) (L : List (NestedKey × Addr × V)), y = .ref b ∧ H3 a = some (DctN P w a L) ∧ KysN H3 L ∧ MemN H3 (b, k) ∧ Q ((valN L k).getD z) H3
theorem pe_dget2N {o e f : Expr} {apos cpos : Pos} {td ty tx : TE} (hu : X.A.units + 64 < cLine) (ho : PE X o td) (he : PE X e ty) (hf : PE X f tx) (m : M2 X o "get" apos e f cpos) : PE X (.Call (.Attribute o "get" apos) [e, f] [] cpos) (tDGet2N X.prog X.w td ty tx) := by
  refine ⟨fun pins s σ H Q I h => ?_⟩
  refine wpAny_Call_method m.base m.few m.line PySem.F.plainAttrs_dict PySem.F.slot_dict_get PySem.F.type_dict_get (thn (ho.run pins s σ H _ I h) fun u s1 ⟨x, H1, I1, rx, a, L0, ex, ha, hm, q1⟩ => ?_)
  subst ex
  obtain rfl : u = Value.ref a := rx
  obtain ⟨R0, xs0, r0, dd0⟩ := dctN_of I1 ha hm
  refine ⟨dd0.typeIs, fun b q => ?_, ?_⟩
  · cases q
    obtain ⟨ob, _, _, h1, h2, _⟩ := dd0
    exact ⟨ob, h1, h2.2.1⟩
  rw [m.trees]
  refine Calls.callWith_builtin rfl (Calls.evalArgs_plain (Calls.spliced_cons (thn (he.run pins s1 σ H1 _ I1 q1) fun iv s2 ⟨y, H2, I2, ry, q2⟩ =>
    Calls.spliced_cons (thn (hf.run pins s2 σ H2 _ I2 q2) fun fv s3 ⟨z, H3, I3, rz, b, k, L, ey, ha3, hm3, hk3, q3⟩ => Calls.spliced_nil ?_))))
  subst ey
  obtain rfl : iv = Value.ref b := ry
  obtain ⟨R, xs, r, dd⟩ := dctN_of I3 ha3 hm3
  refine call_meetsIn PySem.F.slot_dict_get dd.typeIs PySem.F.entry_dict_get (PySem.F.args_dict_get_3 _ _ _) (meetsH_dict_get_default (nestedKind X.prog X.w) a b R.sm fv) ⟨(by show (X.A.units + 1) + 8 < cLine; omega), k, xs, MemN.is I3 hk3, dd, ?_⟩
  rcases paired_find r k with ⟨h1, h2⟩ | ⟨v0, p0, h1, h2, h3⟩
  · rw [h1] at q3
    rw [h2]
    exact ⟨z, H3, I3.tok _, rz, q3⟩
  · rw [h1] at q3
    rw [h2]
    exact ⟨v0, H3, I3.tok _, h3, q3⟩
end
theorem op_eqDK {X : Cx} {K : PySem.W.Frag} (hK : X.K = K) (hu : X.A.units + 64 < cLine) : OpR X (compareOp .Eq) (rEqD K) := by subst hK; exact op_eqD hu
def rStrA : List V → Hp → VK → Prop := fun xs H Q => (∃ n : Nat, xs = [.int (n : Int)] ∧ n < 100 ∧ Q (.str (SX.S (dg n))) H) ∨ ∃ a : List Nat, xs = [.str (SX.S a)] ∧ Q (.str (SX.S a)) H
theorem call_strA {X : Cx} : CallR X (.type "str") rStrA := fun pins s σ H vs us Q I r h => by
  rcases h with h | h
  · exact call_strI pins s σ H vs us Q I r h
  · exact SkE.call_str_str pins s σ H vs us Q I r (by first | exact h | (obtain ⟨a, e, q⟩ := h; exact ⟨_, e, q⟩))
end Kr

set_option Elab.async false
set_option linter.all false
set_option maxRecDepth 100000
set_option maxHeartbeats 2000000
namespace Kr
open PySem PySem.Spec PyProof.Rows L2
def tent (P : Program) (w : World) (p : Str × Tok) : Int × Value := ((PySem.strKind P w).hash p.1, .str p.1 p.2)
def TxR (P : Program) (w : World) (h : Heap) (a : Addr) (M : List Str) : Prop :=
  ∃ o es ep t, h.get? a = some o ∧ o.ExactSet ∧ o.data = .set es ep t ∧ (∃ l : List (Str × Tok), es.toList.Perm (l.map (tent P w)) ∧ l.map (·.1) = M ∧ M.Nodup) ∧
    es.size < scanBound ∧ t.fits es.size = true ∧ Ris t.place.toList ∧ (w.params.followText "set-order" = true ∨ t.led = true)
def dd1 (M : List Str) (k : Str) : List Str := if k ∈ M then M else M ++ [k]
section
variable {P : Program} {w : World} {A : Around} {E : Value → Shared → Prop} {s : Shared} {a : Addr} {M : List Str}
theorem tent_is (p : Str × Tok) (k : Str) : (PySem.strKind P w).is k (tent P w p).2 = true ↔ p.1 = k := by
  show ((p.1 == k) = true) ↔ p.1 = k
  exact beq_iff_eq
theorem tents_ok {l : List (Int × Value)} {m : List (Str × Tok)} (pm : l.Perm (m.map (tent P w))) : ElemsOf (PySem.strKind P w) l := fun e he => by
  obtain ⟨p, _, rfl⟩ := List.mem_map.mp (pm.mem_iff.mp he)
  exact ⟨⟨p.1, strKind_is P w p.1 p.2, rfl⟩, rfl⟩
theorem tx_stored {h : Heap} {o : Obj} {es es' : Array (Int × Value)} {ep : Nat} {t t' : SetTable} (ho : h.get? a = some o) (hd : o.data = .set es ep t) : (h.update a (Obj.putSet es' t')).get? a = some { o with data := .set es' (ep + 1) t' } := store_at ho hd
theorem tx_tail {g : Bool → Sem Unit} (hg : ∀ (b : Bool) (s₁ : Shared) (Q' : Unit → Shared → Prop), Q' () s₁ → wpAny (model P w) A (g b) Q' E s₁) {o : Obj} {es es1 : Array (Int × Value)} {ep : Nat} {t t2 : SetTable} {m : List (Str × Tok)}
    (ho : s.heap.get? a = some o) (hex : o.ExactSet) (hd : o.data = .set es ep t) (pm : es1.toList.Perm (m.map (tent P w))) (hm : m.map (·.1) = M) (hn : M.Nodup) (hb : es1.size < scanBound) (hf : t2.fits es1.size = true) (hr : Ris t2.place.toList)
    (hl : w.params.followText "set-order" = true ∨ t2.led = true) {dm : Bool} {R : Option Bool → Shared → Prop} (hR : ∀ h', Heap.SameBut a s.heap h' → TxR P w h' a M → R (some true) { s with heap := h' }) :
    wpAny (model P w) A (do
        storeSet a es1 t2
        if (!dm && t2.tooFull) = true then do
            g (relayAll t2 es1 (SetTable.grown es1.size)).2.2
            storeSet a (relayAll t2 es1 (SetTable.grown es1.size)).1 (relayAll t2 es1 (SetTable.grown es1.size)).2.1
            pure (some true)
          else pure (some true)) R E s := by
  have q1 := tx_stored (es' := es1) (t' := t2) ho hd
  have b1 := Heap.SameBut.update s.heap a (Obj.putSet es1 t2)
  refine wpAny_bind (wpAny_storeSet_of ho hd ?_ (fits_of_scanBound hb))
  by_cases c : (!dm && t2.tooFull) = true
  · rw [if_pos c]
    have r1 := relayAll_perm t2 es1 (SetTable.grown es1.size)
    have r2 := relayAll_fits t2 es1 (SetTable.grown es1.size)
    have r3 := relayAll_ris t2 es1 (SetTable.grown es1.size)
    have r4 := relayAll_led t2 es1 (SetTable.grown es1.size)
    generalize relayAll t2 es1 (SetTable.grown es1.size) = Z at r1 r2 r3 r4 ⊢
    have hz : Z.1.size < scanBound := by
      have := r1.length_eq
      rw [Array.length_toList, Array.length_toList] at this
      omega
    refine wpAny_bind (hg _ _ _ ?_)
    refine wpAny_bind (wpAny_storeSet_of q1 rfl ?_ (fits_of_scanBound hz))
    exact wpAny_pure (hR _ (b1.trans (Heap.SameBut.update _ a _)) ⟨_, _, _, _, tx_stored q1 rfl, hex, rfl, ⟨m, r1.trans pm, hm, hn⟩, hz, r2, r3, hl.imp id fun z => by rw [r4]; exact z⟩)
  · rw [if_neg c]
    exact wpAny_pure (hR _ b1 ⟨_, _, _, _, q1, hex, rfl, ⟨m, pm, hm, hn⟩, hb, hf, hr, hl⟩)
theorem tx_add {k : Str} {tk : Tok} {Q : Bool → Shared → Prop} (R : TxR P w s.heap a M) (room : M.length + 1 < scanBound)
    (hQ : ∀ h' b, Heap.SameBut a s.heap h' → TxR P w h' a (dd1 M k) → Q b { s with heap := h' }) : wpAny (model P w) A (setAddHashed a (.str k tk) ((PySem.strKind P w).hash k)) Q E s := by
  obtain ⟨o, es, ep, t, ho, hex, hd, ⟨m, pm, hm, hn⟩, hb, hf, hr, hl⟩ := R
  have hel := tents_ok pm
  have hin : k ∈ M ↔ ∃ e ∈ es.toList, (PySem.strKind P w).is k e.2 = true := by
    rw [← hm, List.mem_map]
    constructor
    · rintro ⟨p, hp, e⟩
      exact ⟨tent P w p, pm.mem_iff.mpr (List.mem_map_of_mem hp), (tent_is p k).mpr e⟩
    · rintro ⟨e, he, q⟩
      obtain ⟨p, hp, rfl⟩ := List.mem_map.mp (pm.mem_iff.mp he)
      exact ⟨p, hp, (tent_is p k).mp q⟩
  have hsc : (Value.str k tk).scannable = true := rfl
  unfold setAddHashed setAddHashedIn
  refine wpAny_holding (wpAny_bind (wpAny_setState_of ho hd hf ?_))
  dsimp only
  rw [byScan_of hsc hb hel]
  simp only [↓reduceIte]
  unfold setAddByScan
  refine wpAny_bind ?_
  refine wpAny_bind (wpAny_rule ?_)
  refine wpAny_bind (wpAny_setScan_of (strKind_is P w k tk) ho hd hf hel ?_)
  cases hfi : List.findIdx? (fun e => (PySem.strKind P w).is k e.2) es.toList with
  | some j =>
    obtain ⟨hj, pj, _⟩ := List.findIdx?_eq_some_iff_getElem.mp hfi
    have h1 : k ∈ M := hin.mpr ⟨_, List.getElem_mem hj, pj⟩
    refine wpAny_pure (wpAny_pure (hQ s.heap _ (Heap.SameBut.refl a s.heap) ?_))
    unfold dd1
    rw [if_pos h1]
    exact ⟨o, es, ep, t, ho, hex, hd, ⟨m, pm, hm, hn⟩, hb, hf, hr, hl⟩
  | none =>
    have h1 : k ∉ M := fun z => by
      obtain ⟨e, he, q⟩ := hin.mp z
      have c := List.findIdx?_eq_none_iff.mp hfi e he
      rw [q] at c
      cases c
    have ed : dd1 M k = M ++ [k] := if_neg h1
    have r1 := layNew_perm t es ((PySem.strKind P w).hash k) (.str k tk)
    have r2 := layNew_fits t es ((PySem.strKind P w).hash k) (.str k tk)
    have r3 := layNew_ris t es ((PySem.strKind P w).hash k) (.str k tk) hr
    have r4 := layNew_led t es ((PySem.strKind P w).hash k) (.str k tk)
    dsimp only
    generalize layNew t es ((PySem.strKind P w).hash k) (.str k tk) = Z at r1 r2 r3 r4 ⊢
    obtain ⟨es1, t1, dm, gave⟩ := Z
    dsimp only at r1 r2 r3 r4 ⊢
    rw [Array.toList_push] at r1
    have p1 : es1.toList.Perm ((m ++ [(k, tk)]).map (tent P w)) := by
      rw [List.map_append]
      exact r1.trans (pm.append_right _)
    have m1 : (m ++ [(k, tk)]).map (·.1) = M ++ [k] := by rw [List.map_append, hm]; rfl
    have n1 : (M ++ [k]).Nodup := List.nodup_append.mpr ⟨hn, by simp, fun x hx y hy => by rw [List.mem_singleton] at hy; subst hy; exact fun e => h1 (e ▸ hx)⟩
    have z1 : es1.size < scanBound := by
      have := p1.length_eq
      rw [Array.length_toList, List.length_map, List.length_append] at this
      have h2 : m.length = M.length := by rw [← hm, List.length_map]
      simp at this
      omega
    have l1 : w.params.followText "set-order" = true ∨ t1.led = true := hl.imp id fun z => by rw [r4]; exact z
    have hgw : ∀ (b : Bool) (s₁ : Shared) (Q' : Unit → Shared → Prop), Q' () s₁ → wpAny (model P w) A (match b with | true => rule "set.scan.the-table-gave-way" | false => pure ()) Q' E s₁ :=
      fun b s₁ Q' q => by cases b <;> first | exact wpAny_pure q | exact wpAny_rule q
    rw [ed] at hQ
    refine wpAny_bind (hgw _ _ _ ?_)
    split
    · refine wpAny_bind ?_
      rw [hashByValue_scannable 8 hsc]
      refine wpAny_pure ?_
      refine tx_tail (fun b s₁ Q' q => ?_) ho hex hd p1 m1 n1 z1 ?_ ?_ ?_ fun h' sb r => ?_
      · cases b <;> first | exact wpAny_pure q | exact wpAny_rule q
      · first | (split <;> first | exact r2 | exact SetTable.fits_plain_off r2) | exact r2
      · first | (split <;> exact r3) | exact r3
      · first | (split <;> exact l1) | exact l1
      · dsimp only; exact wpAny_pure (hQ h' _ sb r)
    · refine wpAny_bind (wpAny_pure ?_)
      simp only [↓reduceIte]
      refine tx_tail (fun b s₁ Q' q => ?_) ho hex hd p1 m1 n1 z1 r2 r3 l1 fun h' sb r => ?_
      · cases b <;> first | exact wpAny_pure q | exact wpAny_rule q
      · dsimp only; exact wpAny_pure (hQ h' _ sb r)
end
def ddT (xs : List Str) : List Str := xs.foldl dd1 []
theorem dd_snoc (xs : List Str) (k : Str) : ddT (xs ++ [k]) = dd1 (ddT xs) k := by unfold ddT; rw [List.foldl_append]; rfl
theorem dd_take {xs : List Str} {i : Nat} {k : Str} (h : xs[i]? = some k) : ddT (xs.take (i + 1)) = dd1 (ddT (xs.take i)) k := by
  rw [List.take_add_one, h, Option.toList_some, dd_snoc]
theorem dd1_ok {M : List Str} (k : Str) (h : M.Nodup) : (dd1 M k).Nodup ∧ (dd1 M k).length ≤ M.length + 1 ∧ ∀ x, x ∈ dd1 M k ↔ x ∈ M ∨ x = k := by
  unfold dd1
  split
  · rename_i c
    exact ⟨h, by omega, fun x => ⟨.inl, fun z => z.elim id fun e => e ▸ c⟩⟩
  · rename_i c
    refine ⟨List.nodup_append.mpr ⟨h, by simp, fun x hx y hy => by rw [List.mem_singleton] at hy; subst hy; exact fun e => c (e ▸ hx)⟩, by rw [List.length_append]; simp, fun x => by rw [List.mem_append, List.mem_singleton]⟩
theorem dd_ok (xs : List Str) : ∀ i, i ≤ xs.length → (ddT (xs.take i)).Nodup ∧ (ddT (xs.take i)).length ≤ i ∧ ∀ x, x ∈ ddT (xs.take i) ↔ x ∈ xs.take i
  | 0, _ => ⟨by simp [ddT], by simp [ddT], by simp [ddT]⟩
  | i + 1, hi => by
    obtain ⟨h1, h2, h3⟩ := dd_ok xs i (by omega)
    have e : xs[i]? = some xs[i] := List.getElem?_eq_getElem (by omega)
    obtain ⟨a, b, c⟩ := dd1_ok xs[i] h1
    rw [dd_take e]
    refine ⟨a, by omega, fun x => ?_⟩
    rw [c, h3, List.take_add_one, e, Option.toList_some, List.mem_append, List.mem_singleton]
section
variable {prog : Program} {w : World} {A : Around} {R : Result → Shared → Prop} {I : Addr} {fp wr : List Addr} {G : Array GenState → Array GenState → Prop} {n : Nat} {Pv : Nat → Value → Prop} {St : Nat → Shared → Prop}
theorem TxR.at {h h' : Heap} {a : Addr} {M : List Str} (R : TxR prog w h a M) (k : ∀ o, h.get? a = some o → h'.get? a = some o) : TxR prog w h' a M := by
  obtain ⟨o, es, ep, t, ho, r⟩ := R
  exact ⟨o, es, ep, t, k o ho, r⟩
theorem tx_loop (W : WalksS prog w A.in1 I fp wr G n Pv St) (S : Addr) (hS : S ∉ fp) (xs : List Str) (hz : xs.length = n) (hn : n < 60) (hv : ∀ i v, Pv i v → ∃ t, v = .str (xs.getD i Str.empty) t) :
    ∀ (k i : Nat) (s : Shared), n - i = k → i ≤ n → St i s → TxR prog w s.heap S (ddT (xs.take i)) →
      (∀ s', Moved (S :: wr) G s s' → TxR prog w s'.heap S (ddT (xs.take n)) → R (.ok (.ret .none)) s') → codeAny (model prog w) A (.builtin "set.update.loop" ⟨[.ref S, .ref I], []⟩) R s := by
  have hw : S ∉ wr := fun h => hS (W.sub _ h)
  have hsub : ∀ b ∈ wr, b ∈ S :: wr := fun b hb => List.mem_cons_of_mem _ hb
  intro k
  induction k with
  | zero =>
    intro i s hk hi hst hR hQ
    obtain rfl : i = n := by omega
    refine codeAny_builtin PyProof.Rows.F.entry_set_update_loop ?_
    rw [Around.under_plainId PyProof.Rows.F.plain_set_update_loop _]
    show wpAny _ A.in1 (pyNext (.ref I) >>= _) _ _ s
    refine wpAny_bind (W.done s _ _ hst fun s' hm => ?_)
    show wpAny _ A.in1 (ret Value.none) _ _ s'
    exact wpAny_pure (hQ s' (hm.mono hsub) (hR.at fun o e => hm.heap S _ hw e))
  | succ k ih =>
    intro i s hk hi hst hR hQ
    have hlt : i < n := by omega
    have e : xs[i]? = some xs[i] := List.getElem?_eq_getElem (by omega)
    refine codeAny_builtin PyProof.Rows.F.entry_set_update_loop ?_
    rw [Around.under_plainId PyProof.Rows.F.plain_set_update_loop _]
    show wpAny _ A.in1 (pyNext (.ref I) >>= _) _ _ s
    refine wpAny_bind (W.item i s _ _ hlt hst fun v s' hP hst' hm => ?_)
    obtain ⟨t, rfl⟩ := hv i v hP
    have eg : xs.getD i Str.empty = xs[i] := by rw [List.getD_eq_getElem?_getD, e]; rfl
    rw [eg]
    have hR' : TxR prog w s'.heap S (ddT (xs.take i)) := hR.at fun o e => hm.heap S _ hw e
    show wpAny _ A.in1 (holding [Value.str xs[i] t] (setAdd S (.str xs[i] t)) >>= _) _ _ s'
    refine wpAny_bind (wpAny_holding ?_)
    unfold setAdd
    refine wpAny_holding ?_
    refine wpAny_bind ((PySem.strKind prog w).pyHash (k := xs[i]) (strKind_is _ _ _ _) ?_)
    have hl := (dd_ok xs i (by omega)).2.1
    refine tx_add (s := { s' with toks := s'.toks + 1 }) hR' (by unfold scanBound; omega) fun h' b hsb hR2 => ?_
    rw [← dd_take e] at hR2
    refine wpAny_pure ⟨plainId_quiet PyProof.Rows.F.plain_set_update_loop _, ih (i + 1) _ (by omega) hlt (W.frame _ s' _ _ hst' (Nat.le_succ _) fun b hb o e => ?_) hR2 fun s'' hm'' hS'' => ?_⟩
    · rw [hsb.2 b (fun h : b = S => hS (by rw [← h]; exact hb))]; exact e
    · refine hQ s'' (Moved.trans W.gtrans ((hm.mono hsub).then_heap (Nat.le_succ _) fun b o hb e => ?_) hm'') hS''
      rw [hsb.2 b (fun h : b = S => hb (by rw [h]; exact List.mem_cons_self))]; exact e
end
section
variable {prog : Program} {w : World} {A : Around} {E : Value → Shared → Prop} {s : Shared}
theorem tx_fresh {h : Heap} {a : Addr} {led : Bool} (ha : h.get? a = some { cls := .type "set", dict := none, data := .set #[] 0 (.fresh 0 0 led) }) (hl : w.params.followText "set-order" = true ∨ led = true) : TxR prog w h a [] :=
  ⟨_, #[], 0, _, ha, ⟨rfl, rfl, rfl⟩, rfl, ⟨[], .refl _, rfl, List.nodup_nil⟩, by decide, by rfl, .nil, hl⟩
theorem tx_new (a : Value) {Q : Value → Shared → Prop} (h : Q (.ref s.heap.objs.size) { s with heap := s.heap.push { cls := .type "set", dict := none, data := .set #[] 0 (.fresh 0 0 (!w.params.followText "set-order")) } }) :
    codeAny (model prog w) A (.call (.builtin "set.__new__") ⟨[.type "set", a], []⟩) (wants Q E) s := by
  refine codeAny_of_tree ?_
  show wpAny _ A.in1 (do checkBuiltinCall "set.__new__" ⟨[.type "set", a], []⟩; again (.builtin "set.__new__" ⟨[.type "set", a], []⟩)) _ _ s
  refine wpAny_bind (wpAny_of_eq (PySem.F.newCall_set_1 a) (wpAny_pure ⟨plainId_quiet PySem.F.plain_set_new _, codeAny_builtin PySem.F.entry_set_new ?_⟩))
  rw [Around.under_plainId PySem.F.plain_set_new _]
  unfold Builtin.«set.__new__» Builtin.Frozenset.newClass
  have hsub := sub_set_self
  obtain ⟨hp, g, d, tk, os⟩ := s
  dsimp only
  wp_walk
  refine wpAny_askSetting (wpAny_pure ?_)
  dsimp only
  simp only [newObj]
  refine wpAny_bind (wpAny_alloc (wpAny_pure ?_))
  exact wpAny_pure h
end
theorem txs_at : ∀ {us : List Value} {xs : List Str}, PyProof.Rows.StrsAre us xs → ∀ (i : Nat) (v : Value), us[i]? = some v → ∃ t, v = .str (xs.getD i Str.empty) t
  | _, _, .nil, i, v, h => by simp at h
  | _, _, .cons n t hr, 0, v, h => by simp at h; exact ⟨t, by rw [← h] <;> rfl⟩
  | _, _, .cons n t hr, i + 1, v, h => by
    rw [List.getElem?_cons_succ] at h
    obtain ⟨t', e⟩ := txs_at hr i v h
    exact ⟨t', by rw [e] <;> rfl⟩
def txOf : Value → Str
  | .str x _ => x
  | _ => Str.empty
theorem txs_are : ∀ (l : List Value), (∀ v ∈ l, ∃ k tk, v = Value.str k tk) → PyProof.Rows.StrsAre l (l.map txOf)
  | [], _ => .nil
  | v :: l, h => by
    obtain ⟨k, tk, rfl⟩ := h v List.mem_cons_self
    exact .cons k tk (txs_are l fun u hu => h u (List.mem_cons_of_mem _ hu))
section
variable {P : Program} {w : World} {A : Around} {E : Value → Shared → Prop} {s : Shared} {a : Addr}
theorem tx_sorted {M : List Str} {Q : Value → Shared → Prop} (R : TxR P w s.heap a M) (hh : A.handled = none) (h64 : M.length < 60)
    (hQ : ∀ s' p (out : Array Value) (c : Nat) (ys : List Str), (∀ b o, s.heap.get? b = some o → s'.heap.get? b = some o) → s'.gens = s.gens → s'.os = s.os → s.heap.objs.size ≤ p →
      s'.heap.get? p = some (seqObj "list" out c) → PyProof.Rows.StrsAre out.toList ys → ys.Perm M → Q (.ref p) s') : wpAny (model P w) A (call (.builtin "sorted") [.ref a]) Q E s := by
  obtain ⟨o, es, ep, t, ho, hex, hd, ⟨m, pm, hm, hn⟩, hb, hf, hr, hl⟩ := R
  refine Calls.call_function_entry kind_sorted plain_sorted entry_sorted (args_sorted1 _) ?_
  unfold Builtin.«sorted»
  refine wpAny_bind (m := checkCount "sorted" 1 1 _) (wpAny_pure ?_)
  refine wpAny_bind (collect_set (A := A.in1) hh ⟨o, ho, hex.1, hd⟩ hf hb hr hl fun s1 vs k1 hz g1 o1 pv => ?_)
  have p2 : vs.Perm ((m.map (tent P w)).map (·.2)) := pv.trans (pm.map _)
  have hS : PyProof.Rows.StrsAre vs (vs.map txOf) := txs_are vs fun v hv => by
    obtain ⟨e, he, q⟩ := List.mem_map.mp (p2.mem_iff.mp hv)
    obtain ⟨p, _, rfl⟩ := List.mem_map.mp he
    exact ⟨p.1, p.2, q.symm⟩
  have pk : (vs.map txOf).Perm M := by
    have := p2.map txOf
    rw [List.map_map, List.map_map] at this
    rw [← hm]
    exact this
  have hvl : vs.length < 60 := by
    have := pk.length_eq
    rw [List.length_map] at this
    omega
  refine wpAny_bind (wpAny_newList ?_ (by rw [sizeLine_eq]; omega))
  have hoL : (s1.heap.push (seqObj "list" vs.toArray 0)).get? s1.heap.objs.size = some (seqObj "list" vs.toArray 0) := Heap.get?_push_size _ rfl
  refine wpAny_bind (wpAny_holding (wpAny_call_entry slot_list_sort ⟨_, hoL, rfl⟩ entry_list_sort (list_sort_treeK strKind_oneLt hoL hS.keysOf (fun v₁ v₂ rest e => keyKind_strs (by rw [← e]; exact hS)) (by omega) fun st' hp hs => ?_) (args_list_sort _)))
  obtain ⟨ss, a1, a2, _⟩ := sorted_out_str hS hp hs
  refine ⟨_, rfl, ?_⟩
  obtain ⟨c, hc⟩ := sortedHeap_at (vs := vs) (out := (arrOf st').map (·.2)) hoL
  refine wpAny_pure ⟨_, rfl, hQ _ s1.heap.objs.size _ c ss (fun b u e => ?_) g1 o1 hz hc a1 (a2.trans pk)⟩
  have q := k1 b u e
  have hlt := Heap.lt_size q
  show (sortedHeap (s1.heap.push (seqObj "list" vs.toArray 0)) s1.heap.objs.size vs _).get? b = some u
  rw [sortedHeap_old (Nat.ne_of_lt hlt) (by rw [size_push']; exact Nat.lt_succ_of_lt hlt)]
  exact Heap.get?_push_of_some _ q
end
section
variable {prog : Program} {w : World} {A : Around} {E : Value → Shared → Prop} {s : Shared}
set_option maxHeartbeats 3200000 in
theorem tx_call {l : Addr} {items : Array Value} {xs : List Str} {Q : Value → Shared → Prop} (hh : A.handled = none) (hl : s.heap.IsList l items) (hi : PyProof.Rows.StrsAre items.toList xs) (hn : xs.length < 60)
    (h : ∀ (h' : Heap) (tk : Nat), TxR prog w h' s.heap.objs.size (ddT xs) → (∀ b o, b < s.heap.objs.size → s.heap.get? b = some o → h'.get? b = some o) → Q (.ref s.heap.objs.size) { s with heap := h', toks := tk }) :
    wpAny (model prog w) A (call (.type "set") [.ref l]) Q E s := by
  obtain ⟨c, tl, hmro⟩ := PySem.F.called_set.mro
  have hmade := PySem.F.called_set.made
  have hsub := PySem.F.called_set.sub
  refine wpAny_call (codeAny_of_tree ?_)
  show wpAny _ _ (callAny (.type "set") _) _ _ _
  refine wpAny_pure ⟨Code.quiet_builtin _ (by decide +kernel), codeAny_builtin PySem.F.entry_type_call ?_⟩
  rw [Around.under_plain (weight_type_call_type "set" [.ref l] []) rfl]
  have h1 := PySem.F.called_set.notType
  have h2 := PySem.F.called_set.canCreate
  have hct := PySem.F.typeCall_set_1 (.ref l)
  repeat (any_goals (first | assumption | wp_step))
  refine codeAny_mono (tx_new (.ref l) (E := E) (Q := fun obj s₁ => obj = .ref s.heap.objs.size ∧ s₁ = { s with heap := s.heap.push { cls := .type "set", dict := none, data := .set #[] 0 (.fresh 0 0 (!w.params.followText "set-order")) } }) ⟨rfl, rfl⟩) fun r s₁ hr => ?_
  cases r with
  | error e => exact hr
  | ok fl =>
    cases fl with
    | ret obj =>
      obtain ⟨rfl, rfl⟩ := hr
      have hS : (s.heap.push { cls := .type "set", dict := none, data := .set #[] 0 (.fresh 0 0 (!w.params.followText "set-order")) }).get? s.heap.objs.size = some { cls := .type "set", dict := none, data := .set #[] 0 (.fresh 0 0 (!w.params.followText "set-order")) } := Heap.get?_push_size _ rfl
      have hT : Shared.TypeIs { s with heap := s.heap.push { cls := .type "set", dict := none, data := .set #[] 0 (.fresh 0 0 (!w.params.followText "set-order")) } } (.ref s.heap.objs.size) "set" := ⟨_, hS, rfl⟩
      have hled : w.params.followText "set-order" = true ∨ (!w.params.followText "set-order") = true := by
        cases w.params.followText "set-order"
        · exact .inr rfl
        · exact .inl rfl
      generalize (!w.params.followText "set-order") = led at hS hT hled ⊢
      have hli := PySem.F.called_set.init.lookup
      have hbi := PySem.F.called_set.init.bind (.ref s.heap.objs.size)
      repeat (any_goals (first | assumption | wp_step))
      refine codeAny_mono (codeAny_call_builtin (R := wants (fun r s₂ => r = .none ∧ ∃ h' tk, s₂ = { s with heap := h', toks := tk } ∧ TxR prog w h' s.heap.objs.size (ddT xs) ∧
          (∀ b o, b < s.heap.objs.size → s.heap.get? b = some o → h'.get? b = some o)) E) PySem.F.called_set.init.plain PySem.F.entry_set_init (check_set_init_1 hT ?_)) fun r₂ s₂ hr₂ => ?_
      · obtain ⟨ol, hol, hcl, nl, hdl⟩ := hl
        obtain ⟨ocls, odict, odata, oslots⟩ := ol
        simp only at hcl hdl
        subst hcl; subst hdl
        have hol' : (s.heap.push { cls := .type "set", dict := none, data := .set #[] 0 (.fresh 0 0 led) }).get? l = some { cls := .type "list", dict := odict, data := .seq items nl, slots := oslots } := Heap.get?_push_of_some _ hol
        have hsls := PySem.F.sub_list_set
        have hslf := PySem.F.sub_list_frozenset
        have hne : (Value.type "list" == Value.type "dict") = false := by decide
        have hl1 : (s.heap.push { cls := .type "set", dict := none, data := .set #[] 0 (.fresh 0 0 led) }).IsList l items := ⟨_, hol', rfl, nl, rfl⟩
        unfold Builtin.«set.__init__» noKeywords Builtin.Frozenset.updateFrom
        generalize hPI : pyIter = PI
        wp_walk
        subst hPI
        refine wpAny_pyIter_list hl1 ?_
        refine wpAny_bind (wpAny_runValue ?_)
        have hlS : l < s.heap.objs.size := Heap.lt_size hol
        have hh3 : A.in1.in1.in1.handled = none := by simp [hh]
        have hneI : l ≠ (s.heap.push { cls := .type "set", dict := none, data := .set #[] 0 (.fresh 0 0 led) }).objs.size := by
          rw [Heap.size_push]; exact Nat.ne_of_lt (Nat.lt_succ_of_lt hlS)
        have hSf : s.heap.objs.size ∉ [(s.heap.push { cls := .type "set", dict := none, data := .set #[] 0 (.fresh 0 0 led) }).objs.size, l] := by
          rw [Heap.size_push]; simp only [List.mem_cons, List.mem_singleton, List.not_mem_nil, or_false, not_or]
          exact ⟨Nat.ne_of_lt (Nat.lt_succ_self _), Nat.ne_of_gt hlS⟩
        have hsz : xs.length = items.size := by rw [← PyProof.Rows.StrsAre.len_eq hi, Array.length_toList]
        have hval : ∀ (i : Nat) (v : Value), items[i]? = some v → ∃ t, v = .str (xs.getD i Str.empty) t := fun i v hv => txs_at hi i v (by rw [Array.getElem?_toList]; exact hv)
        refine tx_loop ((Walks.list hh3 _ l hneI items).toS) s.heap.objs.size hSf xs hsz (by rw [← hsz]; exact hn) hval (items.size - 0) 0 _ (by omega) (Nat.zero_le _)
          ⟨⟨_, Heap.get?_push_size _ rfl, rfl, rfl⟩, (hl1.push _)⟩ (tx_fresh (Heap.get?_push_of_some _ hS) hled) ?hR
        case hR =>
          intro s' hm hS'
          rw [List.take_of_length_le (by omega)] at hS'
          obtain ⟨h', g', d', tk', os'⟩ := s'
          have eg : g' = s.gens := hm.gens
          have ed : d' = s.drawn := hm.drawn
          have eo : os' = s.os := hm.os
          subst eg; subst ed; subst eo
          show wpAny _ _ _ _ _ _
          refine wpAny_pure ?_
          show wpAny _ _ (ret Value.none) _ _ _
          refine wpAny_pure ⟨rfl, h', tk', rfl, hS', fun b o hb e => ?_⟩
          have hb1 : b ≠ s.heap.objs.size := Nat.ne_of_lt hb
          have hb2 : b ≠ (s.heap.push { cls := .type "set", dict := none, data := .set #[] 0 (.fresh 0 0 led) }).objs.size := by
            rw [Heap.size_push]; exact Nat.ne_of_lt (Nat.lt_succ_of_lt hb)
          exact hm.heap b o (by simp only [List.mem_cons, List.mem_singleton, List.not_mem_nil, or_false, not_or]; exact ⟨hb1, hb2⟩) (Heap.get?_push_of_some _ (Heap.get?_push_of_some _ e))
      · cases r₂ with
        | error e => exact hr₂
        | ok fl₂ =>
          cases fl₂ with
          | ret r =>
            obtain ⟨rfl, h', tk, rfl, hS', hk'⟩ := hr₂
            repeat (any_goals (first | assumption | wp_step))
            exact h _ _ hS' hk'
          | _ => exact hr₂.elim
    | _ => exact hr.elim
end
def TxO (P : Program) (w : World) (a : Addr) (M : List Str) : HO := .ext fun h => TxR P w h a M
def rSetT (P : Program) (w : World) (K : PySem.W.Frag) : List V → Hp → VK → Prop := fun vs H Q => ∃ (l : Addr) (M : List Str), vs = [.ref l] ∧ SqL K H l (M.map V.str) ∧ M.length < 60 ∧
  ∀ (p : Addr) (M' : List Str), M'.Nodup → M'.length < 60 → (∀ x, x ∈ M' ↔ x ∈ M) → H p = none → Q (.ref p) (upd H p (TxO P w p M'))
def rSortT (P : Program) (w : World) : List V → Hp → VK → Prop := fun vs H Q => ∃ (a : Addr) (M : List Str), vs = [.ref a] ∧ H a = some (TxO P w a M) ∧ M.length < 60 ∧
  ∀ (q : Addr) (ys : List Str), ys.Perm M → H q = none → Q (.ref q) (upd H q (.lst (ys.map V.str)))
section
variable {X : Cx}
theorem txO_new {P : Program} {w : World} {H : Hp} {h : Heap} {a : Addr} {M : List Str} (R : TxR P w h a M) : ObjOk P w H h a (TxO P w a M) := by
  have ⟨o, es, ep, t, ho, _⟩ := R
  refine ⟨R, ⟨o, ho⟩, fun h1 h2 p k => TxR.at p k⟩
def rListS : List V → Hp → VK → Prop := fun xs H Q => ∃ a : List Nat, xs = [.str (SX.S a)] ∧ a.length ≤ 1000 ∧ ∀ p, H p = none → Q (.ref p) (upd H p (.lst (a.map fun c => V.str (SX.S [c]))))
theorem cr_listS (hc : X.calm = true) : CallR X (.type "list") rListS := by
  intro pins s σ H xs us Q I r h
  obtain ⟨a, rfl, hl, q⟩ := h
  obtain ⟨u, rfl, ru⟩ := vals1 r
  obtain ⟨t, rfl⟩ := ru
  have hz : (SX.S a).cps.size = a.length := by simp [SX.S]
  refine call_list_str (I.ok.hd hc) (SX.S a) t (hn := by rw [hz, sizeLine_eq]; omega) fun h' tk acc' c' hk hS' hacc => ?_
  refine ⟨.ref s.heap.objs.size, upd H s.heap.objs.size (.lst (a.map fun c => V.str (SX.S [c]))), I.laid hk (Nat.le_refl _) (show ObjOk X.prog X.w _ _ _ (.lst (a.map fun c => V.str (SX.S [c]))) from ⟨?_, acc'.toList, c', ?_, ?_⟩), rfl, q _ (I.hok.fresh (Nat.le_refl _))⟩
  · rw [List.length_map, sizeLine_eq]; omega
  · have el : acc'.toList.length = acc'.size := by simp
    refine vals_of_at (by rw [List.length_map, el, hacc.1, hz]) fun j x w h1 h2 => ?_
    obtain ⟨c, u, hc', rfl⟩ := hacc.2 j w (by rw [← Array.getElem?_toList]; exact h2)
    have e1 : a[j]? = some c := by simpa [SX.S] using hc'
    rw [List.getElem?_map, e1] at h1
    cases h1
    exact ⟨u, rfl⟩
  · simpa using hS'
theorem cr_setT (hc : X.calm = true) : CallR X (.type "set") (rSetT X.prog X.w X.K) := by
  intro pins s σ H vs us Q I r h
  obtain ⟨l, M, rfl, hs, hM, q⟩ := h
  obtain ⟨its, rv, hl, _⟩ := I.list hs
  rw [Vals.ref1 r]
  refine tx_call (I.ok.hd hc) hl.isList (by simpa using rv.strs) hM fun h' tk R hk => ?_
  obtain ⟨d1, d2, d3⟩ := dd_ok M M.length (Nat.le_refl _)
  rw [List.take_length] at d1 d2 d3
  exact ⟨.ref _, upd H s.heap.objs.size (TxO X.prog X.w s.heap.objs.size (ddT M)), I.laid (fun b o e => hk b o (Heap.lt_size e) e) (Nat.le_refl _) (txO_new R), rfl, q _ (ddT M) d1 (by omega) d3 (I.hok.fresh (Nat.le_refl _))⟩
theorem cr_sortedT (hc : X.calm = true) : CallR X (.builtin "sorted") (rSortT X.prog X.w) := by
  intro pins s σ H vs us Q I r h
  obtain ⟨a, M, rfl, ha, h60, q⟩ := h
  have R : TxR X.prog X.w s.heap a M := (I.hok a _ ha).1
  rw [Vals.ref1 r]
  refine tx_sorted R (I.ok.hd hc) h60 fun s' p out c ys k g o hp hg hi hperm => ?_
  have hlen : (ys.map V.str).length ≤ sizeLine := by rw [List.length_map, hperm.length_eq, sizeLine_eq]; omega
  have hn : H p = none := I.hok.fresh hp
  have J : Inv X pins σ (upd H p (.lst (ys.map V.str))) { s with heap := s'.heap, gens := s'.gens, drawn := s'.drawn, toks := s'.toks } :=
    I.call (ch := []) (Un.laid k hp hn) (I.hok.laid k hp ⟨hlen, out.toList, c, vals_of_strs hi, hg⟩) (by rw [g]; exact I.bare) (fun _ z => nomatch z)
  have e : s' = { s with heap := s'.heap, gens := s'.gens, drawn := s'.drawn, toks := s'.toks } := by
    cases s'
    cases s
    cases o
    rfl
  rw [e]
  exact ⟨.ref p, _, J, rfl, q p ys hperm hn⟩
end
end Kr

set_option Elab.async false
set_option linter.all false
set_option maxRecDepth 100000
set_option maxHeartbeats 0
namespace Kr
open PySem PySem.W PySem.Calls PyProof.Rows HandSHeadRun
section
variable (st : SharedT → Thread → Option (SharedT × Thread)) (n0 : Nat) (ann : Option Value)
variable {st : SharedT → Thread → Option (SharedT × Thread)} {n0 : Nat} {ann : Option Value}
end
abbrev vs (s : String) (t : Nat) : Value := .str (Str.ofString s) t
end Kr

set_option Elab.async false
set_option linter.all false
set_option maxRecDepth 100000
set_option maxHeartbeats 2000000
namespace Kr
open PySem PySem.Spec PyProof.Rows L2
open SX (S)
open He (ga ma)
def top (i : Nat) : Stmt := PySem.Challenge.pw_keyreel_k37_measures_as_values.main.body.getD i (.Pass ⟨0, 0, 0, 0⟩)
abbrev FnP (K : PySem.W.Frag) (x : Str) (st : Stmt) (f : Addr) (fd : FuncData) : Prop := FunD K x x (defArgs st) (defBody st) (defScope st) [] [] f fd
local macro_rules | `(tactic| bv_omega) => `(tactic| focus (first | assumption | exact upd_same | exact isSu0 | (apply isS; assumption; done) | (apply Box.isB; assumption; done) | (apply Box.isL; assumption; done) | (apply Box.new; bv_omega; bv_omega; done) | (apply Box.k1; assumption; bv_omega; bv_omega; bv_omega; done) | (apply Box.mt; bv_omega; bv_omega; bv_omega; done) | (apply Box.sm; assumption; bv_omega; done) | (refine Ne.symm ?_; assumption) | (apply isSs; assumption; bv_omega; done) | (apply isSu; bv_omega; done) | (apply updNon; bv_omega; bv_omega; done) | (apply updGet; bv_omega; bv_omega; done) | (apply Same.get; assumption; bv_omega; done) | (apply Kp.get1; assumption; bv_omega; bv_omega; done) | (apply Kp.get2; assumption; bv_omega; bv_omega; bv_omega; done) | exact Same.refl _ | (apply Same.nw; bv_omega; bv_omega; done) | (apply Same.mu; bv_omega; bv_omega; done) | (apply Same.tr; assumption; bv_omega; done) | exact Kp.refl | (apply Kp.up1; bv_omega; done) | (apply Kp.nw1; bv_omega; bv_omega; done) | (apply Kp.sm1; assumption; bv_omega; done) | (apply Kp.tr1; assumption; bv_omega; done) | exact Tk.refl | (apply Tk.kpl; assumption; assumption; bv_omega; done) | (apply ItsAt.kp; assumption; bv_omega; done) | (apply ItsAt.one; bv_omega; bv_omega; done) | (apply Tr.kp; assumption; bv_omega; done) | (apply Tk.sm; assumption; bv_omega; done) | (apply Tk.nw; bv_omega; bv_omega; done) | (apply Tk.ls; bv_omega; bv_omega; done) | (apply Tk.k1; assumption; bv_omega; bv_omega; done) | (apply Tk.bx; assumption; assumption; bv_omega; done) | (apply neTL; assumption; assumption; done) | (apply neLT; assumption; assumption; done) | (apply neTI; assumption; assumption; done) | (apply neLI; assumption; assumption; done) | (apply neIT; assumption; assumption; done) | (apply neIL; assumption; assumption; done) | (apply neSN; assumption; bv_omega; done) | (apply neNS; assumption; bv_omega; done)))
local macro_rules | `(tactic| ac_rfl) => `(tactic| focus (first | exact rfl | (with_reducible assumption) | omega | assumption | (apply SqL.of; bv_omega; done) | (apply SqT.of; bv_omega; done) | (apply Or.inl; apply SqL.of; bv_omega; done) | (apply Or.inr; apply SqT.of; bv_omega; done) | exact atIz (by assumption) | exact atIn (by assumption) | exact ClsV.ty _ | exact TyX.base (.str _) | exact TyX.base (.int _) | exact TyX.base (.bl _) | (apply TyX.base; apply TyOf.lst; bv_omega; done) | (apply TyX.base; apply TyOf.tup; bv_omega; done) | (apply tyL; bv_omega; done) | (apply ltSz; (try simp); (try omega); done) | (apply leSz; (try simp); (try omega); done) | (apply Exists.intro; apply SqT.of; bv_omega; done) | (apply Exists.intro; apply SqL.of; bv_omega; done) | (simp only [List.length_append, List.length_cons, List.length_nil, List.length_map, List.length_reverse]; omega; done) | exact fun _ h => h | exact Or.inl rfl | decide | (with_reducible bv_omega) | trivial))
local macro_rules | `(tactic| and_intros) => `(tactic| repeat (first | (apply And.intro; focus (first | done | ac_rfl; done)) | apply @Exists.intro V | apply @Exists.intro Nat | apply @Exists.intro Int | apply @Exists.intro Bool | apply @Exists.intro Value | apply @Exists.intro Str | apply @Exists.intro (List V) | apply @Exists.intro (List Nat) | apply @Exists.intro HO | apply @Exists.intro (List (Str × V)) | apply @Exists.intro (List Int) | apply @Exists.intro (List It) | apply @Exists.intro It | apply @Exists.intro (List Row) | apply @Exists.intro Row | apply @Exists.intro (List (List Nat)) | refine ift rfl ?_ | refine iff' rfl ?_))
structure TX (K : PySem.W.Frag) (mg : Str → Option Value) : Prop where
  b_len : mg "len" = none
  b_int : mg "int" = none
  b_list : mg "list" = none
  b_range : mg "range" = none
  b_max : mg "max" = none
  b_enumerate : mg "enumerate" = none
  b_isinstance : mg "isinstance" = none
  b_str : mg "str" = none
  b_tuple : mg "tuple" = none
  b_repr : mg "repr" = none
  b_bool : mg "bool" = none
  b_min : mg "min" = none
  b_ValueError : mg "ValueError" = none
  b_set : mg "set" = none
  b_sorted : mg "sorted" = none
  b_sum : mg "sum" = none
  g_SIGNS : ∃ t, mg "SIGNS" = some (.str (S sgn) t)
  g_LETTERS : ∃ t, mg "LETTERS" = some (.str (S ltr) t)
section
variable {P : Program} {w : World} {K : PySem.W.Frag} {mg : Str → Option Value} {base : Heap}
abbrev s_InvalidText : Stmt := inClass (top 3) 0
theorem sc_InvalidText : FnScope ["self", "place"] ["self", "place"] (defScope s_InvalidText) := ⟨rfl, rfl, rfl, by decide +kernel, rfl, by decide +kernel, by decide +kernel⟩
theorem ok_InvalidText {C : Addr} (T : OexC K C) (no : PySem.W.findIn K (.ref C) "place" = some none) {f : Addr} {fd : FuncData} (F : FunD K "__init__" "InvalidText.__init__" (defArgs s_InvalidText) (defBody s_InvalidText) (defScope s_InvalidText) [] [] f fd) : FnOk P w K mg base (CX P w) 1 f fd ["self", "place"] (spEx1 C "place") := by
  refine F.ok sc_InvalidText (fun vs H Q E h => ?_) (fun cdv A outer s H vs Q E hr h => ?_)
  · obtain ⟨a, v, rfl, _⟩ := h
    rfl
  · obtain ⟨a, v, rfl, ha, k⟩ := h
    refine ⟨_, pss_one (ps_ost (pv 0) (pv 1)), ?_⟩
    exact ⟨_, rfl, _, rfl, a, C, rfl, T, no, .inl ⟨ha, fun dx h1 h2 => k dx h1 h2⟩⟩
abbrev s_InvalidRepeat : Stmt := inClass (top 4) 0
theorem sc_InvalidRepeat : FnScope ["self", "repeat"] ["self", "repeat"] (defScope s_InvalidRepeat) := ⟨rfl, rfl, rfl, by decide +kernel, rfl, by decide +kernel, by decide +kernel⟩
theorem ok_InvalidRepeat {C : Addr} (T : OexC K C) (no : PySem.W.findIn K (.ref C) "repeat" = some none) {f : Addr} {fd : FuncData} (F : FunD K "__init__" "InvalidRepeat.__init__" (defArgs s_InvalidRepeat) (defBody s_InvalidRepeat) (defScope s_InvalidRepeat) [] [] f fd) : FnOk P w K mg base (CX P w) 1 f fd ["self", "repeat"] (spEx1 C "repeat") := by
  refine F.ok sc_InvalidRepeat (fun vs H Q E h => ?_) (fun cdv A outer s H vs Q E hr h => ?_)
  · obtain ⟨a, v, rfl, _⟩ := h
    rfl
  · obtain ⟨a, v, rfl, ha, k⟩ := h
    refine ⟨_, pss_one (ps_ost (pv 0) (pv 1)), ?_⟩
    exact ⟨_, rfl, _, rfl, a, C, rfl, T, no, .inl ⟨ha, fun dx h1 h2 => k dx h1 h2⟩⟩
def badAt (a : List Nat) : Option Nat := a.findIdx? fun c => !decide (c ∈ sgn)
def Rz (C : Addr) (f : Str) (v : V) (H : Hp) (E : XK) : Prop := ∀ H' d, Same H H' → H' d = none → E (.ref C) (some d) (upd H' d (.xd [(f, v)]))
def spCheckText (K : PySem.W.Frag) : Sp := fun vs H Q E => ∃ a : List Nat, vs = [.str (S a)] ∧ (badAt a = none → ∀ H', Same H H' → Q .non H') ∧ (∀ i, badAt a = some i → Rz (ga K "InvalidText") "place" (.int (i : Nat)) H E)
theorem Same.new {H H' : Hp} {p : Addr} {o : HO} (a : Same H H') (h : H' p = none) : Same H (upd H' p o) := fun x u q => by
  have q' := a x u q
  rw [upd_ne (ne_of_none q' h)]; exact q'
abbrev s_check_text : Stmt := top 10
theorem sc_check_text : FnScope ["text", "place", "sign"] ["text"] (defScope s_check_text) := ⟨rfl, rfl, rfl, by decide +kernel, rfl, by decide +kernel, by decide +kernel⟩
theorem ok_check_text (T : TX K mg) (x_InvalidText : Ex1 P w K mg base "InvalidText" "place" (ga K "InvalidText")) {f : Addr} {fd : FuncData} (F : FunD K "check_text" "check_text" (defArgs s_check_text) (defBody s_check_text) (defScope s_check_text) [] [] f fd) : FnOk P w K mg base (CX P w) 3 f fd ["text"] (spCheckText K) := by
  refine F.ok sc_check_text (fun vs H Q E h => ?_) (fun cdv A outer s H vs Q E hr h => ?_)
  · obtain ⟨a, rfl, _⟩ := h
    rfl
  · obtain ⟨a, rfl, kN, kE⟩ := h
    refine ⟨_, (pss_one (ps_for (passes_of rfl) rfl (pi_enumS (by rfl) T.b_enumerate (pa_cons (pv 0) pa_nil)) (pg_tup rfl (pgs_cons (pg_name (i := 1) sc_check_text.nd rfl (Or.inl rfl)) (pgs_cons (pg_name (i := 2) sc_check_text.nd rfl (Or.inl rfl)) pgs_nil))) (pss_one (ps_if (pt_cmpR op_notInS (pv 2) (pe_gS T.g_SIGNS rfl) rfl) (pss_one (ps_raise1 rfl (takes_of rfl rfl rfl rfl) x_InvalidText hr (by decide) rfl (pv 1))) pss_nil)))), ?_⟩
    refine ⟨_, rfl, _, rfl, for_it walk_enumS (fun i σ H' => ∃ u v, σ = [some (.str (S a)), u, v] ∧ Same H H' ∧ ∀ j c, j < i → a[j]? = some c → c ∈ sgn) ?_ (fun _ _ _ _ _ => trivial) ?_ ?_⟩
    · exact ⟨none, none, rfl, Same.refl H, fun j c h => absurd h (Nat.not_lt_zero _)⟩
    · rintro i x σ H1 H2 hi ⟨u, v, rfl, s1, ok⟩ ⟨tt, y, z, rfl, h1, rfl, e1, e2⟩
      cases Option.some.inj e1
      have hi' : i < a.length := by simpa [S] using hi
      have e3 : a[i]? = some a[i] := List.getElem?_eq_getElem hi'
      have e4 : z = .str (S [a[i]]) := by
        have q : ((S a).cps[i]?.map fun c => V.str ⟨#[c]⟩) = some z := e2
        have q2 : (S a).cps[i]? = some a[i] := by simpa [S] using e3
        rw [q2] at q
        exact (Option.some.inj q).symm
      subst e4
      have s2 : Same H (upd H1 tt (.tup [.int (i : Nat), .str (S [a[i]])])) := Same.new s1 h1
      refine ⟨tt, _, rfl, SqT.of upd_same, rfl, ?_⟩
      refine ⟨_, _, rfl, _, _, rfl, rfl, ?_⟩
      refine ⟨_, rfl, _, _, rfl, rfl, _, rfl, ?_⟩
      refine if2 (fun c => ?_) (fun c => ?_)
      · have hc : a[i] ∉ sgn := by simpa using c
        refine ⟨_, rfl, mk1_end fun d hd => ?_⟩
        refine kE i ?_ _ d s2 hd
        unfold badAt
        rw [List.findIdx?_eq_some_iff_getElem]
        refine ⟨hi', by simpa using hc, fun j hj => ?_⟩
        have := ok j a[j] hj (List.getElem?_eq_getElem (by omega))
        simpa using this
      · have hc : a[i] ∈ sgn := by simpa using c
        refine ⟨_, _, rfl, s2, fun j c hj e => ?_⟩
        by_cases hj' : j = i
        · subst hj'
          rw [e3] at e
          cases e
          exact hc
        · exact ok j c (by omega) e
    · rintro σ H1 ⟨u, v, rfl, s1, ok⟩
      refine kN ?_ H1 s1
      unfold badAt
      rw [List.findIdx?_eq_none_iff]
      intro c hc
      obtain ⟨j, hj, e⟩ := List.mem_iff_getElem.mp hc
      have := ok j c (by simpa [S] using hj) (by rw [List.getElem?_eq_getElem hj, e])
      simpa using this
theorem filter_takeP {α : Type} {p : α → Bool} {a : List α} {i : Nat} {x : α} (h : a[i]? = some x) : (a.take (i + 1)).filter p = (a.take i).filter p ++ (if p x then [x] else []) := by
  rw [List.take_add_one, h, Option.toList_some, List.filter_append]
  simp only [List.filter_cons, List.filter_nil]
def asc (s : List Nat) : List Nat := sgn.filter fun c => decide (c ∈ s)
def spAsc : Sp := fun vs H Q _ => ∃ s : List Nat, vs = [.str (S s)] ∧ ∀ H', Same H H' → Q (.str (S (asc s))) H'
theorem flat_one (a : List Nat) : (a.map fun c => [c]).flatten = a := by
  induction a with
  | nil => rfl
  | cons c a ih => simp [ih]
abbrev s_ascending : Stmt := top 11
theorem sc_ascending : FnScope ["signs", "sign"] ["signs"] (defScope s_ascending) := ⟨rfl, rfl, rfl, by decide +kernel, rfl, by decide +kernel, by decide +kernel⟩
theorem ok_ascending (T : TX K mg) {f : Addr} {fd : FuncData} (F : FunD K "ascending" "ascending" (defArgs s_ascending) (defBody s_ascending) (defScope s_ascending) [] [] f fd) : FnOk P w K mg base (CX P w) 1 f fd ["signs"] spAsc := by
  refine F.ok sc_ascending (fun vs H Q E h => ?_) (fun cdv A outer s H vs Q E hr h => ?_)
  · obtain ⟨s, rfl, _⟩ := h
    rfl
  · obtain ⟨z, rfl, kq⟩ := h
    refine ⟨_, (pss_one (ps_ret (pe_join0 (pe_strS [] (by decide +kernel)) (pe_lc (own := [("sign", 1)]) rfl sc_ascending.nd (pi_str (pe_gS T.g_SIGNS rfl)) (blkOk_by (own := [("sign", 1)]) (N := ["signs", "sign"]) (sc := defScope s_ascending) (by decide +kernel)) (fun _ _ _ _ _ => (pg_name (i := 1) sc_ascending.nd rfl (Or.inl rfl))) (fun _ _ _ _ _ => (pts_one (pt_cmpR op_inS (pv 1) (pv 0) rfl))) (fun _ _ _ _ _ => (pv 1)))))), ?_⟩
    refine ⟨⟨_, rfl⟩, _, rfl, fun D hD => ?_⟩
    refine lc_it walk_S (fun i H2 => H2 D = some (.lst (((sgn.take i).filter fun c => decide (c ∈ z)).map fun c => V.str (S [c]))) ∧ Same H H2) ?_ (fun _ _ _ _ => trivial) ?_ ?_
    · exact ⟨upd_same, sNew (Same.refl H) hD⟩
    · rintro i x H2 H3 hi ⟨h1, s1⟩ ⟨rfl, c, hc, rfl⟩
      refine ⟨rfl, _, rfl, _, rfl, _, _, rfl, rfl, _, rfl, ?_⟩
      have ef := filter_takeP (p := fun c => decide (c ∈ z)) hc
      have hl : ((sgn.take i).filter fun c => decide (c ∈ z)).length ≤ sgn.length := Nat.le_trans (List.length_filter_le _ _) (by rw [List.length_take]; omega)
      have hg : sgn.length = 95 := by decide
      refine if2 (fun b => ?_) (fun b => ?_)
      · have b' : decide (c ∈ z) = true := b
        refine ⟨_, rfl, _, h1, ?_, ?_, sMut s1 hD⟩
        · rw [List.length_map]; exact ltSz (by omega)
        · rw [upd_same, ef, b']; simp
      · have b' : decide (c ∈ z) = false := b
        refine ⟨?_, s1⟩
        rw [ef, b']; simpa using h1
    · rintro H2 ⟨h1, s1⟩
      rw [List.take_length] at h1
      refine ⟨_, (asc z).map (fun c => [c]), rfl, rfl, SqL.of (by rw [List.map_map]; exact h1), ?_, ?_⟩
      · rw [flat_one]
        exact Nat.le_trans (List.length_filter_le _ _) (by decide)
      · rw [flat_one]
        exact kq H2 s1
inductive Bm
  | len | sg (c : Nat) | pr | rd (n : Nat) | ah
deriving DecidableEq
def Bm.nm : Bm → List Nat
  | .len => [108, 101, 110, 103, 116, 104]
  | .sg _ => [115, 105, 103, 110, 115]
  | .pr => [112, 114, 101, 115, 115, 101, 115]
  | .rd _ => [114, 111, 117, 110, 100, 115]
  | .ah => [97, 104, 101, 97, 100]
def Bm.dt : Bm → PyData
  | .sg c => .str (S [c])
  | .rd n => .int (n : Nat)
  | _ => .int 0
def Bm.dv : Bm → V
  | .sg c => .str (S [c])
  | .rd n => .int (n : Nat)
  | _ => .int 0
abbrev Tms := List (Bm × Int)
def tmD (t : Bm × Int) : PyData := .tuple [.str (S t.1.nm), t.1.dt, .int t.2]
abbrev tmV (t : Bm × Int) : List V := [.str (S t.1.nm), t.1.dv, .int t.2]
theorem nm_sg {k : Bm} : k.nm = [115, 105, 103, 110, 115] ↔ ∃ c, k = .sg c := by cases k <;> simp [Bm.nm]
theorem ky_eq {k l : Bm} (h : k.nm = l.nm) (h2 : k.dt = l.dt) : k = l := by
  cases k <;> cases l <;> simp [Bm.nm, Bm.dt, S] at h h2 ⊢ <;> omega
def fac : Tms → Bm → Int
  | [], _ => 0
  | t :: ts, k => (if t.1 = k then t.2 else 0) + fac ts k
theorem fac_perm {a b : Tms} (h : a.Perm b) (k : Bm) : fac a k = fac b k := by
  induction h with
  | nil => rfl
  | cons x _ ih => simp only [fac, ih]
  | swap x y l => simp only [fac]; omega
  | trans _ _ i1 i2 => rw [i1, i2]
theorem fac_app (a b : Tms) (k : Bm) : fac (a ++ b) k = fac a k + fac b k := by
  induction a with
  | nil => simp [fac]
  | cons t a ih => simp only [List.cons_append, fac, ih]; omega
theorem fac_nz (a : Tms) (k : Bm) : fac (a.filter fun t => decide (t.2 ≠ 0)) k = fac a k := by
  induction a with
  | nil => rfl
  | cons t a ih =>
    by_cases h : t.2 = 0
    · rw [List.filter_cons, if_neg (by simp [h])]
      simp only [fac, ih, h]
      split <;> omega
    · rw [List.filter_cons, if_pos (by simp [h])]
      simp only [fac, ih]
theorem fac_out {a : Tms} {k : Bm} (h : k ∉ a.map (·.1)) : fac a k = 0 := by
  induction a with
  | nil => rfl
  | cons t a ih =>
    rw [List.map_cons, List.mem_cons, not_or] at h
    simp only [fac, ih h.2, if_neg (Ne.symm h.1)]
    omega
theorem fac_in {a : Tms} (hn : (a.map (·.1)).Nodup) {t : Bm × Int} (h : t ∈ a) : fac a t.1 = t.2 := by
  induction a with
  | nil => cases h
  | cons u a ih =>
    rw [List.map_cons, List.nodup_cons] at hn
    rcases List.mem_cons.mp h with rfl | h'
    · simp only [fac, if_true, fac_out hn.1]; omega
    · have : u.1 ≠ t.1 := fun e => hn.1 (e ▸ List.mem_map_of_mem h')
      simp only [fac, if_neg this, ih hn.2 h']; omega
def srt (D : Bm × Int → PyData) (a : Tms) : Tms := (a.filter fun t => decide (t.2 ≠ 0)).mergeSort (PySem.W.dataLe false D)
structure Nf (D : Bm × Int → PyData) (a : Tms) : Prop where
  nd : (a.map (·.1)).Nodup
  nz : ∀ t ∈ a, t.2 ≠ 0
  so : a.Pairwise fun x y => PySem.W.dataLe false D x y = true
theorem srt_perm (D : Bm × Int → PyData) (a : Tms) : (srt D a).Perm (a.filter fun t => decide (t.2 ≠ 0)) := List.mergeSort_perm _ _
theorem fac_srt (D : Bm × Int → PyData) (a : Tms) (k : Bm) : fac (srt D a) k = fac a k := (fac_perm (srt_perm D a) k).trans (fac_nz a k)
theorem dle_trans (D : Bm × Int → PyData) (a b c : Bm × Int) (h1 : PySem.W.dataLe false D a b = true) (h2 : PySem.W.dataLe false D b c = true) : PySem.W.dataLe false D a c = true := by
  have h1' : PyProof.Rows.lexLt itemOrd (PySem.W.keyToks (D b)) (PySem.W.keyToks (D a)) = false := by simpa [PySem.W.dataLe_eq, PySem.W.dataLt] using h1
  have h2' : PyProof.Rows.lexLt itemOrd (PySem.W.keyToks (D c)) (PySem.W.keyToks (D b)) = false := by simpa [PySem.W.dataLe_eq, PySem.W.dataLt] using h2
  have : PyProof.Rows.lexLt itemOrd (PySem.W.keyToks (D c)) (PySem.W.keyToks (D a)) = false := KeyOrd.kle_trans (O := listOrd itemOrd) h1' h2'
  simpa [PySem.W.dataLe_eq, PySem.W.dataLt] using this
theorem dle_total (D : Bm × Int → PyData) (a b : Bm × Int) : (PySem.W.dataLe false D a b || PySem.W.dataLe false D b a) = true := by
  cases h : PySem.W.dataLe false D a b with
  | true => rfl
  | false =>
    have h' : PyProof.Rows.lexLt itemOrd (PySem.W.keyToks (D b)) (PySem.W.keyToks (D a)) = true := by simpa [PySem.W.dataLe_eq, PySem.W.dataLt] using h
    have : PyProof.Rows.lexLt itemOrd (PySem.W.keyToks (D a)) (PySem.W.keyToks (D b)) = false := KeyOrd.klt_asymm (O := listOrd itemOrd) h'
    simpa [PySem.W.dataLe_eq, PySem.W.dataLt] using this
theorem dle_anti {D : Bm × Int → PyData} (hD : ∀ x y, PySem.W.keyToks (D x) = PySem.W.keyToks (D y) → x = y) {a b : Bm × Int} (h1 : PySem.W.dataLe false D a b = true) (h2 : PySem.W.dataLe false D b a = true) : a = b := by
  have h1' : PyProof.Rows.lexLt itemOrd (PySem.W.keyToks (D b)) (PySem.W.keyToks (D a)) = false := by simpa [PySem.W.dataLe_eq, PySem.W.dataLt] using h1
  have h2' : PyProof.Rows.lexLt itemOrd (PySem.W.keyToks (D a)) (PySem.W.keyToks (D b)) = false := by simpa [PySem.W.dataLe_eq, PySem.W.dataLt] using h2
  exact hD _ _ (lex_total _ _ h2' h1')
theorem srt_gd (D : Bm × Int → PyData) {a : Tms} (h : (a.map (·.1)).Nodup) : Nf D (srt D a) := by
  refine ⟨?_, fun t ht => ?_, List.pairwise_mergeSort (dle_trans D) (dle_total D) _⟩
  · refine ((srt_perm D a).map _).nodup_iff.mpr ?_
    exact (List.filter_sublist.map _).nodup h
  · have := (srt_perm D a).mem_iff.mp ht
    simpa using (List.mem_filter.mp this).2
theorem gd_mem {D : Bm × Int → PyData} {a : Tms} (g : Nf D a) (t : Bm × Int) : t ∈ a ↔ fac a t.1 = t.2 ∧ t.2 ≠ 0 := by
  refine ⟨fun h => ⟨fac_in g.nd h, g.nz t h⟩, fun ⟨h1, h2⟩ => ?_⟩
  by_cases h : t.1 ∈ a.map (·.1)
  · obtain ⟨u, hu, e⟩ := List.mem_map.mp h
    have := fac_in g.nd hu
    rw [e, h1] at this
    have : u = t := Prod.ext e this.symm
    rwa [← this]
  · rw [fac_out h] at h1
    exact absurd h1.symm h2
theorem nodup_of_map {a : Tms} (h : (a.map (·.1)).Nodup) : a.Nodup := by
  induction a with
  | nil => exact List.nodup_nil
  | cons t a ih =>
    rw [List.map_cons, List.nodup_cons] at h
    exact List.nodup_cons.mpr ⟨fun q => h.1 (List.mem_map_of_mem q), ih h.2⟩
theorem gd_eq {D : Bm × Int → PyData} (hD : ∀ x y, PySem.W.keyToks (D x) = PySem.W.keyToks (D y) → x = y) {a b : Tms} (na : Nf D a) (nb : Nf D b) (h : ∀ k, fac a k = fac b k) : a = b := by
  refine List.Perm.eq_of_pairwise (fun x y _ _ h1 h2 => dle_anti hD h1 h2) na.so nb.so ?_
  refine (List.perm_ext_iff_of_nodup (nodup_of_map na.nd) (nodup_of_map nb.nd)).mpr fun t => ?_
  rw [gd_mem na, gd_mem nb, h]
theorem tm_inj (x y : Bm × Int) (h : PySem.W.keyToks (tmD x) = PySem.W.keyToks (tmD y)) : x = y := by
  obtain ⟨k, f⟩ := x
  obtain ⟨l, g⟩ := y
  have h0 : ([.inl 1, .inr k.nm, .inl 1] ++ PySem.W.keyToks k.dt ++ [.inl 1, .inl f, .inl 0] : List (Int ⊕ List Nat)) = [.inl 1, .inr l.nm, .inl 1] ++ PySem.W.keyToks l.dt ++ [.inl 1, .inl g, .inl 0] := by
    simpa [tmD, PySem.W.keyToks, PySem.W.keyToksAll, S] using h
  cases k <;> cases l <;> simp [Bm.nm, Bm.dt, PySem.W.keyToks, S] at h0 ⊢ <;> (try omega) <;> simp_all
def Bm.ds : Bm → List Nat
  | .sg c => [c]
  | .rd n => [48 + n]
  | _ => [48]
def tbD (t : Bm × Int) : PyData := .tuple [.str (S t.1.nm), .str (S t.1.ds), .int t.2]
theorem tb_inj (x y : Bm × Int) (h : PySem.W.keyToks (tbD x) = PySem.W.keyToks (tbD y)) : x = y := by
  obtain ⟨k, f⟩ := x
  obtain ⟨l, g⟩ := y
  have h0 : ([.inl 1, .inr k.nm, .inl 1] ++ [.inr k.ds] ++ [.inl 1, .inl f, .inl 0] : List (Int ⊕ List Nat)) = [.inl 1, .inr l.nm, .inl 1] ++ [.inr l.ds] ++ [.inl 1, .inl g, .inl 0] := by
    simpa [tbD, PySem.W.keyToks, PySem.W.keyToksAll, S] using h
  cases k <;> cases l <;> simp [Bm.nm, Bm.ds] at h0 ⊢ <;> (try omega) <;> simp_all
structure TMe (K : PySem.W.Frag) : Prop where
  cl : Cls K (ga K "Measure")
  n_terms : NoAttr K (ga K "Measure") "terms"
def TmAt (H : Hp) (v : V) (t : Bm × Int) : Prop := ∃ a, v = .ref a ∧ H a = some (.tup (tmV t))
theorem TmAt.same {H H' : Hp} {v : V} {t : Bm × Int} (s : Same H H') (h : TmAt H v t) : TmAt H' v t := by
  obtain ⟨a, e, h⟩ := h
  exact ⟨a, e, s _ _ h⟩
theorem TmAt.kp {l : List Addr} {H H' : Hp} {v : V} {t : Bm × Int} (s : Kp l H H') (hl : ∀ a xs, H a = some (.tup xs) → a ∉ l) (h : TmAt H v t) : TmAt H' v t := by
  obtain ⟨a, e, h⟩ := h
  exact ⟨a, e, s _ _ (hl _ _ h) h⟩
abbrev TsA (H : Hp) (xs : List V) (ts : Tms) : Prop := Paired (TmAt H) xs ts
theorem Paired.impl {α β : Type} {F G : α → β → Prop} (h : ∀ a b, F a b → G a b) : ∀ {l : List α} {m : List β}, Paired F l m → Paired G l m
  | _, _, .nil => .nil
  | _, _, .cons a r => .cons (h _ _ a) (Paired.impl h r)
theorem TsA.same {H H' : Hp} {xs : List V} {ts : Tms} (s : Same H H') (h : TsA H xs ts) : TsA H' xs ts := Paired.impl (fun _ _ q => q.same s) h
theorem TsA.get {H : Hp} {i : Nat} {v : V} : ∀ {j : Nat} {xs : List V} {ts : Tms}, TsA H xs ts → xs[j]? = some v → ∃ t, ts[j]? = some t ∧ TmAt H v t
  | 0, _, _, .cons a r, h => ⟨_, rfl, by cases h; exact a⟩
  | j + 1, _, _, .cons a r, h => TsA.get (i := i) (j := j) r h
theorem TsA.len {H : Hp} : ∀ {xs : List V} {ts : Tms}, TsA H xs ts → xs.length = ts.length
  | _, _, .nil => rfl
  | _, _, .cons _ r => congrArg (· + 1) (TsA.len r)
theorem Dt.bm {H : Hp} (k : Bm) : Dt H k.dv k.dt := by cases k <;> constructor
theorem TmAt.dt {H : Hp} {v : V} {t : Bm × Int} (h : TmAt H v t) : Dt H v (tmD t) := by
  obtain ⟨a, rfl, h⟩ := h
  exact .tup h (.cons (by constructor) (.cons (Dt.bm _) (.cons (by constructor) .nil)))
theorem TsA.dt {H : Hp} : ∀ {xs : List V} {ts : Tms}, TsA H xs ts → DtAll H xs (ts.map tmD)
  | _, _, .nil => .nil
  | _, _, .cons a r => .cons a.dt (TsA.dt r)
theorem dt_bm {H : Hp} {k : Bm} {v : V} (h : Dt H v k.dt) : v = k.dv := by cases k <;> cases h <;> rfl
theorem dt_tm {H : Hp} {v : V} {t : Bm × Int} (h : Dt H v (tmD t)) : TmAt H v t := by
  cases h with
  | tup h1 h2 =>
    cases h2 with
    | cons a1 r1 =>
      cases a1
      cases r1 with
      | cons a2 r2 =>
        cases r2 with
        | cons a3 r3 =>
          cases a3
          cases r3
          rw [dt_bm a2] at h1
          exact ⟨_, rfl, h1⟩
theorem dt_tms {H : Hp} : ∀ {ts : Tms} {xs : List V}, DtAll H xs (ts.map tmD) → TsA H xs ts
  | [], _, h => by cases h; exact .nil
  | t :: ts, _, h => by
    cases h with
    | cons a r => exact .cons (dt_tm a) (dt_tms r)
theorem mix_tm (ts : Tms) : MixOk (ts.map tmD) := by
  refine ⟨fun d hd => ?_, fun xs ys hx hy => ?_, fun d hd => ?_⟩
  · obtain ⟨t, _, rfl⟩ := List.mem_map.mp hd
    refine ⟨S t.1.nm, [t.1.dt, .int t.2], rfl, fun z hz => ?_⟩
    rcases List.mem_cons.mp hz with rfl | hz
    · cases t.1 <;> rfl
    · rcases List.mem_cons.mp hz with rfl | hz
      · rfl
      · cases hz
  · obtain ⟨t, _, e⟩ := List.mem_map.mp hx
    obtain ⟨u, _, e2⟩ := List.mem_map.mp hy
    cases e
    cases e2
    refine ⟨rfl, fun he => ?_⟩
    have he : t.1.nm = u.1.nm := by
      have : (S t.1.nm) = (S u.1.nm) := by simpa [PyData.eqv] using he
      exact SX.S_inj this
    refine ⟨?_, fun _ => ⟨rfl, fun _ => trivial⟩⟩
    revert he
    cases t.1 <;> cases u.1 <;> simp [Bm.nm, Bm.dt, PySem.W.alike]
  · obtain ⟨t, _, rfl⟩ := List.mem_map.mp hd
    cases h : t.1 <;> simp [tmD, h, Bm.dt, PyData.depth, PyData.depthAll]
theorem srt_data (a : Tms) : ((a.filter fun t => decide (t.2 ≠ 0)).map tmD).mergeSort (PySem.W.dataLe false id) = (srt tmD a).map tmD := by
  unfold srt
  exact (List.map_mergeSort (r := PySem.W.dataLe false tmD) (s := PySem.W.dataLe false id) (fun _ _ _ _ => rfl)).symm
theorem TsA.mut {H : Hp} {D : Addr} {zs : List V} {o : HO} {xs : List V} {ts : Tms} (hD : H D = some (.lst zs)) (h : TsA H xs ts) : TsA (upd H D o) xs ts := Paired.impl (fun v t ⟨a, e, q⟩ => ⟨a, e, by rw [upd_ne (ne_of q hD (by intro z; cases z))]; exact q⟩) h
theorem TmAt.mut {H : Hp} {D : Addr} {zs : List V} {o : HO} {v : V} {t : Bm × Int} (hD : H D = some (.lst zs)) (h : TmAt H v t) : TmAt (upd H D o) v t := by
  obtain ⟨a, e, q⟩ := h
  exact ⟨a, e, by rw [upd_ne (ne_of q hD (by intro z; cases z))]; exact q⟩
def MeAt (K : PySem.W.Frag) (H : Hp) (p : Addr) (ts : Tms) : Prop := ∃ dx tp xs, H p = some (.ins (ga K "Measure") dx [("terms", .ref tp)]) ∧ H tp = some (.tup xs) ∧ TsA H xs ts
theorem MeAt.same {K : PySem.W.Frag} {H H' : Hp} {p : Addr} {ts : Tms} (s : Same H H') (h : MeAt K H p ts) : MeAt K H' p ts := by
  obtain ⟨dx, tp, xs, h1, h2, h3⟩ := h
  exact ⟨dx, tp, xs, s _ _ h1, s _ _ h2, h3.same s⟩
def spMeI (K : PySem.W.Frag) : Sp := fun vs H Q _ => ∃ (p dx l : Addr) (xs : List V) (ts : Tms), vs = [.ref p, .ref l] ∧ H p = some (.ins (ga K "Measure") dx []) ∧ H l = some (.lst xs) ∧ TsA H xs ts ∧ ts.length ≤ 1000 ∧
  ∀ H', Kp [p] H H' → MeAt K H' p (srt tmD ts) → Q .non H'
abbrev s_Measure___init__ : Stmt := inClass (top 13) 0
theorem sc_Measure___init__ : FnScope ["self", "terms", "term"] ["self", "terms"] (defScope s_Measure___init__) := ⟨rfl, rfl, rfl, by decide +kernel, rfl, by decide +kernel, by decide +kernel⟩
theorem ok_Measure___init__ (T : TX K mg) (Z : TMe K) {f : Addr} {fd : FuncData} (F : FunD K "__init__" "Measure.__init__" (defArgs s_Measure___init__) (defBody s_Measure___init__) (defScope s_Measure___init__) [] [] f fd) : FnOk P w K mg base (CX P w) 1 f fd ["self", "terms"] (spMeI K) := by
  refine F.ok sc_Measure___init__ (fun vs H Q E h => ?_) (fun cdv A outer s H vs Q E hr h => ?_)
  · obtain ⟨p, dx, l, xs, ts, rfl, _⟩ := h
    rfl
  · obtain ⟨p, dx, l, xs, ts, rfl, hp, hl, ht, hn, k⟩ := h
    refine ⟨_, (pss_one (ps_fld (pv 0) (pe_callTy call_tuple_of (by rfl) T.b_tuple (by decide +kernel) (pa_cons (pe_callB (cr_sortedM hr.units) (by rfl) T.b_sorted (by decide +kernel) (pa_cons (pe_lc (own := [("term", 2)]) rfl sc_Measure___init__.nd (pi_list (pv 1)) (blkOk_by (own := [("term", 2)]) (N := ["self", "terms", "term"]) (sc := defScope s_Measure___init__) (by decide +kernel)) (fun _ _ _ _ _ => (pg_name (i := 2) sc_Measure___init__.nd rfl (Or.inl rfl))) (fun _ _ _ _ _ => (pts_one (pt_cmpR op_ne (pe_ix (ix_tupK (K := K) rfl) (pv 2) pe_int (fun _ _ => rfl)) pe_int (nomark _)))) (fun _ _ _ _ _ => (pv 2))) pa_nil)) pa_nil)) rfl)), ?_⟩
    have hxl := ht.len
    and_intros
    intro D hD
    refine lc_it (walk_list (xs := xs)) (fun i H' => ∃ ys : List V, H' D = some (.lst ys) ∧ Same H H' ∧ TsA H' ys ((ts.take i).filter fun t => decide (t.2 ≠ 0))) ⟨[], upd_same, sNew (Same.refl H) hD, .nil⟩ (fun i H' _ ⟨_, _, s, _⟩ => SqL.of (s _ _ hl)) ?_ ?_
    · rintro i x H1 H2 hi ⟨ys, hy, s1, hT⟩ ⟨rfl, hx⟩
      obtain ⟨t, hti, a, rfl, ha⟩ := (ht.same s1).get (i := i) hx
      have hlen : ys.length ≤ 1000 := by
        rw [hT.len]
        exact Nat.le_trans (List.length_filter_le _ _) (by rw [List.length_take]; omega)
      have ef := filter_takeP (p := fun t : Bm × Int => decide (t.2 ≠ 0)) hti
      refine ⟨rfl, _, rfl, a, _, 2, _, rfl, rfl, SqT.of ha, rfl, rfl, _, rfl, ?_⟩
      rw [dI]
      refine if2 (fun c => ?_) (fun c => ?_)
      · have hc : t.2 ≠ 0 := by simpa using c
        rw [if_pos (by simpa using hc)] at ef
        refine ⟨_, rfl, _, hy, by rw [sizeLine_eq]; omega, ys ++ [.ref a], upd_same, sMut s1 hD, ?_⟩
        rw [ef]
        exact (hT.mut hy).snoc (TmAt.mut hy ⟨a, rfl, ha⟩)
      · have hc : t.2 = 0 := by simpa using c
        rw [if_neg (by simpa using hc), List.append_nil] at ef
        refine ⟨ys, hy, s1, ?_⟩
        rw [ef]
        exact hT
    · rintro H1 ⟨ys, hy, s1, hT⟩
      rw [List.take_of_length_le (by omega)] at hT
      refine ⟨D, _, _, rfl, SqL.of hy, hT.dt, mix_tm _, fun zs q hz hq => ?_⟩
      rw [srt_data] at hz
      have hz := dt_tms hz
      have n1 : q ≠ D := (ne_of_none hy hq).symm
      have s2 := sNew (o := .lst zs) s1 hq
      have hz2 := TsA.same (sNew (o := .lst zs) (Same.refl H1) hq) hz
      have hq2 : upd H1 q (.lst zs) q = some (.lst zs) := upd_same
      generalize upd H1 q (.lst zs) = H2 at *
      refine ⟨q, _, rfl, .inl ⟨SqL.of hq2, fun r hr => ?_⟩⟩
      have s3 := sNew (o := .tup zs) s2 hr
      have hz3 := TsA.same (sNew (o := .tup zs) (Same.refl H2) hr) hz2
      have hr3 : upd H2 r (.tup zs) r = some (.tup zs) := upd_same
      generalize upd H2 r (.tup zs) = H3 at *
      have hp3 := s3 _ _ hp
      refine ⟨_, rfl, p, _, _, _, rfl, hp3, Z.cl, Z.n_terms, by decide, ?_⟩
      refine k _ ((Kp.of_same s3).trans (Kp.refl.upd (by simp))) ⟨dx, r, zs, upd_same, by rw [upd_ne (ne_of hr3 hp3 (by intro z; cases z))]; exact hr3, Paired.impl (fun v t ⟨a, e, q⟩ => ⟨a, e, by rw [upd_ne (ne_of q hp3 (by intro z; cases z))]; exact q⟩) hz3⟩
theorem fac_one (k : Bm) (n : Int) (l : Bm) : fac [(k, n)] l = if k = l then n else 0 := by simp [fac]
theorem fac_tk {ts : Tms} {i : Nat} {t : Bm × Int} (h : ts[i]? = some t) (k : Bm) : fac (ts.take (i + 1)) k = fac (ts.take i) k + (if t.1 = k then t.2 else 0) := by
  rw [List.take_add_one, h, Option.toList_some, fac_app]
  simp [fac]
def spMeC (K : PySem.W.Frag) (ts : Tms) : Sp := fun vs H Q _ => vs = [.ref (ga K "Measure")] ∧ ∀ H' a, Same H H' → MeAt K H' a (srt tmD ts) → Q (.ref a) H'
theorem me_mk {K : PySem.W.Frag} {H : Hp} {l : Addr} {xs : List V} {ts : Tms} {Q : VK} {E : XK} (hl : H l = some (.lst xs)) (ht : TsA H xs ts) (hn : ts.length ≤ 1000) (k : ∀ H' m, Same H H' → H m = none → MeAt K H' m (srt tmD ts) → Q (.ref m) H') (x dx : Addr) (hx : H x = none) (hdx : H dx = none) (ne : dx ≠ x) :
    spMeI K [.ref x, .ref l] (upd (upd H dx (.own x)) x (.ins (ga K "Measure") dx [])) (fun v H2 => v = .non ∧ Q (.ref x) H2) E := by
  have sI := sIns (C := ga K "Measure") hx hdx ne
  exact ⟨x, dx, l, xs, ts, rfl, upd_same, sI _ _ hl, ht.same sI, hn, fun H' k1 M => ⟨rfl, k H' x (sKp sI k1 hx) hx M⟩⟩
abbrev s_Measure_of_length : Stmt := inClass (top 13) 1
theorem sc_Measure_of_length : FnScope ["cls"] ["cls"] (defScope s_Measure_of_length) := ⟨rfl, rfl, rfl, by decide +kernel, rfl, by decide +kernel, by decide +kernel⟩
theorem ok_Measure_of_length (T : TX K mg) (k_Measure_1 : KMap P w K mg base 1 "Measure" (ga K "Measure") (spMeI K) []) {f : Addr} {fd : FuncData} (F : FunD K "of_length" "Measure.of_length" (defArgs s_Measure_of_length) (defBody s_Measure_of_length) (defScope s_Measure_of_length) [] [] f fd) : FnOk P w K mg base (CX P w) 3 f fd ["cls"] (spMeC K [(.len, 1)]) := by
  refine F.ok sc_Measure_of_length (fun vs H Q E h => ?_) (fun cdv A outer s H vs Q E hr h => ?_)
  · obtain ⟨rfl, _⟩ := h
    rfl
  · obtain ⟨rfl, k⟩ := h
    refine ⟨_, (pss_one (ps_ret (kmapV k_Measure_1 hr (by decide) (pv 0) (pa_cons (pe_lst (pa_cons (pe_tup (pa_cons (pe_strS [108, 101, 110, 103, 116, 104] (by decide +kernel)) (pa_cons pe_int (pa_cons pe_int pa_nil)))) pa_nil)) pa_nil)))), ?_⟩
    refine ⟨_, rfl, rfl, (show 3 ≤ sizeLine by decide), fun a ha => ?_⟩
    have s1 := sNew (o := .tup [.str (S [108, 101, 110, 103, 116, 104]), .int 0, .int 1]) (Same.refl H) ha
    have ha1 : upd H a (.tup [.str (S [108, 101, 110, 103, 116, 104]), .int 0, .int 1]) a = _ := upd_same
    generalize upd H a (.tup [.str (S [108, 101, 110, 103, 116, 104]), .int 0, .int 1]) = H1 at *
    refine ⟨(show 1 ≤ sizeLine by decide), fun l hl => ?_⟩
    have s2 := sNew (o := .lst [.ref a]) (Same.refl H1) hl
    exact me_mk (ts := [(.len, 1)]) upd_same (.cons ⟨a, rfl, s2 _ _ ha1⟩ .nil) (by decide) fun H' m s hm M => k H' m ((s1.trans s2).trans s) M
abbrev s_Measure_of_presses : Stmt := inClass (top 13) 3
theorem sc_Measure_of_presses : FnScope ["cls"] ["cls"] (defScope s_Measure_of_presses) := ⟨rfl, rfl, rfl, by decide +kernel, rfl, by decide +kernel, by decide +kernel⟩
theorem ok_Measure_of_presses (T : TX K mg) (k_Measure_1 : KMap P w K mg base 1 "Measure" (ga K "Measure") (spMeI K) []) {f : Addr} {fd : FuncData} (F : FunD K "of_presses" "Measure.of_presses" (defArgs s_Measure_of_presses) (defBody s_Measure_of_presses) (defScope s_Measure_of_presses) [] [] f fd) : FnOk P w K mg base (CX P w) 3 f fd ["cls"] (spMeC K [(.pr, 1)]) := by
  refine F.ok sc_Measure_of_presses (fun vs H Q E h => ?_) (fun cdv A outer s H vs Q E hr h => ?_)
  · obtain ⟨rfl, _⟩ := h
    rfl
  · obtain ⟨rfl, k⟩ := h
    refine ⟨_, (pss_one (ps_ret (kmapV k_Measure_1 hr (by decide) (pv 0) (pa_cons (pe_lst (pa_cons (pe_tup (pa_cons (pe_strS [112, 114, 101, 115, 115, 101, 115] (by decide +kernel)) (pa_cons pe_int (pa_cons pe_int pa_nil)))) pa_nil)) pa_nil)))), ?_⟩
    refine ⟨_, rfl, rfl, (show 3 ≤ sizeLine by decide), fun a ha => ?_⟩
    have s1 := sNew (o := .tup [.str (S [112, 114, 101, 115, 115, 101, 115]), .int 0, .int 1]) (Same.refl H) ha
    have ha1 : upd H a (.tup [.str (S [112, 114, 101, 115, 115, 101, 115]), .int 0, .int 1]) a = _ := upd_same
    generalize upd H a (.tup [.str (S [112, 114, 101, 115, 115, 101, 115]), .int 0, .int 1]) = H1 at *
    refine ⟨(show 1 ≤ sizeLine by decide), fun l hl => ?_⟩
    have s2 := sNew (o := .lst [.ref a]) (Same.refl H1) hl
    exact me_mk (ts := [(.pr, 1)]) upd_same (.cons ⟨a, rfl, s2 _ _ ha1⟩ .nil) (by decide) fun H' m s hm M => k H' m ((s1.trans s2).trans s) M
abbrev s_Measure_of_ahead : Stmt := inClass (top 13) 5
theorem sc_Measure_of_ahead : FnScope ["cls"] ["cls"] (defScope s_Measure_of_ahead) := ⟨rfl, rfl, rfl, by decide +kernel, rfl, by decide +kernel, by decide +kernel⟩
theorem ok_Measure_of_ahead (T : TX K mg) (k_Measure_1 : KMap P w K mg base 1 "Measure" (ga K "Measure") (spMeI K) []) {f : Addr} {fd : FuncData} (F : FunD K "of_ahead" "Measure.of_ahead" (defArgs s_Measure_of_ahead) (defBody s_Measure_of_ahead) (defScope s_Measure_of_ahead) [] [] f fd) : FnOk P w K mg base (CX P w) 3 f fd ["cls"] (spMeC K [(.ah, 1)]) := by
  refine F.ok sc_Measure_of_ahead (fun vs H Q E h => ?_) (fun cdv A outer s H vs Q E hr h => ?_)
  · obtain ⟨rfl, _⟩ := h
    rfl
  · obtain ⟨rfl, k⟩ := h
    refine ⟨_, (pss_one (ps_ret (kmapV k_Measure_1 hr (by decide) (pv 0) (pa_cons (pe_lst (pa_cons (pe_tup (pa_cons (pe_strS [97, 104, 101, 97, 100] (by decide +kernel)) (pa_cons pe_int (pa_cons pe_int pa_nil)))) pa_nil)) pa_nil)))), ?_⟩
    refine ⟨_, rfl, rfl, (show 3 ≤ sizeLine by decide), fun a ha => ?_⟩
    have s1 := sNew (o := .tup [.str (S [97, 104, 101, 97, 100]), .int 0, .int 1]) (Same.refl H) ha
    have ha1 : upd H a (.tup [.str (S [97, 104, 101, 97, 100]), .int 0, .int 1]) a = _ := upd_same
    generalize upd H a (.tup [.str (S [97, 104, 101, 97, 100]), .int 0, .int 1]) = H1 at *
    refine ⟨(show 1 ≤ sizeLine by decide), fun l hl => ?_⟩
    have s2 := sNew (o := .lst [.ref a]) (Same.refl H1) hl
    exact me_mk (ts := [(.ah, 1)]) upd_same (.cons ⟨a, rfl, s2 _ _ ha1⟩ .nil) (by decide) fun H' m s hm M => k H' m ((s1.trans s2).trans s) M
abbrev s_Measure_of_nothing : Stmt := inClass (top 13) 6
theorem sc_Measure_of_nothing : FnScope ["cls"] ["cls"] (defScope s_Measure_of_nothing) := ⟨rfl, rfl, rfl, by decide +kernel, rfl, by decide +kernel, by decide +kernel⟩
theorem ok_Measure_of_nothing (T : TX K mg) (k_Measure_1 : KMap P w K mg base 1 "Measure" (ga K "Measure") (spMeI K) []) {f : Addr} {fd : FuncData} (F : FunD K "of_nothing" "Measure.of_nothing" (defArgs s_Measure_of_nothing) (defBody s_Measure_of_nothing) (defScope s_Measure_of_nothing) [] [] f fd) : FnOk P w K mg base (CX P w) 3 f fd ["cls"] (spMeC K []) := by
  refine F.ok sc_Measure_of_nothing (fun vs H Q E h => ?_) (fun cdv A outer s H vs Q E hr h => ?_)
  · obtain ⟨rfl, _⟩ := h
    rfl
  · obtain ⟨rfl, k⟩ := h
    refine ⟨_, (pss_one (ps_ret (kmapV k_Measure_1 hr (by decide) (pv 0) (pa_cons (pe_lst pa_nil) pa_nil)))), ?_⟩
    refine ⟨_, rfl, rfl, (show 0 ≤ sizeLine by decide), fun l hl => ?_⟩
    have s2 := sNew (o := .lst []) (Same.refl H) hl
    exact me_mk (ts := []) upd_same .nil (by decide) fun H' m s hm M => k H' m (s2.trans s) M
def spMeR (K : PySem.W.Frag) : Sp := fun vs H Q E => ∃ n : Int, vs = [.ref (ga K "Measure"), .int n] ∧ (n < 0 → Rz (ga K "InvalidRepeat") "repeat" (.int n) H E) ∧ (∀ m : Nat, n = m → ∀ H' a, Same H H' → MeAt K H' a (srt tmD [(.rd m, 1)]) → Q (.ref a) H')
abbrev s_Measure_of_rounds : Stmt := inClass (top 13) 4
theorem sc_Measure_of_rounds : FnScope ["cls", "repeat"] ["cls", "repeat"] (defScope s_Measure_of_rounds) := ⟨rfl, rfl, rfl, by decide +kernel, rfl, by decide +kernel, by decide +kernel⟩
theorem ok_Measure_of_rounds (T : TX K mg) (x_InvalidRepeat : Ex1 P w K mg base "InvalidRepeat" "repeat" (ga K "InvalidRepeat")) (k_Measure_1 : KMap P w K mg base 1 "Measure" (ga K "Measure") (spMeI K) []) {f : Addr} {fd : FuncData} (F : FunD K "of_rounds" "Measure.of_rounds" (defArgs s_Measure_of_rounds) (defBody s_Measure_of_rounds) (defScope s_Measure_of_rounds) [] [] f fd) : FnOk P w K mg base (CX P w) 3 f fd ["cls", "repeat"] (spMeR K) := by
  refine F.ok sc_Measure_of_rounds (fun vs H Q E h => ?_) (fun cdv A outer s H vs Q E hr h => ?_)
  · obtain ⟨n, rfl, _⟩ := h
    rfl
  · obtain ⟨n, rfl, kE, k⟩ := h
    refine ⟨_, (pss_cons (ps_if (pt_cmpR op_lt (pv 1) pe_int (nomark _)) (pss_one (ps_raise1 rfl (takes_of rfl rfl rfl rfl) x_InvalidRepeat hr (by decide) rfl (pv 1))) pss_nil) (pss_one (ps_ret (kmapV k_Measure_1 hr (by decide) (pv 0) (pa_cons (pe_lst (pa_cons (pe_tup (pa_cons (pe_strS [114, 111, 117, 110, 100, 115] (by decide +kernel)) (pa_cons (pv 1) (pa_cons pe_int pa_nil)))) pa_nil)) pa_nil))))), ?_⟩
    and_intros
    refine if2 (fun c => ?_) (fun c => ?_)
    · exact ⟨_, rfl, mk1_end fun d hd => kE (of_decide_eq_true c) _ d (Same.refl H) hd⟩
    have c : ¬ n < 0 := of_decide_eq_false c
    obtain ⟨m, rfl⟩ : ∃ m : Nat, n = m := ⟨n.toNat, by omega⟩
    refine ⟨_, rfl, rfl, _, rfl, (show 3 ≤ sizeLine by decide), fun a ha => ?_⟩
    have s1 := sNew (o := .tup [.str (S [114, 111, 117, 110, 100, 115]), .int (m : Nat), .int 1]) (Same.refl H) ha
    have ha1 : upd H a (.tup [.str (S [114, 111, 117, 110, 100, 115]), .int (m : Nat), .int 1]) a = _ := upd_same
    generalize upd H a (.tup [.str (S [114, 111, 117, 110, 100, 115]), .int (m : Nat), .int 1]) = H1 at *
    refine ⟨(show 1 ≤ sizeLine by decide), fun l hl => ?_⟩
    have s2 := sNew (o := .lst [.ref a]) (Same.refl H1) hl
    exact me_mk (ts := [(.rd m, 1)]) upd_same (.cons ⟨a, rfl, s2 _ _ ha1⟩ .nil) (by show 1 ≤ 1000; decide) fun H' q s hm M => k m rfl H' q ((s1.trans s2).trans s) M
theorem eqv_dt {k l : Bm} (h : k.nm = l.nm) : PyData.eqv k.dt l.dt = decide (k = l) := by
  cases k <;> cases l <;> simp [Bm.nm, Bm.dt, PyData.eqv, S] at h ⊢ <;> (rw [Bool.eq_iff_iff]; simp <;> omega)
def Bm.ok : Bm → Prop
  | .sg c => c ∈ sgn
  | .rd n => n < 10
  | _ => True
theorem sg_strOk : ∀ c ∈ sgn, PyData.strOk (S [c]) = true := by decide +kernel
theorem bm_shaped {k : Bm} (h : k.ok) : SeqAt.shaped k.dt = true := by
  cases k with
  | sg c => simp [Bm.dt, SeqAt.shaped, PyData.canLay0, PyData.depth]; exact sg_strOk c h
  | _ => simp [Bm.dt, SeqAt.shaped, PyData.canLay0, PyData.depth]
def spFac (K : PySem.W.Frag) : Sp := fun vs H Q _ => ∃ (p : Addr) (ts : Tms) (k : Bm), vs = [.ref p, .str (S k.nm), k.dv] ∧ MeAt K H p ts ∧ ts.length ≤ 1000 ∧ k.ok ∧ (∀ t ∈ ts, t.1.ok) ∧ ∀ H', Same H H' → Q (.int (fac ts k)) H'
abbrev s_Measure_factor_of : Stmt := inClass (top 13) 8
theorem sc_Measure_factor_of : FnScope ["self", "name", "detail", "term"] ["self", "name", "detail"] (defScope s_Measure_factor_of) := ⟨rfl, rfl, rfl, by decide +kernel, rfl, by decide +kernel, by decide +kernel⟩
theorem ok_Measure_factor_of (T : TX K mg) (Z : TMe K) {f : Addr} {fd : FuncData} (F : FunD K "factor_of" "Measure.factor_of" (defArgs s_Measure_factor_of) (defBody s_Measure_factor_of) (defScope s_Measure_factor_of) [] [] f fd) : FnOk P w K mg base (CX P w) 1 f fd ["self", "name", "detail"] (spFac K) := by
  refine F.ok sc_Measure_factor_of (fun vs H Q E h => ?_) (fun cdv A outer s H vs Q E hr h => ?_)
  · obtain ⟨p, ts, k, rfl, _⟩ := h
    rfl
  · obtain ⟨p, ts, k, rfl, ⟨dx, tp, xs, hp, htp, ht⟩, hn, hk, hto, kq⟩ := h
    refine ⟨_, (pss_one (ps_ret (pe_callB (cr_sum (by rfl)) (by rfl) T.b_sum (by decide +kernel) (pa_cons (pe_lc (own := [("term", 3)]) rfl sc_Measure_factor_of.nd (pi_tup (pe_fld (pv 0) rfl)) (blkOk_by (own := [("term", 3)]) (N := ["self", "name", "detail", "term"]) (sc := defScope s_Measure_factor_of) (by decide +kernel)) (fun _ _ _ _ _ => (pg_name (i := 3) sc_Measure_factor_of.nd rfl (Or.inl rfl))) (fun _ _ _ _ _ => (pts_one (PW.pt (pw_and (pt_cmpR op_eqS (pe_ix (ix_tupK (K := K) rfl) (pv 3) pe_int (fun _ _ => rfl)) (pv 1) (nomark _)) (pw_and1 (pt_cmpR (op_eqDK (K := K) rfl (by exact hr.units)) (pe_ix (ix_tupK (K := K) rfl) (pv 3) pe_int (fun _ _ => rfl)) (pv 2) (nomark _))))))) (fun _ _ _ _ _ => (pe_ix (ix_tupK (K := K) rfl) (pv 3) pe_int (fun _ _ => rfl)))) pa_nil)))), ?_⟩
    have zc := Z.cl
    have z1 := Z.n_terms
    have hxl := ht.len
    and_intros
    intro D hD
    refine lc_it (walk_tup (xs := xs)) (fun i H' => ∃ ns : List Int, H' D = some (.lst (ns.map V.int)) ∧ Same H H' ∧ ns.sum = fac (ts.take i) k ∧ ns.length ≤ i) ⟨[], upd_same, sNew (Same.refl H) hD, rfl, Nat.le_refl _⟩ (fun i H' _ ⟨_, _, s, _⟩ => SqT.of (s _ _ htp)) ?_ ?_
    · rintro i x H1 H2 hi ⟨ns, hy, s1, hs, hL⟩ ⟨rfl, hx⟩
      obtain ⟨t, hti, a, rfl, ha⟩ := (ht.same s1).get (i := i) hx
      have ef := fac_tk hti k
      refine ⟨rfl, _, rfl, a, _, 0, _, rfl, rfl, SqT.of ha, rfl, _, rfl, _, _, rfl, rfl, _, rfl, ?_⟩
      refine if2 (fun c => ?_) (fun c => ?_)
      · have c : t.1.nm = k.nm := by simpa using c
        refine ⟨_, rfl, a, _, 1, _, rfl, rfl, SqT.of ha, rfl, _, rfl, t.1.dt, k.dt, ((Dt.dp (K := K) _ _ (Dt.bm t.1)).1), ((Dt.dp (K := K) _ _ (Dt.bm k)).1), bm_shaped (hto t (List.mem_of_getElem? hti)), bm_shaped hk, ?_⟩
        rw [eqv_dt c]
        refine ⟨_, rfl, if2 (fun c2 => ?_) (fun c2 => ?_)⟩
        · have c2 : t.1 = k := of_decide_eq_true c2
          rw [if_pos c2] at ef
          refine ⟨_, rfl, a, _, 2, _, rfl, rfl, SqT.of ha, rfl, _, hy, by rw [List.length_map, sizeLine_eq]; omega, ns ++ [t.2], by rw [upd_same, List.map_append]; rfl, sMut s1 hD, ?_, by rw [List.length_append]; show ns.length + 1 ≤ _; omega⟩
          rw [List.sum_append, hs, ef]; simp
        · have c2 : ¬ t.1 = k := of_decide_eq_false c2
          rw [if_neg c2] at ef
          exact ⟨ns, hy, s1, by rw [ef, hs]; omega, by omega⟩
      · have c : ¬ t.1.nm = k.nm := by simpa using c
        rw [if_neg (fun z => c (by rw [z]))] at ef
        exact ⟨ns, hy, s1, by rw [ef, hs]; omega, by omega⟩
    · rintro H1 ⟨ns, hy, s1, hs, hL⟩
      rw [List.take_of_length_le (by omega)] at hs
      refine ⟨D, ns, rfl, SqL.of hy, ?_⟩
      rw [hs]
      exact kq _ s1
structure XK1 (mg : Str → Option Value) (x : Str) (C : Addr) : Prop where
  gC : mg x = some (.ref C)
theorem eqv_map {D : Bm × Int → PyData} (h : ∀ x y, PyData.eqv (D x) (D y) = decide (x = y)) : ∀ a b : Tms, PyData.eqvAll (a.map D) (b.map D) = decide (a = b)
  | [], [] => by simp [PyData.eqvAll]
  | [], _ :: _ => by simp [PyData.eqvAll]
  | _ :: _, [] => by simp [PyData.eqvAll]
  | x :: a, y :: b => by
    simp only [List.map_cons, PyData.eqvAll, h, eqv_map h a b, List.cons.injEq]
    by_cases h1 : x = y <;> by_cases h2 : a = b <;> simp [h1, h2]
theorem lay_map {D : Bm × Int → PyData} : ∀ {a : Tms}, (∀ t ∈ a, PyData.canLay0 (D t) = true) → PyData.canLayAll0 (a.map D) = true
  | [], _ => by simp [PyData.canLayAll0]
  | x :: a, h => by
    simp only [List.map_cons, PyData.canLayAll0, h x (.head _), Bool.true_and]
    exact lay_map fun t q => h t (.tail _ q)
theorem dep_map {D : Bm × Int → PyData} {n : Nat} : ∀ {a : Tms}, (∀ t ∈ a, PyData.depth (D t) ≤ n) → PyData.depthAll (a.map D) ≤ n
  | [], _ => by simp [PyData.depthAll]
  | x :: a, h => by
    simp only [List.map_cons, PyData.depthAll]
    exact Nat.max_le.mpr ⟨h x (.head _), dep_map fun t q => h t (.tail _ q)⟩
theorem S_beq {a b : List Nat} : (S a == S b) = decide (a = b) := by
  rw [Bool.eq_iff_iff]
  simp only [beq_iff_eq, decide_eq_true_eq]
  exact ⟨SX.S_inj, fun h => by rw [h]⟩
theorem tm_eqv (x y : Bm × Int) : PyData.eqv (tmD x) (tmD y) = decide (x = y) := by
  obtain ⟨k, f⟩ := x
  obtain ⟨l, g⟩ := y
  have e0 : PyData.eqv (tmD (k, f)) (tmD (l, g)) = ((S k.nm == S l.nm) && (PyData.eqv k.dt l.dt && (f == g && true))) := by
    simp only [tmD, PyData.eqv, PyData.eqvAll]
  rw [e0, S_beq]
  by_cases h : k.nm = l.nm
  · rw [eqv_dt h]
    by_cases h2 : k = l
    · subst h2
      rw [Bool.eq_iff_iff]; simp
    · simp [h2]
  · have : k ≠ l := fun z => h (by rw [z])
    simp [h, this]
theorem tm_lay {t : Bm × Int} (h : t.1.ok) : PyData.canLay0 (tmD t) = true ∧ PyData.depth (tmD t) ≤ 2 := by
  have h1 : PyData.canLay0 t.1.dt = true := by
    have := bm_shaped h
    simp only [SeqAt.shaped, Bool.and_eq_true] at this
    exact this.1
  have h2 : PyData.strOk (S t.1.nm) = true := by cases t.1 <;> simp only [Bm.nm] <;> decide +kernel
  refine ⟨?_, ?_⟩
  · simp [tmD, PyData.canLay0, PyData.canLayAll0, h1, h2]
  · cases e : t.1 <;> simp [tmD, e, Bm.dt, PyData.depth, PyData.depthAll]
theorem ts_shaped {ts : Tms} (h : ∀ t ∈ ts, t.1.ok) : SeqAt.shaped (.tuple (ts.map tmD)) = true := by
  have h1 : PyData.canLayAll0 (ts.map tmD) = true := lay_map fun t q => (tm_lay (h t q)).1
  have h2 : PyData.depthAll (ts.map tmD) ≤ 2 := dep_map fun t q => (tm_lay (h t q)).2
  simp [SeqAt.shaped, PyData.canLay0, PyData.depth, h1]
  omega
def sgs (ts : Tms) : List Nat := ts.filterMap fun t => match t.1 with
  | .sg c => some c
  | _ => none
theorem sgs_mem {ts : Tms} {c : Nat} : c ∈ sgs ts ↔ ∃ f, (Bm.sg c, f) ∈ ts := by
  unfold sgs
  rw [List.mem_filterMap]
  constructor
  · rintro ⟨⟨k, f⟩, h, e⟩
    cases k <;> simp at e
    subst e
    exact ⟨f, h⟩
  · rintro ⟨f, h⟩
    exact ⟨_, h, rfl⟩
theorem sgs_tk {ts : Tms} {i : Nat} {t : Bm × Int} (h : ts[i]? = some t) : sgs (ts.take (i + 1)) = sgs (ts.take i) ++ (match t.1 with | .sg c => [c] | _ => []) := by
  unfold sgs
  rw [List.take_add_one, h, Option.toList_some, List.filterMap_append]
  cases e : t.1 <;> simp [e]
abbrev onesM (s : List Nat) : Tms := (asc s).map fun c => (Bm.sg c, (1 : Int))
def spMeS (K : PySem.W.Frag) : Sp := fun vs H Q E => ∃ s : List Nat, vs = [.ref (ga K "Measure"), .str (S s)] ∧ (badAt s = none → ∀ H' a, Same H H' → MeAt K H' a (srt tmD (onesM s)) → Q (.ref a) H') ∧ (∀ i, badAt s = some i → Rz (ga K "InvalidText") "place" (.int (i : Nat)) H E)
theorem asc_len (s : List Nat) : (asc s).length ≤ 95 := Nat.le_trans (List.length_filter_le _ _) (by decide)
abbrev s_Measure_of_signs : Stmt := inClass (top 13) 2
theorem sc_Measure_of_signs : FnScope ["cls", "signs", "sign"] ["cls", "signs"] (defScope s_Measure_of_signs) := ⟨rfl, rfl, rfl, by decide +kernel, rfl, by decide +kernel, by decide +kernel⟩
theorem ok_Measure_of_signs (T : TX K mg) (c_check_text : KCal P w K mg base 3 "check_text" (spCheckText K) []) (c_ascending : KCal P w K mg base 1 "ascending" spAsc []) (k_Measure_1 : KMap P w K mg base 1 "Measure" (ga K "Measure") (spMeI K) []) {f : Addr} {fd : FuncData} (F : FunD K "of_signs" "Measure.of_signs" (defArgs s_Measure_of_signs) (defBody s_Measure_of_signs) (defScope s_Measure_of_signs) [] [] f fd) : FnOk P w K mg base (CX P w) 4 f fd ["cls", "signs"] (spMeS K) := by
  refine F.ok sc_Measure_of_signs (fun vs H Q E h => ?_) (fun cdv A outer s H vs Q E hr h => ?_)
  · obtain ⟨s, rfl, _⟩ := h
    rfl
  · obtain ⟨s, rfl, k, kE⟩ := h
    refine ⟨_, (pss_cons (ps_expr (kx c_check_text (takes_of rfl rfl rfl rfl) hr (by decide) rfl (pa_cons (pv 1) pa_nil))) (pss_one (ps_ret (kmapV k_Measure_1 hr (by decide) (pv 0) (pa_cons (pe_lc (own := [("sign", 2)]) rfl sc_Measure_of_signs.nd (pi_str (kc c_ascending hr (by decide) rfl (pa_cons (pv 1) pa_nil))) (blkOk_by (own := [("sign", 2)]) (N := ["cls", "signs", "sign"]) (sc := defScope s_Measure_of_signs) (by decide +kernel)) (fun _ _ _ _ _ => (pg_name (i := 2) sc_Measure_of_signs.nd rfl (Or.inl rfl))) (fun _ _ _ _ _ => pts_nil) (fun _ _ _ _ _ => (pe_tup (pa_cons (pe_strS [115, 105, 103, 110, 115] (by decide +kernel)) (pa_cons (pv 2) (pa_cons pe_int pa_nil)))))) pa_nil))))), ?_⟩
    refine ⟨_, rfl, s, rfl, fun hb H1 s1 => ?_, fun i hi => kE i hi⟩
    refine ⟨_, rfl, rfl, _, rfl, s, rfl, fun H2 s2 => ?_⟩
    refine ⟨_, rfl, fun D hD => ?_⟩
    refine lc_it walk_S (fun i H' => ∃ ys : List V, H' D = some (.lst ys) ∧ Same H2 H' ∧ TsA H' ys (((asc s).take i).map fun c => (Bm.sg c, (1 : Int)))) ⟨[], upd_same, sNew (Same.refl H2) hD, .nil⟩ (fun _ _ _ _ => trivial) ?_ ?_
    · rintro i x H3 H4 hi ⟨ys, hy, s3, hT⟩ ⟨rfl, c, hc, rfl⟩
      have hL : ((asc s).take i).length ≤ 95 := by rw [List.length_take]; have := asc_len s; omega
      have hys := hT.len
      rw [List.length_map] at hys
      refine ⟨rfl, _, rfl, (show 3 ≤ sizeLine by decide), fun a ha => ?_⟩
      have s4 := sNew (o := .tup [.str (S [115, 105, 103, 110, 115]), .str (S [c]), .int 1]) (Same.refl H4) ha
      have ha4 : upd H4 a (.tup [.str (S [115, 105, 103, 110, 115]), .str (S [c]), .int 1]) a = _ := upd_same
      generalize upd H4 a (.tup [.str (S [115, 105, 103, 110, 115]), .str (S [c]), .int 1]) = H5 at *
      have hy5 := s4 _ _ hy
      refine ⟨_, hy5, by rw [sizeLine_eq]; omega, ys ++ [.ref a], upd_same, sMut (s3.trans s4) hD, ?_⟩
      rw [List.take_add_one, hc, Option.toList_some, List.map_append]
      exact ((hT.same s4).mut hy5).snoc (TmAt.mut hy5 (t := (.sg c, 1)) ⟨a, rfl, ha4⟩)
    · rintro H3 ⟨ys, hy, s3, hT⟩
      rw [List.take_of_length_le (Nat.le_refl _)] at hT
      have hT : TsA H3 ys (onesM s) := hT
      exact me_mk hy hT (by rw [List.length_map]; have := asc_len s; omega) fun H' m s4 hm M => k hb H' m (((s1.trans s2).trans s3).trans s4) M
def spCnt (K : PySem.W.Frag) : Sp := fun vs H Q _ => ∃ (p : Addr) (ts : Tms), vs = [.ref p] ∧ MeAt K H p ts ∧ ts.length ≤ 1000 ∧ ∀ H', Same H H' → Q (.str (S (asc (sgs ts)))) H'
abbrev s_Measure_counted : Stmt := inClass (top 13) 7
theorem sc_Measure_counted : FnScope ["self", "term"] ["self"] (defScope s_Measure_counted) := ⟨rfl, rfl, rfl, by decide +kernel, rfl, by decide +kernel, by decide +kernel⟩
theorem ok_Measure_counted (T : TX K mg) (Z : TMe K) (c_ascending : KCal P w K mg base 1 "ascending" spAsc []) {f : Addr} {fd : FuncData} (F : FunD K "counted" "Measure.counted" (defArgs s_Measure_counted) (defBody s_Measure_counted) (defScope s_Measure_counted) [] [] f fd) : FnOk P w K mg base (CX P w) 3 f fd ["self"] (spCnt K) := by
  refine F.ok sc_Measure_counted (fun vs H Q E h => ?_) (fun cdv A outer s H vs Q E hr h => ?_)
  · obtain ⟨p, ts, rfl, _⟩ := h
    rfl
  · obtain ⟨p, ts, rfl, ⟨dx, tp, xs, hp, htp, ht⟩, hn, kq⟩ := h
    refine ⟨_, (pss_one (ps_ret (kc c_ascending hr (by decide) rfl (pa_cons (pe_join0 (pe_strS [] (by decide +kernel)) (pe_lc (own := [("term", 1)]) rfl sc_Measure_counted.nd (pi_tup (pe_fld (pv 0) rfl)) (blkOk_by (own := [("term", 1)]) (N := ["self", "term"]) (sc := defScope s_Measure_counted) (by decide +kernel)) (fun _ _ _ _ _ => (pg_name (i := 1) sc_Measure_counted.nd rfl (Or.inl rfl))) (fun _ _ _ _ _ => (pts_one (pt_cmpR op_eqS (pe_ix (ix_tupK (K := K) rfl) (pv 1) pe_int (fun _ _ => rfl)) (pe_strS [115, 105, 103, 110, 115] (by decide +kernel)) (nomark _)))) (fun _ _ _ _ _ => (pe_ix (ix_tupK (K := K) rfl) (pv 1) pe_int (fun _ _ => rfl))))) pa_nil)))), ?_⟩
    have zc := Z.cl
    have z1 := Z.n_terms
    have hxl := ht.len
    refine ⟨⟨_, rfl⟩, _, rfl, p, _, _, _, _, rfl, hp, zc, z1, rfl, tp, rfl, ⟨_, SqT.of htp⟩, fun D hD => ?_⟩
    refine lc_it (walk_tup (xs := xs)) (fun i H' => H' D = some (.lst (((sgs (ts.take i)).map fun c => [c]).map fun y => V.str (S y))) ∧ Same H H') ⟨upd_same, sNew (Same.refl H) hD⟩ (fun i H' _ ⟨_, s⟩ => SqT.of (s _ _ htp)) ?_ ?_
    · rintro i x H1 H2 hi ⟨hy, s1⟩ ⟨rfl, hx⟩
      obtain ⟨⟨tk, tf⟩, hti, a, rfl, ha⟩ := (ht.same s1).get (i := i) hx
      have ef := sgs_tk hti
      have hL : (sgs (ts.take i)).length ≤ 1000 := Nat.le_trans (List.length_filterMap_le _ _) (by rw [List.length_take]; omega)
      refine ⟨rfl, _, rfl, a, _, 0, _, rfl, rfl, SqT.of ha, rfl, _, _, rfl, rfl, _, rfl, ?_⟩
      refine if2 (fun c => ?_) (fun c => ?_)
      · have c : tk.nm = [115, 105, 103, 110, 115] := by simpa using c
        obtain ⟨e, rfl⟩ := nm_sg.mp c
        refine ⟨_, rfl, a, _, 1, _, rfl, rfl, SqT.of ha, rfl, _, hy, by rw [List.length_map, List.length_map, sizeLine_eq]; omega, by rw [upd_same, ef, List.map_append, List.map_append]; rfl, sMut s1 hD⟩
      · have c : ¬ tk.nm = [115, 105, 103, 110, 115] := by simpa using c
        have : sgs (ts.take (i + 1)) = sgs (ts.take i) := by
          rw [ef]
          cases tk <;> first | exact List.append_nil _ | (exfalso; exact c rfl)
        rw [this]
        exact ⟨hy, s1⟩
    · rintro H1 ⟨hy, s1⟩
      rw [List.take_of_length_le (by omega)] at hy
      have hL : (sgs ts).length ≤ 1000 := Nat.le_trans (List.length_filterMap_le _ _) hn
      refine ⟨_, (sgs ts).map (fun c => [c]), rfl, rfl, SqL.of hy, by rw [flat_one]; omega, ?_⟩
      rw [flat_one]
      exact ⟨_, rfl, fun H2 s2 => kq H2 (s1.trans s2)⟩
def spMeEq (K : PySem.W.Frag) : Sp := fun vs H Q _ => ∃ (p q : Addr) (a b : Tms), vs = [.ref p, .ref q] ∧ MeAt K H p a ∧ MeAt K H q b ∧ (∀ t ∈ a, t.1.ok) ∧ (∀ t ∈ b, t.1.ok) ∧ Q (.bl (decide (a = b))) H
abbrev s_Measure___eq__ : Stmt := inClass (top 13) 9
theorem sc_Measure___eq__ : FnScope ["self", "other"] ["self", "other"] (defScope s_Measure___eq__) := ⟨rfl, rfl, rfl, by decide +kernel, rfl, by decide +kernel, by decide +kernel⟩
theorem ok_Measure___eq__ (T : TX K mg) (Z : TMe K) (o_isMeasure : C8.InsC K (ga K "Measure")) (y_Measure : XK1 mg "Measure" (ga K "Measure")) (k_Measure_1 : KMap P w K mg base 1 "Measure" (ga K "Measure") (spMeI K) []) {f : Addr} {fd : FuncData} (F : FunD K "__eq__" "Measure.__eq__" (defArgs s_Measure___eq__) (defBody s_Measure___eq__) (defScope s_Measure___eq__) [] [] f fd) : FnOk P w K mg base (CX P w) 1 f fd ["self", "other"] (spMeEq K) := by
  refine F.ok sc_Measure___eq__ (fun vs H Q E h => ?_) (fun cdv A outer s H vs Q E hr h => ?_)
  · obtain ⟨p, q, a, b, rfl, _⟩ := h
    rfl
  · obtain ⟨p, q, a, b, rfl, ⟨dx, tp, xs, hp, htp, ht⟩, ⟨dy, tq, ys, hq, htq, hu⟩, ha, hb, k⟩ := h
    refine ⟨_, (pss_one (ps_ret (pe_and (pe_callB (C8.call_isC o_isMeasure) (by rfl) T.b_isinstance (by decide +kernel) (pa_cons (pv 1) (pa_cons (pe_gR y_Measure.gC rfl) pa_nil))) (pe_one (pe_cmpR (op_eqD hr.units) (pe_fld (pv 0) rfl) (pe_fld (pv 1) rfl) (nomark _)))))), ?_⟩
    have zc := Z.cl
    have z1 := Z.n_terms
    and_intros
    refine ⟨.tuple (a.map tmD), .tuple (b.map tmD), (Dt.dp (K := K) _ _ (.tup htp ht.dt)).1, (Dt.dp (K := K) _ _ (.tup htq hu.dt)).1, ts_shaped ha, ts_shaped hb, ?_⟩
    have e : PyData.eqv (.tuple (a.map tmD)) (.tuple (b.map tmD)) = decide (a = b) := by
      simp only [PyData.eqv]
      exact eqv_map tm_eqv a b
    rw [e]
    exact k
theorem srt_sub {D : Bm × Int → PyData} {a : Tms} {t : Bm × Int} (h : t ∈ srt D a) : t ∈ a := (List.mem_filter.mp ((srt_perm D a).mem_iff.mp h)).1
theorem srt_len (D : Bm × Int → PyData) (a : Tms) : (srt D a).length ≤ a.length := by rw [(srt_perm D a).length_eq]; exact List.length_filter_le _ _
abbrev facN (a : Tms) : Tms := a.map fun t => (t.1, -t.2)
abbrev facM (a : Tms) (n : Int) : Tms := a.map fun t => (t.1, t.2 * n)
abbrev facP (a b : Tms) : Tms := (a.map fun t => (t.1, t.2 + fac b t.1)) ++ b.filter fun t => decide (fac a t.1 = 0)
theorem map_tk {f : Bm × Int → Bm × Int} {ts : Tms} {i : Nat} {t : Bm × Int} (h : ts[i]? = some t) : (ts.take (i + 1)).map f = (ts.take i).map f ++ [f t] := by
  rw [List.take_add_one, h, Option.toList_some, List.map_append]; rfl
def spMeNeg (K : PySem.W.Frag) : Sp := fun vs H Q _ => ∃ (p : Addr) (a : Tms), vs = [.ref p] ∧ MeAt K H p a ∧ a.length ≤ 1000 ∧ ∀ H' m, Same H H' → MeAt K H' m (srt tmD (facN a)) → Q (.ref m) H'
abbrev s_Measure___neg__ : Stmt := inClass (top 13) 12
theorem sc_Measure___neg__ : FnScope ["self", "term"] ["self"] (defScope s_Measure___neg__) := ⟨rfl, rfl, rfl, by decide +kernel, rfl, by decide +kernel, by decide +kernel⟩
theorem ok_Measure___neg__ (T : TX K mg) (Z : TMe K) (k_Measure_1 : KMap P w K mg base 1 "Measure" (ga K "Measure") (spMeI K) []) {f : Addr} {fd : FuncData} (F : FunD K "__neg__" "Measure.__neg__" (defArgs s_Measure___neg__) (defBody s_Measure___neg__) (defScope s_Measure___neg__) [] [] f fd) : FnOk P w K mg base (CX P w) 3 f fd ["self"] (spMeNeg K) := by
  refine F.ok sc_Measure___neg__ (fun vs H Q E h => ?_) (fun cdv A outer s H vs Q E hr h => ?_)
  · obtain ⟨p, a, rfl, _⟩ := h
    rfl
  · obtain ⟨p, a, rfl, ⟨dx, tp, xs, hp, htp, ht⟩, hn, kq⟩ := h
    refine ⟨_, (pss_one (ps_ret (kmap k_Measure_1 hr (by decide) rfl (pa_cons (pe_lc (own := [("term", 1)]) rfl sc_Measure___neg__.nd (pi_tup (pe_fld (pv 0) rfl)) (blkOk_by (own := [("term", 1)]) (N := ["self", "term"]) (sc := defScope s_Measure___neg__) (by decide +kernel)) (fun _ _ _ _ _ => (pg_name (i := 1) sc_Measure___neg__.nd rfl (Or.inl rfl))) (fun _ _ _ _ _ => pts_nil) (fun _ _ _ _ _ => (pe_tup (pa_cons (pe_ix (ix_tupK (K := K) rfl) (pv 1) pe_int (fun _ _ => rfl)) (pa_cons (pe_ix (ix_tupK (K := K) rfl) (pv 1) pe_int (fun _ _ => rfl)) (pa_cons (pe_un un_neg (pe_ix (ix_tupK (K := K) rfl) (pv 1) pe_int (fun _ _ => rfl))) pa_nil)))))) pa_nil)))), ?_⟩
    have zc := Z.cl
    have z1 := Z.n_terms
    have hxl := ht.len
    and_intros
    intro D hD
    refine lc_it (walk_tup (xs := xs)) (fun i H' => ∃ ys : List V, H' D = some (.lst ys) ∧ Same H H' ∧ TsA H' ys (facN (a.take i))) ⟨[], upd_same, sNew (Same.refl H) hD, .nil⟩ (fun i H' _ ⟨_, _, s, _⟩ => SqT.of (s _ _ htp)) ?_ ?_
    · rintro i x H1 H2 hi ⟨ys, hy, s1, hT⟩ ⟨rfl, hx⟩
      obtain ⟨t, hti, c, rfl, hc⟩ := (ht.same s1).get (i := i) hx
      have hys := hT.len
      rw [List.length_map, List.length_take] at hys
      refine ⟨rfl, _, rfl, c, _, 0, _, rfl, rfl, SqT.of hc, rfl, _, rfl, c, _, 1, _, rfl, rfl, SqT.of hc, rfl, _, rfl, c, _, 2, _, rfl, rfl, SqT.of hc, rfl, _, rfl, (show 3 ≤ sizeLine by decide), fun e he => ?_⟩
      have s4 := sNew (o := .tup (tmV (t.1, -t.2))) (Same.refl H2) he
      have hy4 := s4 _ _ hy
      have he4 : upd H2 e (.tup (tmV (t.1, -t.2))) e = some (.tup (tmV (t.1, -t.2))) := upd_same
      refine ⟨_, hy4, by rw [sizeLine_eq]; omega, ys ++ [.ref e], upd_same, sMut (s1.trans s4) hD, ?_⟩
      rw [show facN (a.take (i + 1)) = facN (a.take i) ++ [(t.1, -t.2)] from map_tk hti]
      exact ((hT.same s4).mut hy4).snoc (TmAt.mut hy4 ⟨e, rfl, he4⟩)
    · rintro H1 ⟨ys, hy, s1, hT⟩
      rw [List.take_of_length_le (by omega)] at hT
      exact me_mk hy hT (by rw [List.length_map]; exact hn) fun H' m s4 hm M => kq H' m (s1.trans s4) M
def spMeMul (K : PySem.W.Frag) : Sp := fun vs H Q _ => ∃ (p : Addr) (a : Tms) (n : Int), vs = [.ref p, .int n] ∧ MeAt K H p a ∧ a.length ≤ 1000 ∧ (∀ t ∈ a, CMul t.2 n) ∧ ∀ H' m, Same H H' → MeAt K H' m (srt tmD (facM a n)) → Q (.ref m) H'
abbrev s_Measure___mul__ : Stmt := inClass (top 13) 13
theorem sc_Measure___mul__ : FnScope ["self", "factor", "term"] ["self", "factor"] (defScope s_Measure___mul__) := ⟨rfl, rfl, rfl, by decide +kernel, rfl, by decide +kernel, by decide +kernel⟩
theorem ok_Measure___mul__ (T : TX K mg) (Z : TMe K) (k_Measure_1 : KMap P w K mg base 1 "Measure" (ga K "Measure") (spMeI K) []) {f : Addr} {fd : FuncData} (F : FunD K "__mul__" "Measure.__mul__" (defArgs s_Measure___mul__) (defBody s_Measure___mul__) (defScope s_Measure___mul__) [] [] f fd) : FnOk P w K mg base (CX P w) 3 f fd ["self", "factor"] (spMeMul K) := by
  refine F.ok sc_Measure___mul__ (fun vs H Q E h => ?_) (fun cdv A outer s H vs Q E hr h => ?_)
  · obtain ⟨p, a, n, rfl, _⟩ := h
    rfl
  · obtain ⟨p, a, n, rfl, ⟨dx, tp, xs, hp, htp, ht⟩, hn, hcm, kq⟩ := h
    refine ⟨_, (pss_one (ps_ret (kmap k_Measure_1 hr (by decide) rfl (pa_cons (pe_lc (own := [("term", 2)]) rfl sc_Measure___mul__.nd (pi_tup (pe_fld (pv 0) rfl)) (blkOk_by (own := [("term", 2)]) (N := ["self", "factor", "term"]) (sc := defScope s_Measure___mul__) (by decide +kernel)) (fun _ _ _ _ _ => (pg_name (i := 2) sc_Measure___mul__.nd rfl (Or.inl rfl))) (fun _ _ _ _ _ => pts_nil) (fun _ _ _ _ _ => (pe_tup (pa_cons (pe_ix (ix_tupK (K := K) rfl) (pv 2) pe_int (fun _ _ => rfl)) (pa_cons (pe_ix (ix_tupK (K := K) rfl) (pv 2) pe_int (fun _ _ => rfl)) (pa_cons (pe_op op_mul (pe_ix (ix_tupK (K := K) rfl) (pv 2) pe_int (fun _ _ => rfl)) (pv 1)) pa_nil)))))) pa_nil)))), ?_⟩
    have zc := Z.cl
    have z1 := Z.n_terms
    have hxl := ht.len
    and_intros
    intro D hD
    refine lc_it (walk_tup (xs := xs)) (fun i H' => ∃ ys : List V, H' D = some (.lst ys) ∧ Same H H' ∧ TsA H' ys (facM (a.take i) n)) ⟨[], upd_same, sNew (Same.refl H) hD, .nil⟩ (fun i H' _ ⟨_, _, s, _⟩ => SqT.of (s _ _ htp)) ?_ ?_
    · rintro i x H1 H2 hi ⟨ys, hy, s1, hT⟩ ⟨rfl, hx⟩
      obtain ⟨t, hti, c, rfl, hc⟩ := (ht.same s1).get (i := i) hx
      have hys := hT.len
      rw [List.length_map, List.length_take] at hys
      refine ⟨rfl, _, rfl, c, _, 0, _, rfl, rfl, SqT.of hc, rfl, _, rfl, c, _, 1, _, rfl, rfl, SqT.of hc, rfl, _, rfl, c, _, 2, _, rfl, rfl, SqT.of hc, rfl, _, rfl, _, _, rfl, rfl, hcm t (List.mem_of_getElem? hti), (show 3 ≤ sizeLine by decide), fun e he => ?_⟩
      have s4 := sNew (o := .tup (tmV (t.1, t.2 * n))) (Same.refl H2) he
      have hy4 := s4 _ _ hy
      have he4 : upd H2 e (.tup (tmV (t.1, t.2 * n))) e = some (.tup (tmV (t.1, t.2 * n))) := upd_same
      refine ⟨_, hy4, by rw [sizeLine_eq]; omega, ys ++ [.ref e], upd_same, sMut (s1.trans s4) hD, ?_⟩
      rw [show facM (a.take (i + 1)) n = facM (a.take i) n ++ [(t.1, t.2 * n)] from map_tk hti]
      exact ((hT.same s4).mut hy4).snoc (TmAt.mut hy4 ⟨e, rfl, he4⟩)
    · rintro H1 ⟨ys, hy, s1, hT⟩
      rw [List.take_of_length_le (by omega)] at hT
      exact me_mk hy hT (by rw [List.length_map]; exact hn) fun H' m s4 hm M => kq H' m (s1.trans s4) M
def spMeAdd (K : PySem.W.Frag) : Sp := fun vs H Q _ => ∃ (p q : Addr) (a b : Tms), vs = [.ref p, .ref q] ∧ MeAt K H p a ∧ MeAt K H q b ∧ a.length ≤ 400 ∧ b.length ≤ 400 ∧ (∀ t ∈ a, t.1.ok) ∧ (∀ t ∈ b, t.1.ok) ∧ ∀ H' m, Same H H' → MeAt K H' m (srt tmD (facP a b)) → Q (.ref m) H'
abbrev s_Measure___add__ : Stmt := inClass (top 13) 10
theorem sc_Measure___add__ : FnScope ["self", "other", "terms", "term"] ["self", "other"] (defScope s_Measure___add__) := ⟨rfl, rfl, rfl, by decide +kernel, rfl, by decide +kernel, by decide +kernel⟩
theorem ok_Measure___add__ (T : TX K mg) (Z : TMe K) (m_Measure_factor_of : KMet P w K mg base 1 (ga K "Measure") "factor_of" (spFac K)) (k_Measure_1 : KMap P w K mg base 1 "Measure" (ga K "Measure") (spMeI K) []) {f : Addr} {fd : FuncData} (F : FunD K "__add__" "Measure.__add__" (defArgs s_Measure___add__) (defBody s_Measure___add__) (defScope s_Measure___add__) [] [] f fd) : FnOk P w K mg base (CX P w) 3 f fd ["self", "other"] (spMeAdd K) := by
  refine F.ok sc_Measure___add__ (fun vs H Q E h => ?_) (fun cdv A outer s H vs Q E hr h => ?_)
  · obtain ⟨p, q, a, b, rfl, _⟩ := h
    rfl
  · obtain ⟨p, q, a, b, rfl, ⟨dx, tp, xs, hp, htp, ht⟩, ⟨dy, tq, ys0, hq, htq, hu⟩, hna, hnb, hoa, hob, kq⟩ := h
    refine ⟨_, (pss_cons (ps_setLc (i := 2) (own := [("term", 3)]) rfl sc_Measure___add__.nd rfl rfl (sw_true rfl rfl rfl (by decide +kernel)) (pi_tup (pe_fld (pv 0) rfl)) (blkOk_by (own := [("term", 3)]) (N := ["self", "other", "terms", "term"]) (sc := defScope s_Measure___add__) (by decide +kernel)) (fun _ _ _ _ _ => (pg_name (i := 3) sc_Measure___add__.nd rfl (Or.inl rfl))) (fun _ _ _ _ _ => pts_nil) (fun _ _ _ _ _ => (pe_tup (pa_cons (pe_ix (ix_tupK (K := K) rfl) (pv 3) pe_int (fun _ _ => rfl)) (pa_cons (pe_ix (ix_tupK (K := K) rfl) (pv 3) pe_int (fun _ _ => rfl)) (pa_cons (pe_op op_add (pe_ix (ix_tupK (K := K) rfl) (pv 3) pe_int (fun _ _ => rfl)) (km m_Measure_factor_of hr (by decide) (pv 1) (pa_cons (pe_ix (ix_tupK (K := K) rfl) (pv 3) pe_int (fun _ _ => rfl)) (pa_cons (pe_ix (ix_tupK (K := K) rfl) (pv 3) pe_int (fun _ _ => rfl)) pa_nil)))) pa_nil)))))) (pss_cons (ps_for (passes_of rfl) rfl (pi_tup (pe_fld (pv 1) rfl)) (pg_name (i := 3) sc_Measure___add__.nd rfl (Or.inl rfl)) (pss_one (ps_if (pt_cmpR op_eq (km m_Measure_factor_of hr (by decide) (pv 0) (pa_cons (pe_ix ix_tup (pv 3) pe_int (fun _ _ => rfl)) (pa_cons (pe_ix ix_tup (pv 3) pe_int (fun _ _ => rfl)) pa_nil))) pe_int (nomark _)) (pss_one (ps_expr (pe_bm PySem.F.plainAttrs_list PySem.F.slot_list_append PySem.F.type_list_append mt_append (pv 2) (pa_cons (pv 3) pa_nil)))) pss_nil))) (pss_one (ps_ret (kmap k_Measure_1 hr (by decide) rfl (pa_cons (pv 2) pa_nil)))))), ?_⟩
    have zc := Z.cl
    have z1 := Z.n_terms
    have hxl := ht.len
    have hyl := hu.len
    and_intros
    intro D hD
    refine lc_it (walk_tup (xs := xs)) (fun i H' => ∃ ys : List V, H' D = some (.lst ys) ∧ Same H H' ∧ TsA H' ys ((a.take i).map fun t => (t.1, t.2 + fac b t.1))) ⟨[], upd_same, sNew (Same.refl H) hD, .nil⟩ (fun i H' _ ⟨_, _, s, _⟩ => SqT.of (s _ _ htp)) ?_ ?_
    · rintro i x H1 H2 hi ⟨ys, hy, s1, hT⟩ ⟨rfl, hx⟩
      obtain ⟨t, hti, c, rfl, hc⟩ := (ht.same s1).get (i := i) hx
      have hys := hT.len
      rw [List.length_map, List.length_take] at hys
      refine ⟨rfl, _, rfl, c, _, 0, _, rfl, rfl, SqT.of hc, rfl, _, rfl, c, _, 1, _, rfl, rfl, SqT.of hc, rfl, _, rfl, c, _, 2, _, rfl, rfl, SqT.of hc, rfl, _, rfl, q, dy, _, rfl, s1 _ _ hq, rfl, _, rfl, c, _, 0, _, rfl, rfl, SqT.of hc, rfl, _, rfl, c, _, 1, _, rfl, rfl, SqT.of hc, rfl, q, b, t.1, rfl, MeAt.same s1 ⟨dy, tq, ys0, hq, htq, hu⟩, by omega, hoa t (List.mem_of_getElem? hti), hob, fun H3 s3 => ?_⟩
      have hD3 := s3 _ _ hy
      refine ⟨_, _, rfl, rfl, (show 3 ≤ sizeLine by decide), fun e he => ?_⟩
      have s4 := sNew (o := .tup (tmV (t.1, t.2 + fac b t.1))) s3 he
      have hy4 := s4 _ _ hy
      have he4 : upd H3 e (.tup (tmV (t.1, t.2 + fac b t.1))) e = some (.tup (tmV (t.1, t.2 + fac b t.1))) := upd_same
      refine ⟨_, hy4, by rw [sizeLine_eq]; omega, ys ++ [.ref e], upd_same, sMut (s1.trans s4) hD, ?_⟩
      rw [map_tk (f := fun t => (t.1, t.2 + fac b t.1)) hti]
      exact ((hT.same s4).mut hy4).snoc (TmAt.mut hy4 ⟨e, rfl, he4⟩)
    · rintro H1 ⟨ys, hy, s1, hT⟩
      rw [List.take_of_length_le (by omega)] at hT
      have hq1 := s1 _ _ hq
      refine ⟨_, rfl, q, _, _, _, _, rfl, hq1, zc, z1, rfl, tq, rfl, ⟨_, SqT.of (s1 _ _ htq)⟩, ?_⟩
      refine for_it (walk_tup (xs := ys0)) (fun i σ H' => ∃ (ys : List V) (u : Option V), σ = [some (.ref p), some (.ref q), some (.ref D), u] ∧ H' D = some (.lst ys) ∧ Same H H' ∧ TsA H' ys ((a.map fun t => (t.1, t.2 + fac b t.1)) ++ (b.take i).filter fun t => decide (fac a t.1 = 0))) ⟨ys, none, rfl, hy, s1, by simpa using hT⟩ (fun i σ H' _ ⟨_, _, _, _, s, _⟩ => SqT.of (s _ _ htq)) ?_ ?_
      · rintro i x σ H2 H3 hi ⟨ys2, u, rfl, hy2, s2, hT2⟩ ⟨rfl, hx⟩
        obtain ⟨t, hti, c, rfl, hc⟩ := (hu.same s2).get (i := i) hx
        have hys := hT2.len
        have hlf : ((b.take i).filter fun t => decide (fac a t.1 = 0)).length ≤ b.length := Nat.le_trans (List.length_filter_le _ _) (by rw [List.length_take]; omega)
        rw [List.length_append, List.length_map] at hys
        have ef := filter_takeP (p := fun t : Bm × Int => decide (fac a t.1 = 0)) hti
        refine ⟨_, rfl, p, dx, _, rfl, s2 _ _ hp, rfl, _, rfl, c, _, 0, _, rfl, rfl, SqT.of hc, rfl, _, rfl, c, _, 1, _, rfl, rfl, SqT.of hc, rfl, p, a, t.1, rfl, MeAt.same s2 ⟨dx, tp, xs, hp, htp, ht⟩, by omega, hob t (List.mem_of_getElem? hti), hoa, fun H4 s4 => ?_⟩
        refine ⟨rfl, _, rfl, ?_⟩
        rw [dI]
        refine if2 (fun c2 => ?_) (fun c2 => ?_)
        · rw [if_pos c2] at ef
          have hy4 := s4 _ _ hy2
          refine ⟨_, rfl, tyL hy4, _, rfl, D, ys2, _, rfl, rfl, hy4, by rw [sizeLine_eq]; omega, ?_⟩
          refine ⟨ys2 ++ [.ref c], _, rfl, upd_same, sMut (s2.trans s4) hD, ?_⟩
          rw [ef, ← List.append_assoc]
          exact ((hT2.same s4).mut hy4).snoc (TmAt.mut hy4 ⟨c, rfl, s4 _ _ hc⟩)
        · have c2' : ¬ decide (fac a t.1 = 0) = true := by rw [c2]; simp
          rw [if_neg c2', List.append_nil] at ef
          refine ⟨ys2, _, rfl, s4 _ _ hy2, s2.trans s4, ?_⟩
          rw [ef]
          exact hT2.same s4
      · rintro σ H2 ⟨ys2, u, rfl, hy2, s2, hT2⟩
        rw [List.take_of_length_le (by omega)] at hT2
        refine ⟨_, rfl, me_mk hy2 hT2 ?_ fun H' m s4 hm M => kq H' m (s2.trans s4) M⟩
        rw [List.length_append, List.length_map]
        have := List.length_filter_le (fun t : Bm × Int => decide (fac a t.1 = 0)) b
        omega
abbrev s_Measure___rmul__ : Stmt := inClass (top 13) 14
theorem sc_Measure___rmul__ : FnScope ["self", "factor", "term"] ["self", "factor"] (defScope s_Measure___rmul__) := ⟨rfl, rfl, rfl, by decide +kernel, rfl, by decide +kernel, by decide +kernel⟩
theorem ok_Measure___rmul__ (T : TX K mg) (Z : TMe K) (k_Measure_1 : KMap P w K mg base 1 "Measure" (ga K "Measure") (spMeI K) []) {f : Addr} {fd : FuncData} (F : FunD K "__rmul__" "Measure.__rmul__" (defArgs s_Measure___rmul__) (defBody s_Measure___rmul__) (defScope s_Measure___rmul__) [] [] f fd) : FnOk P w K mg base (CX P w) 3 f fd ["self", "factor"] (spMeMul K) := by
  refine F.ok sc_Measure___rmul__ (fun vs H Q E h => ?_) (fun cdv A outer s H vs Q E hr h => ?_)
  · obtain ⟨p, a, n, rfl, _⟩ := h
    rfl
  · obtain ⟨p, a, n, rfl, ⟨dx, tp, xs, hp, htp, ht⟩, hn, hcm, kq⟩ := h
    refine ⟨_, (pss_one (ps_ret (kmap k_Measure_1 hr (by decide) rfl (pa_cons (pe_lc (own := [("term", 2)]) rfl sc_Measure___rmul__.nd (pi_tup (pe_fld (pv 0) rfl)) (blkOk_by (own := [("term", 2)]) (N := ["self", "factor", "term"]) (sc := defScope s_Measure___rmul__) (by decide +kernel)) (fun _ _ _ _ _ => (pg_name (i := 2) sc_Measure___rmul__.nd rfl (Or.inl rfl))) (fun _ _ _ _ _ => pts_nil) (fun _ _ _ _ _ => (pe_tup (pa_cons (pe_ix (ix_tupK (K := K) rfl) (pv 2) pe_int (fun _ _ => rfl)) (pa_cons (pe_ix (ix_tupK (K := K) rfl) (pv 2) pe_int (fun _ _ => rfl)) (pa_cons (pe_op op_mul (pe_ix (ix_tupK (K := K) rfl) (pv 2) pe_int (fun _ _ => rfl)) (pv 1)) pa_nil)))))) pa_nil)))), ?_⟩
    have zc := Z.cl
    have z1 := Z.n_terms
    have hxl := ht.len
    and_intros
    intro D hD
    refine lc_it (walk_tup (xs := xs)) (fun i H' => ∃ ys : List V, H' D = some (.lst ys) ∧ Same H H' ∧ TsA H' ys (facM (a.take i) n)) ⟨[], upd_same, sNew (Same.refl H) hD, .nil⟩ (fun i H' _ ⟨_, _, s, _⟩ => SqT.of (s _ _ htp)) ?_ ?_
    · rintro i x H1 H2 hi ⟨ys, hy, s1, hT⟩ ⟨rfl, hx⟩
      obtain ⟨t, hti, c, rfl, hc⟩ := (ht.same s1).get (i := i) hx
      have hys := hT.len
      rw [List.length_map, List.length_take] at hys
      refine ⟨rfl, _, rfl, c, _, 0, _, rfl, rfl, SqT.of hc, rfl, _, rfl, c, _, 1, _, rfl, rfl, SqT.of hc, rfl, _, rfl, c, _, 2, _, rfl, rfl, SqT.of hc, rfl, _, rfl, _, _, rfl, rfl, hcm t (List.mem_of_getElem? hti), (show 3 ≤ sizeLine by decide), fun e he => ?_⟩
      have s4 := sNew (o := .tup (tmV (t.1, t.2 * n))) (Same.refl H2) he
      have hy4 := s4 _ _ hy
      have he4 : upd H2 e (.tup (tmV (t.1, t.2 * n))) e = some (.tup (tmV (t.1, t.2 * n))) := upd_same
      refine ⟨_, hy4, by rw [sizeLine_eq]; omega, ys ++ [.ref e], upd_same, sMut (s1.trans s4) hD, ?_⟩
      rw [show facM (a.take (i + 1)) n = facM (a.take i) n ++ [(t.1, t.2 * n)] from map_tk hti]
      exact ((hT.same s4).mut hy4).snoc (TmAt.mut hy4 ⟨e, rfl, he4⟩)
    · rintro H1 ⟨ys, hy, s1, hT⟩
      rw [List.take_of_length_le (by omega)] at hT
      exact me_mk hy hT (by rw [List.length_map]; exact hn) fun H' m s4 hm M => kq H' m (s1.trans s4) M
def spMeSub (K : PySem.W.Frag) : Sp := fun vs H Q _ => ∃ (p q : Addr) (a b : Tms), vs = [.ref p, .ref q] ∧ MeAt K H p a ∧ MeAt K H q b ∧ a.length ≤ 400 ∧ b.length ≤ 400 ∧ (∀ t ∈ a, t.1.ok) ∧ (∀ t ∈ b, t.1.ok) ∧ ∀ H' m, Same H H' → MeAt K H' m (srt tmD (facP a (srt tmD (facN b)))) → Q (.ref m) H'
abbrev s_Measure___sub__ : Stmt := inClass (top 13) 11
theorem sc_Measure___sub__ : FnScope ["self", "other"] ["self", "other"] (defScope s_Measure___sub__) := ⟨rfl, rfl, rfl, by decide +kernel, rfl, by decide +kernel, by decide +kernel⟩
theorem ok_Measure___sub__ (T : TX K mg) (o_Measure : IntMul K (ga K "Measure")) (m_Measure___neg__ : KMet P w K mg base 3 (ga K "Measure") "__neg__" (spMeNeg K)) (m_Measure___add__ : KMet P w K mg base 3 (ga K "Measure") "__add__" (spMeAdd K)) {f : Addr} {fd : FuncData} (F : FunD K "__sub__" "Measure.__sub__" (defArgs s_Measure___sub__) (defBody s_Measure___sub__) (defScope s_Measure___sub__) [] [] f fd) : FnOk P w K mg base (CX P w) 4 f fd ["self", "other"] (spMeSub K) := by
  refine F.ok sc_Measure___sub__ (fun vs H Q E h => ?_) (fun cdv A outer s H vs Q E hr h => ?_)
  · obtain ⟨p, q, a, b, rfl, _⟩ := h
    rfl
  · obtain ⟨p, q, a, b, rfl, M1, M2, hna, hnb, hoa, hob, kq⟩ := h
    refine ⟨_, (pss_one (ps_ret (pe_OO m_Measure___add__ o_Measure.sf (takes_of rfl rfl rfl rfl) hr (by decide) (pv 0) (pe_negO m_Measure___neg__ (takes_of rfl rfl rfl rfl) hr (by decide) (pv 1))))), ?_⟩
    obtain ⟨dx, tp, xs, hp, htp, ht⟩ := id M1
    obtain ⟨dy, tq, ys, hq, htq, hu⟩ := id M2
    refine ⟨_, rfl, _, rfl, q, dy, _, rfl, hq, q, b, rfl, M2, by omega, fun H1 m s1 M3 => ?_⟩
    obtain ⟨dz, tr, zs, hm, htr, hv⟩ := id M3
    refine ⟨p, m, dx, _, dz, _, rfl, rfl, s1 _ _ hp, hm, p, m, a, _, rfl, M1.same s1, M3, hna, Nat.le_trans (srt_len _ _) (by rw [List.length_map]; exact hnb), hoa, ?_, fun H2 m2 s2 M4 => kq H2 m2 (s1.trans s2) M4⟩
    intro t h
    obtain ⟨u, hu2, rfl⟩ := List.mem_map.mp (srt_sub h)
    exact hob u hu2
structure MsOf (L : Nat) (ts r : Tms) : Prop where
  nf : Nf tmD ts
  ok : ∀ t ∈ ts, t.1.ok
  len : ts.length ≤ L
  fa : ∀ k, fac ts k = fac r k
theorem fac_mapN (a : Tms) (k : Bm) : fac (facN a) k = -fac a k := by
  induction a with
  | nil => rfl
  | cons t a ih =>
    show (if t.1 = k then -t.2 else 0) + fac (facN a) k = -((if t.1 = k then t.2 else 0) + fac a k)
    rw [ih]
    split <;> omega
theorem fac_mapM (a : Tms) (n : Int) (k : Bm) : fac (facM a n) k = fac a k * n := by
  induction a with
  | nil => simp [fac]
  | cons t a ih =>
    show (if t.1 = k then t.2 * n else 0) + fac (facM a n) k = ((if t.1 = k then t.2 else 0) + fac a k) * n
    rw [ih, Int.add_mul]
    split <;> simp
theorem keys_map (a : Tms) (f : Bm × Int → Int) : (a.map fun t => (t.1, f t)).map (·.1) = a.map (·.1) := by
  rw [List.map_map]; rfl
theorem fac_mapG {a : Tms} (hn : (a.map (·.1)).Nodup) (g : Bm → Int) (k : Bm) : fac (a.map fun t => (t.1, t.2 + g t.1)) k = if k ∈ a.map (·.1) then fac a k + g k else 0 := by
  by_cases h : k ∈ a.map (·.1)
  · rw [if_pos h]
    obtain ⟨t, ht, rfl⟩ := List.mem_map.mp h
    have h1 := fac_in hn ht
    have h2 := fac_in (a := a.map fun t => (t.1, t.2 + g t.1)) (by rw [keys_map a (fun t => t.2 + g t.1)]; exact hn) (t := (t.1, t.2 + g t.1)) (List.mem_map.mpr ⟨t, ht, rfl⟩)
    rw [h1]
    exact h2
  · rw [if_neg h]
    exact fac_out (by rw [keys_map a (fun t => t.2 + g t.1)]; exact h)
theorem fac_fil (b : Tms) (p : Bm → Bool) (k : Bm) : fac (b.filter fun t => p t.1) k = if p k = true then fac b k else 0 := by
  induction b with
  | nil => simp [fac]
  | cons t b ih =>
    by_cases h : p t.1 = true
    · rw [List.filter_cons, if_pos h]
      show (if t.1 = k then t.2 else 0) + fac _ k = if p k = true then (if t.1 = k then t.2 else 0) + fac b k else 0
      rw [ih]
      by_cases e : t.1 = k
      · subst e; simp [h]
      · simp [e]
    · rw [List.filter_cons, if_neg h, ih]
      show _ = if p k = true then (if t.1 = k then t.2 else 0) + fac b k else 0
      by_cases e : t.1 = k
      · subst e; simp [h]
      · simp [e]
theorem nf_key {D : Bm × Int → PyData} {a : Tms} (n : Nf D a) (k : Bm) : k ∈ a.map (·.1) ↔ fac a k ≠ 0 := by
  constructor
  · intro h
    obtain ⟨t, ht, rfl⟩ := List.mem_map.mp h
    rw [fac_in n.nd ht]
    exact n.nz t ht
  · intro h
    by_cases q : k ∈ a.map (·.1)
    · exact q
    · exact absurd (fac_out q) h
theorem fac_P {D : Bm × Int → PyData} {a b : Tms} (na : Nf D a) (k : Bm) : fac (facP a b) k = fac a k + fac b k := by
  rw [fac_app, fac_mapG na.nd (fac b) k, fac_fil b (fun l => decide (fac a l = 0)) k]
  by_cases h : fac a k = 0
  · rw [if_neg (fun q => (nf_key na k).mp q h), if_pos (by simp [h]), h]
  · rw [if_pos ((nf_key na k).mpr h), if_neg (by simp [h])]; omega
theorem nd_P {D : Bm × Int → PyData} {a b : Tms} (na : Nf D a) (nb : Nf D b) : ((facP a b).map (·.1)).Nodup := by
  rw [List.map_append, keys_map a (fun t => t.2 + fac b t.1)]
  refine List.nodup_append.mpr ⟨na.nd, (List.filter_sublist.map _).nodup nb.nd, fun x hx y hy => ?_⟩
  obtain ⟨t, ht, rfl⟩ := List.mem_map.mp hy
  have := (List.mem_filter.mp ht).2
  have h0 : fac a t.1 = 0 := by simpa using this
  intro e
  subst e
  exact (nf_key na _).mp hx h0
theorem ok_srt {D : Bm × Int → PyData} {a : Tms} (h : ∀ t ∈ a, t.1.ok) : ∀ t ∈ srt D a, t.1.ok := fun t q => h t (srt_sub q)
theorem MsOf.pl {L M : Nat} {a b r s : Tms} (ha : MsOf L a r) (hb : MsOf M b s) : MsOf (L + M) (srt tmD (facP a b)) (r ++ s) := by
  refine ⟨srt_gd _ (nd_P ha.nf hb.nf), ok_srt fun t ht => ?_, Nat.le_trans (srt_len _ _) ?_, fun k => by rw [fac_srt, fac_P ha.nf, fac_app, ha.fa, hb.fa]⟩
  · rcases List.mem_append.mp ht with h | h
    · obtain ⟨u, hu, rfl⟩ := List.mem_map.mp h
      exact ha.ok u hu
    · exact hb.ok t (List.mem_filter.mp h).1
  · rw [List.length_append, List.length_map]
    have := List.length_filter_le (fun t : Bm × Int => decide (fac a t.1 = 0)) b
    have h1 := ha.len
    have h2 := hb.len
    omega
theorem MsOf.ng {L : Nat} {a r : Tms} (ha : MsOf L a r) : MsOf L (srt tmD (facN a)) (facN r) := by
  refine ⟨srt_gd _ (by rw [keys_map a (fun t => -t.2)]; exact ha.nf.nd), ok_srt fun t ht => ?_, Nat.le_trans (srt_len _ _) (by rw [List.length_map]; exact ha.len), fun k => by rw [fac_srt, fac_mapN, fac_mapN, ha.fa]⟩
  obtain ⟨u, hu, rfl⟩ := List.mem_map.mp ht
  exact ha.ok u hu
theorem MsOf.ml {L : Nat} {a r : Tms} (n : Int) (ha : MsOf L a r) : MsOf L (srt tmD (facM a n)) (facM r n) := by
  refine ⟨srt_gd _ (by rw [keys_map a (fun t => t.2 * n)]; exact ha.nf.nd), ok_srt fun t ht => ?_, Nat.le_trans (srt_len _ _) (by rw [List.length_map]; exact ha.len), fun k => by rw [fac_srt, fac_mapM, fac_mapM, ha.fa]⟩
  obtain ⟨u, hu, rfl⟩ := List.mem_map.mp ht
  exact ha.ok u hu
theorem ms_of {L : Nat} {r : Tms} (hn : (r.map (·.1)).Nodup) (ho : ∀ t ∈ r, t.1.ok) (hl : r.length ≤ L) : MsOf L (srt tmD r) r :=
  ⟨srt_gd _ hn, ok_srt ho, Nat.le_trans (srt_len _ _) hl, fun k => fac_srt _ _ k⟩
theorem ms_1 {k : Bm} (h : k.ok) : MsOf 1 (srt tmD [(k, 1)]) [(k, 1)] := ms_of (by simp) (by simpa using h) (Nat.le_refl _)
theorem ms_0 : MsOf 0 (srt tmD []) [] := ms_of (by simp) (by simp) (Nat.le_refl _)
theorem MsOf.cast {L M : Nat} {ts r s : Tms} (h : MsOf L ts r) (hl : L ≤ M) (hf : ∀ k, fac r k = fac s k) : MsOf M ts s := ⟨h.nf, h.ok, Nat.le_trans h.len hl, fun k => (h.fa k).trans (hf k)⟩
theorem ms_eq {L M : Nat} {a b r s : Tms} (ha : MsOf L a r) (hb : MsOf M b s) : (a = b) ↔ ∀ k, fac r k = fac s k := by
  constructor
  · intro e k
    rw [← ha.fa, ← hb.fa, e]
  · intro h
    exact gd_eq tm_inj ha.nf hb.nf fun k => by rw [ha.fa, hb.fa, h]
theorem sgn_nodup : sgn.Nodup := by decide +kernel
theorem ms_ones (s : List Nat) : MsOf 95 (srt tmD (onesM s)) (onesM s) := by
  refine ms_of ?_ (fun t ht => ?_) (by rw [List.length_map]; exact asc_len s)
  · rw [List.map_map]
    have h1 : (asc s).Nodup := List.filter_sublist.nodup sgn_nodup
    have : ((fun x : Bm × Int => x.1) ∘ fun c => (Bm.sg c, (1 : Int))) = Bm.sg := rfl
    rw [this]
    exact List.Pairwise.map _ (fun a b h z => h (by injection z)) h1
  · obtain ⟨c, hc, rfl⟩ := List.mem_map.mp ht
    exact (List.mem_filter.mp hc).1
theorem fac_ones (s : List Nat) (k : Bm) : fac (onesM s) k = match k with | .sg c => if c ∈ sgn ∧ c ∈ s then 1 else 0 | _ => 0 := by
  have hm := ms_ones s
  have h1 : ((onesM s).map (·.1)).Nodup := by
    have h1 : (asc s).Nodup := List.filter_sublist.nodup sgn_nodup
    rw [List.map_map]
    exact List.Pairwise.map _ (fun a b h z => h (by injection z)) h1
  cases k with
  | sg c =>
    show fac (onesM s) (Bm.sg c) = if c ∈ sgn ∧ c ∈ s then 1 else 0
    by_cases h : c ∈ sgn ∧ c ∈ s
    · rw [if_pos h]
      exact fac_in h1 (t := (.sg c, 1)) (List.mem_map.mpr ⟨c, List.mem_filter.mpr ⟨h.1, by simp [h.2]⟩, rfl⟩)
    · rw [if_neg h]
      refine fac_out fun q => h ?_
      obtain ⟨t, ht, e⟩ := List.mem_map.mp q
      obtain ⟨d, hd, rfl⟩ := List.mem_map.mp ht
      injection e with e
      subst e
      have := List.mem_filter.mp hd
      exact ⟨this.1, by simpa using this.2⟩
  | _ =>
    refine fac_out fun q => ?_
    obtain ⟨t, ht, e⟩ := List.mem_map.mp q
    obtain ⟨d, hd, rfl⟩ := List.mem_map.mp ht
    cases e
theorem fac_abs {r : Tms} (h : ∀ t ∈ r, -3 ≤ t.2 ∧ t.2 ≤ 3) (k : Bm) : -(3 * (r.length : Int)) ≤ fac r k ∧ fac r k ≤ 3 * (r.length : Int) := by
  induction r with
  | nil => simp [fac]
  | cons t r ih =>
    have h1 := ih fun u hu => h u (.tail _ hu)
    have h2 := h t (.head _)
    simp only [fac, List.length_cons]
    split <;> omega
theorem ms_small {L : Nat} {a r : Tms} (ha : MsOf L a r) (h : ∀ t ∈ r, -3 ≤ t.2 ∧ t.2 ≤ 3) (hl : r.length ≤ 10) (n : Int) : ∀ t ∈ a, CMul t.2 n := fun t ht => by
  have h1 := fac_in ha.nf.nd ht
  have h2 := fac_abs h t.1
  rw [ha.fa] at h1
  rw [h1] at h2
  exact .inl ⟨by omega, by omega⟩
def spTake : Sp := fun vs H Q _ => ∃ (b l : Addr) (n : Int), vs = [.ref b, .int n] ∧ Box H b l ∧ 0 < n ∧ n ≤ 2 ^ 100 ∧ ∀ (H' : Hp) (r : Int), Kp [b, l] H H' → Box H' b l → 0 ≤ r → r < n → Q (.int r) H'
abbrev s_take : Stmt := top 17
theorem sc_take : FnScope ["_law_box_here", "_law_size", "_law_cell", "_law_digit"] ["_law_box_here", "_law_size"] (defScope s_take) := ⟨rfl, rfl, rfl, by decide +kernel, rfl, by decide +kernel, by decide +kernel⟩
theorem ok_take (T : TX K mg) {f : Addr} {fd : FuncData} (F : FnP K "_law_take" s_take f fd) : FnOk P w K mg base (CX P w) 1 f fd ["_law_box_here", "_law_size"] spTake := by
  refine F.ok sc_take (fun vs H Q E h => ?_) (fun cdv A outer s H vs Q E hr h => ?_)
  · obtain ⟨b, l, n, rfl, _⟩ := h
    rfl
  · obtain ⟨b, l, n, rfl, B, hn, hn2, k⟩ := h
    obtain ⟨ne, cs, x, y, hb, hl, hx, hy, hy2⟩ := B
    refine ⟨_, (C8.pss_cut (ps_if (PW.pt (pw_and (pt_cmpR op_eq (pe_ix ix_list (pv 0) pe_int (fun _ _ => rfl)) pe_int (nomark _)) (pw_and1 (pt_cmpR (op_neD hr.units) (pe_ix ix_list (pv 0) pe_int (fun _ _ => rfl)) (pe_lst pa_nil) (nomark _))))) (pss_cons (ps_set (i := 2) sc_take.nd rfl (Or.inl rfl) (pe_bm PySem.F.plainAttrs_list PySem.F.slot_list_pop PySem.F.type_list_pop mt_popAt (pe_ix ix_list (pv 0) pe_int (fun _ _ => rfl)) (pa_cons pe_int pa_nil))) (pss_one (ps_if (pt_cmpR op_ge (pv 2) (pe_op op_pow pe_int pe_int) (nomark _)) (pss_one (ps_asg (pe_op op_sub (pv 2) (pe_op op_pow pe_int pe_int)) (pg_sub (pv 0) pe_int set_list))) (pss_one (ps_asg (pe_op op_mod (pe_callTy call_int1 (by rfl) T.b_int (by decide +kernel) (pa_cons (pe_op op_add (pe_op op_mul (pe_ix ix_list (pv 0) pe_int (fun _ _ => rfl)) pe_int) (pe_op op_mul (pv 2) pe_int)) pa_nil)) pe_int) (pg_sub (pv 0) pe_int set_list)))))) pss_nil) (pss_cons (ps_if (pt_cmpR op_gt (pe_ix ix_list (pv 0) pe_int (fun _ _ => rfl)) pe_int (nomark _)) (pss_cons (ps_set (i := 3) sc_take.nd rfl (Or.inl rfl) (pe_op op_mod (pe_callTy call_int1 (by rfl) T.b_int (by decide +kernel) (pa_cons (pe_ix ix_list (pv 0) pe_int (fun _ _ => rfl)) pa_nil)) (pv 1))) (pss_cons (ps_asg (pe_op op_fdivW (pe_ix ix_list (pv 0) pe_int (fun _ _ => rfl)) (pv 1)) (pg_sub (pv 0) pe_int set_list)) (pss_one (ps_ret (pv 3))))) pss_nil) (pss_cons (ps_asg (pe_op op_mod (pe_callTy call_int1 (by rfl) T.b_int (by decide +kernel) (pa_cons (pe_op op_mul (pe_ix ix_list (pv 0) pe_int (fun _ _ => rfl)) pe_int) pa_nil)) pe_int) (pg_sub (pv 0) pe_int set_list)) (pss_one (ps_ret (pe_op op_mod (pe_callTy call_int1 (by rfl) T.b_int (by decide +kernel) (pa_cons (pe_op op_fdivW (pe_ix ix_list (pv 0) pe_int (fun _ _ => rfl)) pe_int) pa_nil)) (pv 1))))))), ?_⟩
    refine ⟨fun σ' H' => ∃ (u v : Option V) (cs : List Int) (x y : Int), σ' = [some (.ref b), some (.int n), u, v] ∧ Kp [b, l] H H' ∧ H' b = some (.lst [.ref l, .int x, .int y]) ∧ H' l = some (.lst (cs.map V.int)) ∧ 0 ≤ x ∧ 0 ≤ y ∧ y < 2147483647, ?_, ?_⟩
    · refine ⟨_, rfl, b, _, 1, _, rfl, rfl, SqL.of hb, rfl, rfl, _, rfl, ?_⟩
      refine if2 (fun c => ?_) (fun c => ?_)
      · rw [dI] at c
        have x0 : x = 0 := of_decide_eq_true c
        refine ⟨_, rfl, b, _, 0, _, rfl, rfl, SqL.of hb, rfl, Nat.zero_le _, fun p hp => ?_⟩
        have nl : l ≠ p := ne_of_none hl hp
        have nb : b ≠ p := ne_of_none hb hp
        cases cs with
        | nil =>
          refine ⟨_, _, .lst (SqL.of (by rw [upd_ne nl]; exact hl)) .nil, .lst (SqL.of upd_same) .nil, rfl, rfl, _, rfl, ?_⟩
          refine iff' (by rfl) ?_
          exact ⟨none, none, [], x, y, rfl, Kp.refl.new hp, by rw [upd_ne nb]; exact hb, by rw [upd_ne nl]; exact hl, hx, hy, hy2⟩
        | cons c0 cs =>
          refine ⟨_, _, .lst (SqL.of (by rw [upd_ne nl]; exact hl)) (dpInts (c0 :: cs)), .lst (SqL.of upd_same) .nil, shInts (c0 :: cs), rfl, _, rfl, ?_⟩
          refine ift (by rfl) ?_
          refine ⟨_, rfl, b, _, 0, _, rfl, rfl, SqL.of (by rw [upd_ne nb]; exact hb), rfl, tyL (by rw [upd_ne nl]; exact hl), ?_⟩
          refine ⟨l, _, 0, 0, .int c0, rfl, rfl, (by rw [upd_ne nl]; exact hl), by decide, by decide, six0 (by simp), rfl, ?_⟩
          have hb1 : upd (upd H p (.lst [])) l (.lst (cs.map V.int)) b = some (.lst [.ref l, .int x, .int y]) := by rw [upd_ne ne, upd_ne nb]; exact hb
          have hl1 : upd (upd H p (.lst [])) l (.lst (cs.map V.int)) l = some (.lst (cs.map V.int)) := upd_same
          have k1 : Kp [b, l] H (upd (upd H p (.lst [])) l (.lst (cs.map V.int))) := (Kp.refl.new hp).upd (by simp)
          refine ⟨_, rfl, 10, 18, rfl, rfl, ⟨by decide, by decide, by decide⟩, _, _, rfl, rfl, _, rfl, ?_⟩
          refine if2 (fun c => ?_) (fun c => ?_)
          · have hc : (10 : Int) ^ 18 ≤ c0 := of_decide_eq_true c
            refine ⟨_, rfl, 10, 18, rfl, rfl, ⟨by decide, by decide, by decide⟩, _, _, rfl, rfl, _, rfl, b, _, 1, 1, rfl, rfl, hb1, rfl, ?_⟩
            exact ⟨_, none, cs, _, y, rfl, k1.upd (by simp), upd_same, by rw [upd_ne ne.symm]; exact hl1, (show (0 : Int) ≤ c0 - 10 ^ 18 by omega), hy, hy2⟩
          · refine ⟨_, rfl, b, _, 2, _, rfl, rfl, SqL.of hb1, rfl, _, _, rfl, rfl, .inr ⟨by decide, by decide⟩, _, rfl, _, _, rfl, rfl, .inr ⟨by decide, by decide⟩, _, _, rfl, rfl, .inl ⟨_, rfl, _, _, rfl, rfl, (show (0 : Int) < 2147483647 by decide), _, rfl, b, _, 2, 2, rfl, rfl, hb1, rfl, ?_⟩⟩
            exact ⟨_, none, cs, x, _, rfl, k1.upd (by simp), upd_same, by rw [upd_ne ne.symm]; exact hl1, hx, Int.emod_nonneg _ (by decide), Int.emod_lt_of_pos _ (by decide)⟩
      · refine iff' rfl ?_
        exact ⟨none, none, cs, x, y, rfl, Kp.refl, hb, hl, hx, hy, hy2⟩
    · rintro σ' H' ⟨u, v, cs, x, y, rfl, kp, hb, hl, hx, hy, hy2⟩
      refine ⟨_, rfl, b, _, 1, _, rfl, rfl, SqL.of hb, rfl, _, _, rfl, rfl, _, rfl, ?_⟩
      refine if2 (fun c => ?_) (fun c => ?_)
      · have hc : (0 : Int) < x := of_decide_eq_true c
        refine ⟨_, rfl, b, _, 1, _, rfl, rfl, SqL.of hb, rfl, .inl ⟨_, rfl, _, rfl, _, _, rfl, rfl, hn, ?_⟩⟩
        refine ⟨_, rfl, b, _, 1, _, rfl, rfl, SqL.of hb, rfl, _, rfl, _, _, rfl, rfl, wide_div (b := 200) hn ?_ (by decide) (by decide), _, rfl, b, _, 1, 1, rfl, rfl, hb, rfl, _, rfl, ?_⟩
        · omega
        · exact k _ _ (kp.upd (by simp)) ⟨ne, cs, _, y, upd_same, by rw [upd_ne ne.symm]; exact hl, Int.ediv_nonneg hx (by omega), hy, hy2⟩ (Int.emod_nonneg _ (by omega)) (Int.emod_lt_of_pos _ hn)
      · refine ⟨_, rfl, b, _, 2, _, rfl, rfl, SqL.of hb, rfl, _, _, rfl, rfl, .inr ⟨by decide, by decide⟩, .inl ⟨_, rfl, _, _, rfl, rfl, (show (0 : Int) < 2147483647 by decide), _, rfl, b, _, 2, 2, rfl, rfl, hb, rfl, ?_⟩⟩
        refine ⟨_, rfl, b, _, 2, _, rfl, rfl, SqL.of upd_same, rfl, _, _, rfl, rfl, ⟨by decide, by decide⟩, .inl ⟨_, rfl, _, rfl, _, _, rfl, rfl, hn, ?_⟩⟩
        exact k _ _ (kp.upd (by simp)) ⟨ne, cs, x, _, upd_same, by rw [upd_ne ne.symm]; exact hl, hx, Int.emod_nonneg _ (by decide), Int.emod_lt_of_pos _ (by decide)⟩ (Int.emod_nonneg _ (by omega)) (Int.emod_lt_of_pos _ hn)
def spSigns : Sp := fun vs H Q _ => vs = [] ∧ Q (.str (S sgn)) H
abbrev s_signs : Stmt := top 15
theorem sc_signs : FnScope ["_law_signs_here"] [] (defScope s_signs) := ⟨rfl, rfl, rfl, by decide +kernel, rfl, by decide +kernel, by decide +kernel⟩
theorem ok_signs  {f : Addr} {fd : FuncData} (F : FunD K "_law_signs" "_law_signs" (defArgs s_signs) (defBody s_signs) (defScope s_signs) [] [] f fd) : FnOk P w K mg base (CX P w) 1 f fd [] spSigns := by
  refine F.ok sc_signs (fun vs H Q E h => ?_) (fun cdv A outer s H vs Q E hr h => ?_)
  · obtain ⟨rfl, _⟩ := h
    rfl
  · obtain ⟨rfl, k⟩ := h
    refine ⟨_, (pss_cons (ps_set (i := 0) sc_signs.nd rfl (Or.inl rfl) (pe_strS [10, 32, 33, 34, 35, 36, 38, 39, 40, 41, 42, 43, 44, 45, 46, 47, 48, 49, 50, 51, 52, 53, 54, 55, 56, 57, 58, 59, 60, 61, 62, 63, 64, 65, 66, 67, 68, 69, 70, 71, 72, 73, 74, 75, 76, 77, 78, 79, 80, 81, 82, 83, 84, 85, 86, 87, 88, 89, 90, 91, 92, 93, 94, 95, 96] (by decide +kernel))) (pss_one (ps_ret (pe_op op_addS (pv 0) (pe_strS [97, 98, 99, 100, 101, 102, 103, 104, 105, 106, 107, 108, 109, 110, 111, 112, 113, 114, 115, 116, 117, 118, 119, 120, 121, 122, 123, 124, 125, 126] (by decide +kernel)))))), ?_⟩
    exact ⟨_, rfl, _, _, rfl, rfl, by decide, k⟩
def spBox (K : PySem.W.Frag) : Sp := fun vs H Q _ => ∃ (a : Addr) (ns : List Int), vs = [.ref a] ∧ SqL K H a (ns.map V.int) ∧ ∀ H' b l, Same H H' → H b = none → H l = none → Box H' b l → Q (.ref b) H'
abbrev s_box : Stmt := top 16
theorem sc_box : FnScope ["_law_script"] ["_law_script"] (defScope s_box) := ⟨rfl, rfl, rfl, by decide +kernel, rfl, by decide +kernel, by decide +kernel⟩
theorem ok_box (T : TX K mg) {f : Addr} {fd : FuncData} (F : FnP K "_law_box" s_box f fd) : FnOk P w K mg base (CX P w) 1 f fd ["_law_script"] (spBox K) := by
  refine F.ok sc_box (fun vs H Q E h => ?_) (fun cdv A outer s H vs Q E hr h => ?_)
  · obtain ⟨a, ns, rfl, _⟩ := h
    rfl
  · obtain ⟨a, ns, rfl, hS, k⟩ := h
    refine ⟨_, (pss_one (ps_ret (pe_lst (pa_cons (pe_callTy call_list_of (by rfl) T.b_list (by decide +kernel) (pa_cons (pv 0) pa_nil)) (pa_cons pe_int (pa_cons pe_int pa_nil)))))), ?_⟩
    refine ⟨_, rfl, a, _, rfl, .inl hS, fun l hl => ⟨(show 3 ≤ sizeLine by decide), fun b hb => ?_⟩⟩
    have ne : l ≠ b := fun q => by rw [q, upd_same] at hb; cases hb
    have hb' : H b = none := by rw [upd_ne ne.symm] at hb; exact hb
    exact k _ b l (Same.new (Same.new (Same.refl H) hl) hb) hb' hl ⟨ne.symm, ns, 0, 0, upd_same, by rw [upd_ne ne]; exact upd_same, by decide, by decide, by decide⟩
structure RwT (L : Nat) (r : Tms) : Prop where
  len : r.length ≤ L
  ok : ∀ t ∈ r, t.1.ok
  sm : ∀ t ∈ r, -3 ≤ t.2 ∧ t.2 ≤ 3
def RwA (H : Hp) (l : Addr) (r : Tms) : Prop := ∃ xs, H l = some (.lst xs) ∧ TsA H xs r
theorem RwA.same {H H' : Hp} {l : Addr} {r : Tms} (s : Same H H') (h : RwA H l r) : RwA H' l r := by
  obtain ⟨xs, h1, h2⟩ := h
  exact ⟨xs, s _ _ h1, h2.same s⟩
def spLBasic (K : PySem.W.Frag) : Sp := fun vs H Q _ => ∃ k : Bm, vs = [.str (S k.nm), k.dv] ∧ k.ok ∧ ∀ H' m, Same H H' → MeAt K H' m (srt tmD [(k, 1)]) → Q (.ref m) H'
theorem asc_one : ∀ c ∈ sgn, asc [c] = [c] := by decide +kernel
theorem bad_one {c : Nat} (h : c ∈ sgn) : badAt [c] = none := by simp [badAt, h]
abbrev s__law_basic : Stmt := top 20
theorem sc__law_basic : FnScope ["_law_name", "_law_detail"] ["_law_name", "_law_detail"] (defScope s__law_basic) := ⟨rfl, rfl, rfl, by decide +kernel, rfl, by decide +kernel, by decide +kernel⟩
theorem ok__law_basic (T : TX K mg) (k_Measure_1 : KMap P w K mg base 1 "Measure" (ga K "Measure") (spMeI K) []) (cm_Measure_of_length : KCm P w K mg base 3 (ga K "Measure") "of_length" (spMeC K [(.len, 1)])) (cm_Measure_of_presses : KCm P w K mg base 3 (ga K "Measure") "of_presses" (spMeC K [(.pr, 1)])) (cm_Measure_of_ahead : KCm P w K mg base 3 (ga K "Measure") "of_ahead" (spMeC K [(.ah, 1)])) (cm_Measure_of_signs : KCm P w K mg base 4 (ga K "Measure") "of_signs" (spMeS K)) (cm_Measure_of_rounds : KCm P w K mg base 3 (ga K "Measure") "of_rounds" (spMeR K)) {f : Addr} {fd : FuncData} (F : FunD K "_law_basic" "_law_basic" (defArgs s__law_basic) (defBody s__law_basic) (defScope s__law_basic) [] [] f fd) : FnOk P w K mg base (CX P w) 6 f fd ["_law_name", "_law_detail"] (spLBasic K) := by
  refine F.ok sc__law_basic (fun vs H Q E h => ?_) (fun cdv A outer s H vs Q E hr h => ?_)
  · obtain ⟨k, rfl, _⟩ := h
    rfl
  · obtain ⟨k, rfl, hk, kq⟩ := h
    refine ⟨_, (pss_cons (ps_if (pt_cmpR op_eqS (pv 0) (pe_strS [108, 101, 110, 103, 116, 104] (by decide +kernel)) (nomark _)) (pss_one (ps_ret (kcm0 cm_Measure_of_length hr (by decide) (kgC k_Measure_1 rfl)))) pss_nil) (pss_cons (ps_if (pt_cmpR op_eqS (pv 0) (pe_strS [115, 105, 103, 110, 115] (by decide +kernel)) (nomark _)) (pss_one (ps_ret (kcmx cm_Measure_of_signs (takes_of rfl rfl rfl rfl) hr (by decide) (kgC k_Measure_1 rfl) (pa_cons (pv 1) pa_nil)))) pss_nil) (pss_cons (ps_if (pt_cmpR op_eqS (pv 0) (pe_strS [112, 114, 101, 115, 115, 101, 115] (by decide +kernel)) (nomark _)) (pss_one (ps_ret (kcm0 cm_Measure_of_presses hr (by decide) (kgC k_Measure_1 rfl)))) pss_nil) (pss_cons (ps_if (pt_cmpR op_eqS (pv 0) (pe_strS [114, 111, 117, 110, 100, 115] (by decide +kernel)) (nomark _)) (pss_one (ps_ret (kcmx cm_Measure_of_rounds (takes_of rfl rfl rfl rfl) hr (by decide) (kgC k_Measure_1 rfl) (pa_cons (pv 1) pa_nil)))) pss_nil) (pss_one (ps_ret (kcm0 cm_Measure_of_ahead hr (by decide) (kgC k_Measure_1 rfl)))))))), ?_⟩
    refine ⟨_, rfl, _, _, rfl, rfl, _, rfl, ?_⟩
    cases k with
    | len => exact ift rfl ⟨rfl, rfl, kq⟩
    | sg c =>
      refine iff' rfl ⟨_, rfl, _, _, rfl, rfl, _, rfl, ift rfl ?_⟩
      refine ⟨rfl, _, rfl, [c], rfl, fun _ H' a s M => kq H' a s ?_, fun i hi => ?_⟩
      · have e : onesM [c] = [(Bm.sg c, 1)] := by show (asc [c]).map _ = _; rw [asc_one c hk]; rfl
        rw [e] at M
        exact M
      · rw [bad_one hk] at hi
        cases hi
    | pr =>
      exact iff' rfl ⟨_, rfl, _, _, rfl, rfl, _, rfl, iff' rfl ⟨_, rfl, _, _, rfl, rfl, _, rfl, ift rfl ⟨rfl, rfl, kq⟩⟩⟩
    | rd n =>
      refine iff' rfl ⟨_, rfl, _, _, rfl, rfl, _, rfl, iff' rfl ⟨_, rfl, _, _, rfl, rfl, _, rfl, iff' rfl ⟨_, rfl, _, _, rfl, rfl, _, rfl, ift rfl ?_⟩⟩⟩
      refine ⟨rfl, _, rfl, (n : Nat), rfl, fun h => by omega, fun m e H' a s M => kq H' a s ?_⟩
      have e : n = m := by omega
      rw [e]
      exact M
    | ah =>
      exact iff' rfl ⟨_, rfl, _, _, rfl, rfl, _, rfl, iff' rfl ⟨_, rfl, _, _, rfl, rfl, _, rfl, iff' rfl ⟨_, rfl, _, _, rfl, rfl, _, rfl, iff' rfl ⟨rfl, rfl, kq⟩⟩⟩⟩
def spLMeas (K : PySem.W.Frag) : Sp := fun vs H Q _ => ∃ (l : Addr) (r : Tms), vs = [.ref l] ∧ RwA H l r ∧ RwT 3 r ∧ ∀ H' m ts, Same H H' → MeAt K H' m ts → MsOf 3 ts r → Q (.ref m) H'
abbrev s__law_measure : Stmt := top 21
theorem sc__law_measure : FnScope ["_law_terms_here", "_law_whole", "_law_term"] ["_law_terms_here"] (defScope s__law_measure) := ⟨rfl, rfl, rfl, by decide +kernel, rfl, by decide +kernel, by decide +kernel⟩
theorem ok__law_measure (T : TX K mg) (o_Measure : IntMul K (ga K "Measure")) (k_Measure_1 : KMap P w K mg base 1 "Measure" (ga K "Measure") (spMeI K) []) (cm_Measure_of_nothing : KCm P w K mg base 3 (ga K "Measure") "of_nothing" (spMeC K [])) (c__law_basic : KCal P w K mg base 6 "_law_basic" (spLBasic K) []) (m_Measure___add__ : KMet P w K mg base 3 (ga K "Measure") "__add__" (spMeAdd K)) (m_Measure___mul__ : KMet P w K mg base 3 (ga K "Measure") "__mul__" (spMeMul K)) (m_Measure___rmul__ : KMet P w K mg base 3 (ga K "Measure") "__rmul__" (spMeMul K)) {f : Addr} {fd : FuncData} (F : FunD K "_law_measure" "_law_measure" (defArgs s__law_measure) (defBody s__law_measure) (defScope s__law_measure) [] [] f fd) : FnOk P w K mg base (CX P w) 7 f fd ["_law_terms_here"] (spLMeas K) := by
  refine F.ok sc__law_measure (fun vs H Q E h => ?_) (fun cdv A outer s H vs Q E hr h => ?_)
  · obtain ⟨l, r, rfl, _⟩ := h
    rfl
  · obtain ⟨l, r, rfl, ⟨xs, hl, hT⟩, hR, kq⟩ := h
    refine ⟨_, (pss_cons (ps_set (i := 1) sc__law_measure.nd rfl (Or.inl rfl) (kcm0 cm_Measure_of_nothing hr (by decide) (kgC k_Measure_1 rfl))) (pss_cons (ps_for (passes_of rfl) rfl (pi_list (pv 0)) (pg_name (i := 2) sc__law_measure.nd rfl (Or.inl rfl)) (pss_one (ps_set (i := 1) sc__law_measure.nd rfl (Or.inl rfl) (pe_OO m_Measure___add__ o_Measure.sf (takes_of rfl rfl rfl rfl) hr (by decide) (pv 1) (pe_IO m_Measure___rmul__ m_Measure___mul__.fnd o_Measure (takes_of rfl rfl rfl rfl) hr (by decide) (pe_ix ix_tup (pv 2) pe_int (fun _ _ => rfl)) (kc c__law_basic hr (by decide) rfl (pa_cons (pe_ix ix_tup (pv 2) pe_int (fun _ _ => rfl)) (pa_cons (pe_ix ix_tup (pv 2) pe_int (fun _ _ => rfl)) pa_nil)))))))) (pss_one (ps_ret (pv 1))))), ?_⟩
    have hxl := hT.len
    refine ⟨rfl, rfl, fun H1 m1 s1 M1 => ?_⟩
    refine ⟨_, rfl, l, rfl, ⟨_, SqL.of (s1 _ _ hl)⟩, ?_⟩
    refine for_it (walk_list (xs := xs)) (fun i σ H' => ∃ (m : Addr) (ts : Tms) (u : Option V), σ = [some (.ref l), some (.ref m), u] ∧ Same H H' ∧ MeAt K H' m ts ∧ MsOf i ts (r.take i)) ⟨m1, _, none, rfl, s1, M1, ms_0⟩ (fun i σ H' _ ⟨_, _, _, _, s, _⟩ => SqL.of (s _ _ hl)) ?_ ?_
    · rintro i x σ H2 H3 hi ⟨m, ts, u, rfl, s2, M2, O2⟩ ⟨rfl, hx⟩
      obtain ⟨t, hti, c, rfl, hc⟩ := (hT.same s2).get (i := i) hx
      have htm := List.mem_of_getElem? hti
      have hL := hR.len
      obtain ⟨d0, tp0, xs0, hm0, _, _⟩ := id M2
      refine ⟨_, rfl, _, rfl, c, _, 2, _, rfl, rfl, SqT.of hc, rfl, _, rfl, c, _, 0, _, rfl, rfl, SqT.of hc, rfl, _, rfl, c, _, 1, _, rfl, rfl, SqT.of hc, rfl, t.1, rfl, hR.ok t htm, fun H4 b s4 M4 => ?_⟩
      have O4 := ms_1 (hR.ok t htm)
      obtain ⟨d4, tp4, xs4, hb4, _, _⟩ := id M4
      refine ⟨b, t.2, d4, _, rfl, rfl, hb4, b, _, t.2, rfl, M4, Nat.le_trans O4.len (by decide), fun u hu => ?_, fun H5 g s5 M5 => ?_⟩
      · have := srt_sub hu
        rw [List.mem_singleton] at this
        subst this
        exact .inl ⟨by show (-(2 ^ 64) : Int) < 1; decide, by show (1 : Int) < 2 ^ 64; decide⟩
      have O5 := O4.ml t.2
      obtain ⟨d5, tp5, xs5, hg5, _, _⟩ := id M5
      have s24 := s4.trans s5
      refine ⟨m, g, d0, _, d5, _, rfl, rfl, s24 _ _ hm0, hg5, m, g, ts, _, rfl, M2.same s24, M5, Nat.le_trans O2.len (by omega), Nat.le_trans O5.len (by decide), O2.ok, O5.ok, fun H6 v s6 M6 => ?_⟩
      refine ⟨v, _, _, rfl, (s2.trans s24).trans s6, M6, (O2.pl O5).cast (Nat.le_refl _) fun k => ?_⟩
      rw [fac_app, fac_tk hti]
      simp [fac]
    · rintro σ H2 ⟨m, ts, u, rfl, s2, M2, O2⟩
      rw [List.take_of_length_le (by omega)] at O2
      refine ⟨_, rfl, kq H2 m ts s2 M2 (O2.cast ?_ fun _ => rfl)⟩
      have := hR.len
      omega
def nms5 : List (List Nat) := [[108, 101, 110, 103, 116, 104], [115, 105, 103, 110, 115], [112, 114, 101, 115, 115, 101, 115], [97, 104, 101, 97, 100], [114, 111, 117, 110, 100, 115]]
theorem nms_sg : ∀ j : Fin nms5.length, nms5[j] = [115, 105, 103, 110, 115] → j.val = 1 := by decide +kernel
theorem nms_rd : ∀ j : Fin nms5.length, nms5[j] = [114, 111, 117, 110, 100, 115] → j.val = 4 := by decide +kernel
theorem nms_k (j : Fin nms5.length) (h : ¬ nms5[j] = [114, 111, 117, 110, 100, 115]) (d : V) (d1 : j.val = 1 → ∃ c ∈ sgn, d = .str (S [c])) (d2 : j.val ≠ 1 → d = .int 0) : ∃ k : Bm, k.ok ∧ nms5[j] = k.nm ∧ d = k.dv := by
  match j, h, d1, d2 with
  | ⟨0, _⟩, _, _, d2 => exact ⟨.len, trivial, rfl, d2 (show (0 : Nat) ≠ 1 by decide)⟩
  | ⟨1, _⟩, _, d1, _ =>
    obtain ⟨c, hc, e⟩ := d1 rfl
    exact ⟨.sg c, hc, rfl, e⟩
  | ⟨2, _⟩, _, _, d2 => exact ⟨.pr, trivial, rfl, d2 (show (2 : Nat) ≠ 1 by decide)⟩
  | ⟨3, _⟩, _, _, d2 => exact ⟨.ah, trivial, rfl, d2 (show (3 : Nat) ≠ 1 by decide)⟩
  | ⟨4, _⟩, h, _, _ => exact absurd rfl h
theorem Box.notup {H : Hp} {b l a : Addr} {vs : List V} (B : Box H b l) (h : H a = some (.tup vs)) : a ∉ [b, l] := by
  obtain ⟨_, _, _, _, hb, hl, _⟩ := B
  intro q
  rcases List.mem_cons.mp q with rfl | q
  · rw [hb] at h; cases h
  · rcases List.mem_cons.mp q with rfl | q
    · rw [hl] at h; cases h
    · cases q
def spLTerms (K : PySem.W.Frag) : Sp := fun vs H Q _ => ∃ (b l : Addr) (n : Int) (sg : List Nat), vs = [.ref b, .int n, .str (S sg)] ∧ Box H b l ∧ 0 < n ∧ n ≤ 10 ∧ sg ≠ [] ∧ sg.length ≤ 1000 ∧ (∀ c ∈ sg, c ∈ sgn) ∧ ∀ H' m r, H m = none → Kp [b, l] H H' → Box H' b l → RwA H' m r → RwT 3 r → Q (.ref m) H'
abbrev s__law_terms : Stmt := top 19
theorem sc__law_terms : FnScope ["_law_box_here", "_law_repeats", "_law_signs_here", "_law_terms_here", "_law_k", "_law_name", "_law_detail"] ["_law_box_here", "_law_repeats", "_law_signs_here"] (defScope s__law_terms) := ⟨rfl, rfl, rfl, by decide +kernel, rfl, by decide +kernel, by decide +kernel⟩
theorem ok__law_terms (T : TX K mg) (c__law_take : KCal P w K mg base 1 "_law_take" spTake []) {f : Addr} {fd : FuncData} (F : FunD K "_law_terms" "_law_terms" (defArgs s__law_terms) (defBody s__law_terms) (defScope s__law_terms) [] [] f fd) : FnOk P w K mg base (CX P w) 2 f fd ["_law_box_here", "_law_repeats", "_law_signs_here"] (spLTerms K) := by
  refine F.ok sc__law_terms (fun vs H Q E h => ?_) (fun cdv A outer s H vs Q E hr h => ?_)
  · obtain ⟨b, l, n, sg, rfl, _⟩ := h
    rfl
  · obtain ⟨b, l, n, sg, rfl, B, hn, hn2, hne, hsl, hs, kq⟩ := h
    refine ⟨_, (pss_cons (ps_set (i := 3) sc__law_terms.nd rfl (Or.inl rfl) (pe_lst pa_nil)) (pss_cons (ps_for (passes_of rfl) rfl (pi_range1 (by rfl) T.b_range (pa_cons (kc c__law_take hr (by decide) rfl (pa_cons (pv 0) (pa_cons pe_int pa_nil))) pa_nil)) (pg_name (i := 4) sc__law_terms.nd rfl (Or.inl rfl)) (pss_cons (ps_set (i := 5) sc__law_terms.nd rfl (Or.inl rfl) (pe_ix ix_list (pe_lst (pa_cons (pe_strS [108, 101, 110, 103, 116, 104] (by decide +kernel)) (pa_cons (pe_strS [115, 105, 103, 110, 115] (by decide +kernel)) (pa_cons (pe_strS [112, 114, 101, 115, 115, 101, 115] (by decide +kernel)) (pa_cons (pe_strS [97, 104, 101, 97, 100] (by decide +kernel)) (pa_cons (pe_strS [114, 111, 117, 110, 100, 115] (by decide +kernel)) pa_nil)))))) (kc c__law_take hr (by decide) rfl (pa_cons (pv 0) (pa_cons (pe_op op_add pe_int (pe_callTy call_int1 (by rfl) T.b_int (by decide +kernel) (pa_cons (pe_cmpR op_gt (pv 1) pe_int (nomark _)) pa_nil))) pa_nil))) (fun _ _ => rfl))) (pss_cons (ps_set (i := 6) sc__law_terms.nd rfl (Or.inl rfl) pe_int) (C8.pss_cut (ps_if (pt_cmpR op_eqS (pv 5) (pe_strS [115, 105, 103, 110, 115] (by decide +kernel)) (nomark _)) (pss_one (ps_set (i := 6) sc__law_terms.nd rfl (Or.inl rfl) (pe_ix ix_S (pv 2) (kc c__law_take hr (by decide) rfl (pa_cons (pv 0) (pa_cons (pe_callB call_lenS (by rfl) T.b_len PySem.boot_len (pa_cons (pv 2) pa_nil)) pa_nil))) (fun _ _ => rfl)))) pss_nil) (C8.pss_cut (ps_if (pt_cmpR op_eqS (pv 5) (pe_strS [114, 111, 117, 110, 100, 115] (by decide +kernel)) (nomark _)) (pss_one (ps_set (i := 6) sc__law_terms.nd rfl (Or.inl rfl) (kc c__law_take hr (by decide) rfl (pa_cons (pv 0) (pa_cons (pv 1) pa_nil))))) pss_nil) (pss_one (ps_expr (pe_bm PySem.F.plainAttrs_list PySem.F.slot_list_append PySem.F.type_list_append mt_append (pv 3) (pa_cons (pe_tup (pa_cons (pv 5) (pa_cons (pv 6) (pa_cons (pe_op op_sub (kc c__law_take hr (by decide) rfl (pa_cons (pv 0) (pa_cons pe_int pa_nil))) pe_int) pa_nil)))) pa_nil))))))))) (pss_one (ps_ret (pv 3))))), ?_⟩
    and_intros
    intro l0 hl0
    have B1 := B.new (o := .lst []) hl0
    have k1 : Kp [b, l] H (upd H l0 (.lst [])) := Kp.refl.new hl0
    have hl1 : upd H l0 (.lst []) l0 = some (.lst []) := upd_same
    generalize upd H l0 (.lst []) = H1 at *
    refine ⟨_, rfl, b, l, 4, rfl, B1, by decide, by decide, fun H2 q k2 B2 q0 q1 => ?_⟩
    have nb : l0 ≠ b := fun z => by obtain ⟨_, _, _, _, hb, _⟩ := B; rw [← z, hl0] at hb; cases hb
    have nl : l0 ≠ l := fun z => by obtain ⟨_, _, _, _, _, hb, _⟩ := B; rw [← z, hl0] at hb; cases hb
    have hl2 := k2 l0 _ (by simp [nb, nl]) hl1
    refine ⟨q, rfl, by omega, by omega, ?_⟩
    refine for_it walk_range (fun i σ H' => ∃ (xs : List V) (r : Tms) (u v w : Option V), σ = [some (.ref b), some (.int n), some (.str (S sg)), some (.ref l0), u, v, w] ∧ H' l0 = some (.lst xs) ∧ TsA H' xs r ∧ RwT i r ∧ Kp [b, l] H H' ∧ Box H' b l) ⟨[], [], none, none, none, rfl, hl2, .nil, ⟨Nat.le_refl _, by simp, by simp⟩, k1.trans k2, B2⟩ (fun _ _ _ _ _ => trivial) ?_ ?_
    · rintro i x σ H3 H4 hi ⟨xs, r, u, v, w, rfl, hl3, hT3, hR3, k3, B3⟩ ⟨rfl, rfl⟩
      refine ⟨(show 5 ≤ sizeLine by decide), fun z hz => ?_⟩
      have B5 := B3.new (o := .lst [.str (S [108, 101, 110, 103, 116, 104]), .str (S [115, 105, 103, 110, 115]), .str (S [112, 114, 101, 115, 115, 101, 115]), .str (S [97, 104, 101, 97, 100]), .str (S [114, 111, 117, 110, 100, 115])]) hz
      have hz5 : upd H4 z (.lst [.str (S [108, 101, 110, 103, 116, 104]), .str (S [115, 105, 103, 110, 115]), .str (S [112, 114, 101, 115, 115, 101, 115]), .str (S [97, 104, 101, 97, 100]), .str (S [114, 111, 117, 110, 100, 115])]) z = some (.lst [.str (S [108, 101, 110, 103, 116, 104]), .str (S [115, 105, 103, 110, 115]), .str (S [112, 114, 101, 115, 115, 101, 115]), .str (S [97, 104, 101, 97, 100]), .str (S [114, 111, 117, 110, 100, 115])]) := upd_same
      have k5 := k3.new (o := .lst [.str (S [108, 101, 110, 103, 116, 104]), .str (S [115, 105, 103, 110, 115]), .str (S [112, 114, 101, 115, 115, 101, 115]), .str (S [97, 104, 101, 97, 100]), .str (S [114, 111, 117, 110, 100, 115])]) hz
      have s5 := sNew (o := .lst [.str (S [108, 101, 110, 103, 116, 104]), .str (S [115, 105, 103, 110, 115]), .str (S [112, 114, 101, 115, 115, 101, 115]), .str (S [97, 104, 101, 97, 100]), .str (S [114, 111, 117, 110, 100, 115])]) (Same.refl H4) hz
      have hl5 := s5 _ _ hl3
      have hT5 := hT3.same s5
      generalize upd H4 z (.lst [.str (S [108, 101, 110, 103, 116, 104]), .str (S [115, 105, 103, 110, 115]), .str (S [112, 114, 101, 115, 115, 101, 115]), .str (S [97, 104, 101, 97, 100]), .str (S [114, 111, 117, 110, 100, 115])]) = H5 at *
      have en : decide ((0 : Int) < n) = true := decide_eq_true hn
      refine ⟨_, rfl, _, rfl, _, _, rfl, rfl, .inr ⟨_, rfl, _, _, rfl, rfl, b, l, 5, ?_, B5, by decide, by decide, fun H6 j k6 B6 j0 j1 => ?_⟩⟩
      · rw [en]; rfl
      have nzb : z ≠ b := fun e => by obtain ⟨_, _, _, _, hb, _⟩ := B3; rw [← e, hz] at hb; cases hb
      have nzl : z ≠ l := fun e => by obtain ⟨_, _, _, _, _, hb, _⟩ := B3; rw [← e, hz] at hb; cases hb
      have hz6 := k6 z _ (by simp [nzb, nzl]) hz5
      have hl6 := k6 l0 _ (by simp [nb, nl]) hl5
      have hT6 : TsA H6 xs r := Paired.impl (fun v t ⟨a, e, h⟩ => ⟨a, e, k6 a _ (B5.notup h) h⟩) hT5
      obtain ⟨j, rfl⟩ : ∃ m : Nat, j = m := ⟨j.toNat, by omega⟩
      have hj : j < nms5.length := by show j < 5; omega
      refine ⟨z, _, j, .str (S nms5[j]), rfl, rfl, SqL.of hz6, ?_, ?_⟩
      · exact atIn (by
          have : ([.str (S [108, 101, 110, 103, 116, 104]), .str (S [115, 105, 103, 110, 115]), .str (S [112, 114, 101, 115, 115, 101, 115]), .str (S [97, 104, 101, 97, 100]), .str (S [114, 111, 117, 110, 100, 115])] : List V) = nms5.map fun y => V.str (S y) := rfl
          rw [this, List.getElem?_map, List.getElem?_eq_getElem hj]; rfl)
      refine ⟨fun σ H' => ∃ d : V, σ = [some (.ref b), some (.int n), some (.str (S sg)), some (.ref l0), some (.int (0 + (i : Nat))), some (.str (S nms5[j])), some d] ∧ H' l0 = some (.lst xs) ∧ TsA H' xs r ∧ Kp [b, l] H H' ∧ Box H' b l ∧ (j = 1 → ∃ c ∈ sgn, d = .str (S [c])) ∧ (j ≠ 1 → d = .int 0), ?_, ?_⟩
      · refine ⟨_, rfl, _, _, rfl, rfl, _, rfl, if2 (fun c => ?_) (fun c => ?_)⟩
        · have c : nms5[j] = [115, 105, 103, 110, 115] := by simpa using c
          have hj1 := nms_sg ⟨j, hj⟩ c
          have hsg := List.length_pos_iff.mpr hne
          refine ⟨_, rfl, _, rfl, _, rfl, _, rfl, by omega, b, l, (sg.length : Int), rfl, B6, by omega, by omega, fun H7 m k7 B7 m0 m1 => ?_⟩
          have hm : m.toNat < sg.length := by omega
          refine ⟨_, _, _, rfl, rfl, by omega, m0, List.getElem?_eq_getElem hm, ?_⟩
          exact ⟨_, rfl, k7 l0 _ (by simp [nb, nl]) hl6, Paired.impl (fun v t ⟨a, e, h⟩ => ⟨a, e, k7 a _ (B6.notup h) h⟩) hT6, (k5.trans k6).trans k7, B7, fun _ => ⟨sg[m.toNat], hs _ (List.getElem_mem hm), rfl⟩, fun h => absurd hj1 h⟩
        · have c : ¬ nms5[j] = [115, 105, 103, 110, 115] := by simpa using c
          exact ⟨_, rfl, hl6, hT6, k5.trans k6, B6, fun h => absurd (by subst h; rfl) c, fun _ => rfl⟩
      rintro σ7 H7 ⟨d, rfl, hl7, hT7, k7, B7, d1, d2⟩
      refine ⟨fun σ H' => ∃ k : Bm, k.ok ∧ σ = [some (.ref b), some (.int n), some (.str (S sg)), some (.ref l0), some (.int (0 + (i : Nat))), some (.str (S k.nm)), some k.dv] ∧ H' l0 = some (.lst xs) ∧ TsA H' xs r ∧ Kp [b, l] H H' ∧ Box H' b l, ?_, ?_⟩
      · refine ⟨_, rfl, _, _, rfl, rfl, _, rfl, if2 (fun c => ?_) (fun c => ?_)⟩
        · have c : nms5[j] = [114, 111, 117, 110, 100, 115] := by simpa using c
          have hj4 := nms_rd ⟨j, hj⟩ c
          refine ⟨_, rfl, _, rfl, b, l, n, rfl, B7, hn, by omega, fun H8 m k8 B8 m0 m1 => ?_⟩
          refine ⟨.rd m.toNat, ?_, ?_, k8 l0 _ (by simp [nb, nl]) hl7, Paired.impl (fun v t ⟨a, e, h⟩ => ⟨a, e, k8 a _ (B7.notup h) h⟩) hT7, k7.trans k8, B8⟩
          · show m.toNat < 10
            omega
          · rw [c]
            show _ = [_, _, _, _, _, some (V.str (S [114, 111, 117, 110, 100, 115])), some (V.int ((m.toNat : Nat) : Int))]
            rw [Int.toNat_of_nonneg m0]
            rfl
        · have c : ¬ nms5[j] = [114, 111, 117, 110, 100, 115] := by simpa using c
          obtain ⟨k, hk1, hk2, hk3⟩ := nms_k ⟨j, hj⟩ c d d1 d2
          refine ⟨k, hk1, ?_, hl7, hT7, k7, B7⟩
          rw [show nms5[j] = k.nm from hk2, hk3]
      rintro σ8 H8 ⟨k, hk, rfl, hl8, hT8, k8, B8⟩
      refine ⟨_, rfl, tyL hl8, _, rfl, _, rfl, _, rfl, b, l, 7, rfl, B8, by decide, by decide, fun H9 m k9 B9 m0 m1 => ?_⟩
      have hl9 := k9 l0 _ (by simp [nb, nl]) hl8
      have hT9 : TsA H9 xs r := Paired.impl (fun v t ⟨a, e, h⟩ => ⟨a, e, k9 a _ (B8.notup h) h⟩) hT8
      have hxr := hT9.len
      have hrl := hR3.len
      refine ⟨_, _, rfl, rfl, (show 3 ≤ sizeLine by decide), fun e he => ?_⟩
      have s10 := sNew (o := .tup (tmV (k, m - 3))) (Same.refl H9) he
      have hl10 := s10 _ _ hl9
      have he10 : upd H9 e (.tup (tmV (k, m - 3))) e = some (.tup (tmV (k, m - 3))) := upd_same
      have B10 := B9.new (o := .tup (tmV (k, m - 3))) he
      have k10 := (k8.trans k9).new (o := .tup (tmV (k, m - 3))) he
      refine ⟨l0, xs, _, rfl, rfl, hl10, by rw [sizeLine_eq]; omega, ?_⟩
      refine ⟨xs ++ [.ref e], r ++ [(k, m - 3)], _, _, _, rfl, upd_same, ((hT9.same s10).mut hl10).snoc (TmAt.mut hl10 ⟨e, rfl, he10⟩), ⟨by rw [List.length_append]; show r.length + 1 ≤ _; omega, fun t ht => ?_, fun t ht => ?_⟩, k10.mut hl0, B10.mut nb nl⟩
      · rcases List.mem_append.mp ht with h | h
        · exact hR3.ok t h
        · rw [List.mem_singleton] at h; subst h; exact hk
      · rcases List.mem_append.mp ht with h | h
        · exact hR3.sm t h
        · rw [List.mem_singleton] at h; subst h
          exact ⟨by show -3 ≤ m - 3; omega, by show m - 3 ≤ 3; omega⟩
    · rintro σ H3 ⟨xs, r, u, v, w, rfl, hl3, hT3, hR3, k3, B3⟩
      have hq3 : q.toNat ≤ 3 := by omega
      exact ⟨_, rfl, kq H3 l0 r hl0 k3 B3 ⟨xs, hl3, hT3⟩ ⟨Nat.le_trans hR3.len hq3, hR3.ok, hR3.sm⟩⟩
abbrev bmD (k : Bm) : PyData := .tuple [.str (S k.nm), k.dt]
abbrev bmK (k : Bm) : NestedKey := kyO (bmD k)
theorem bmK_inj {k l : Bm} (h : bmK k = bmK l) : k = l := by
  have h' : NestedKey.tup [.text (S k.nm), kyO k.dt] = .tup [.text (S l.nm), kyO l.dt] := h
  injection h' with h'
  injection h' with h1 h2
  injection h1 with h1
  injection h2 with h2 _
  refine ky_eq (SX.S_inj h1) ?_
  have h1 := SX.S_inj h1
  cases k <;> cases l <;> simp [Bm.nm, Bm.dt, kyO] at h1 h2 ⊢ <;> assumption
def EnA (H : Hp) (e : NestedKey × Addr × V) (t : Bm × Int) : Prop := e.1 = bmK t.1 ∧ H e.2.1 = some (.tup [.str (S t.1.nm), t.1.dv]) ∧ e.2.2 = .int t.2
abbrev EnsA (H : Hp) (L : List (NestedKey × Addr × V)) (T : Tms) : Prop := Paired (EnA H) L T
theorem EnsA.same {H H' : Hp} {L : List (NestedKey × Addr × V)} {T : Tms} (s : Same H H') (h : EnsA H L T) : EnsA H' L T := Paired.impl (fun _ _ ⟨a, b, c⟩ => ⟨a, s _ _ b, c⟩) h
theorem bm_mem {H : Hp} {a : Addr} {k : Bm} (h : H a = some (.tup [.str (S k.nm), k.dv])) : MemN H (a, bmK k) := by
  refine ⟨bmD k, .tup h (.cons (by constructor) (.cons (Dt.bm _) .nil)), rfl, ?_⟩
  cases k <;> simp [bmK, bmD, kyO, kyL, Bm.dt, NestedKey.depth, NestedKey.depthAll]
theorem EnsA.kys {H : Hp} : ∀ {L : List (NestedKey × Addr × V)} {T : Tms}, EnsA H L T → KysN H L
  | _, _, .nil => fun _ h => nomatch h
  | _, _, .cons (a := a) h r => fun p hp => by
    rcases List.mem_cons.mp hp with rfl | hp
    · obtain ⟨h1, h2, _⟩ := h
      rw [h1]
      exact bm_mem h2
    · exact EnsA.kys r p hp
theorem EnsA.val {H : Hp} {k : Bm} : ∀ {L : List (NestedKey × Addr × V)} {T : Tms}, EnsA H L T → (T.map (·.1)).Nodup → valN L (bmK k) = if k ∈ T.map (·.1) then some (.int (fac T k)) else none
  | _, _, .nil, _ => rfl
  | e :: L, t :: T, .cons h r, hn => by
    obtain ⟨h1, _, h3⟩ := h
    rw [List.map_cons, List.nodup_cons] at hn
    have ih := EnsA.val (k := k) r hn.2
    unfold valN at ih ⊢
    by_cases q : t.1 = k
    · subst q
      rw [List.find?_cons_of_pos (by simp [h1]), if_pos (by simp)]
      simp only [Option.map_some, h3, fac, if_true, fac_out hn.1, Int.add_zero]
    · have q' : ¬ e.1 = bmK k := fun z => q (bmK_inj (h1.symm.trans z))
      rw [List.find?_cons_of_neg (by simp [q']), ih]
      have q2 : k ≠ t.1 := Ne.symm q
      simp only [List.map_cons, List.mem_cons, q2, false_or, fac, if_neg q, Int.zero_add]
def putT (T : Tms) (k : Bm) (f : Int) : Tms := if k ∈ T.map (·.1) then T.map (fun t => if t.1 = k then (t.1, f) else t) else T ++ [(k, f)]
theorem putT_keys (T : Tms) (k : Bm) (f : Int) : (putT T k f).map (·.1) = if k ∈ T.map (·.1) then T.map (·.1) else T.map (·.1) ++ [k] := by
  unfold putT
  split
  · rw [List.map_map]
    apply List.map_congr_left
    intro t _
    show (if t.1 = k then (t.1, f) else t).1 = t.1
    split <;> rfl
  · rw [List.map_append]; rfl
theorem putT_nd {T : Tms} (h : (T.map (·.1)).Nodup) (k : Bm) (f : Int) : ((putT T k f).map (·.1)).Nodup := by
  rw [putT_keys]
  split
  · exact h
  · rename_i q
    exact List.nodup_append.mpr ⟨h, by simp, fun x hx y hy => by rw [List.mem_singleton] at hy; subst hy; exact fun e => q (e ▸ hx)⟩
theorem putT_fac {T : Tms} (h : (T.map (·.1)).Nodup) (k : Bm) (f : Int) (l : Bm) : fac (putT T k f) l = if l = k then f else fac T l := by
  unfold putT
  split
  · rename_i q
    have gen : ∀ {T : Tms}, (T.map (·.1)).Nodup → fac (T.map (fun t => if t.1 = k then (t.1, f) else t)) l = if l = k ∧ k ∈ T.map (·.1) then f else if l = k then 0 else fac T l := by
      intro T
      induction T with
      | nil => intro _; simp [fac]
      | cons t T ih =>
        intro hn
        rw [List.map_cons, List.nodup_cons] at hn
        have ih := ih hn.2
        simp only [List.map_cons, fac, ih]
        by_cases e : t.1 = k
        · subst e
          by_cases e2 : l = t.1
          · subst e2
            simp [hn.1]
          · simp [e2, Ne.symm e2]
        · by_cases e2 : l = k
          · subst e2
            have h3 : (l ∈ t.1 :: T.map (·.1)) ↔ l ∈ T.map (·.1) := by
              rw [List.mem_cons]
              exact ⟨fun z => z.resolve_left (Ne.symm e), .inr⟩
            simp only [h3, if_neg e, Int.zero_add, true_and, if_true]
          · simp [e, e2]
    rw [gen h]
    by_cases e : l = k <;> simp [e, q]
  · rename_i q
    rw [fac_app, fac_one]
    by_cases e : l = k
    · subst e
      simp [fac_out q]
    · simp [e, Ne.symm e]
theorem putT_mem {T : Tms} {k : Bm} {f : Int} {t : Bm × Int} (h : t ∈ putT T k f) : t.1 = k ∨ t ∈ T := by
  unfold putT at h
  split at h
  · obtain ⟨u, hu, rfl⟩ := List.mem_map.mp h
    by_cases e : u.1 = k
    · rw [if_pos e]; exact .inl e
    · rw [if_neg e]; exact .inr hu
  · rcases List.mem_append.mp h with h | h
    · exact .inr h
    · rw [List.mem_singleton] at h; subst h; exact .inl rfl
theorem putT_len (T : Tms) (k : Bm) (f : Int) : (putT T k f).length ≤ T.length + 1 := by
  unfold putT
  split
  · rw [List.length_map]; omega
  · rw [List.length_append]; simp
theorem EnsA.put {H : Hp} {L : List (NestedKey × Addr × V)} {T : Tms} {k : Bm} {a : Addr} {f : Int} (h : EnsA H L T) (hn : (T.map (·.1)).Nodup) (ha : H a = some (.tup [.str (S k.nm), k.dv])) : EnsA H (putN L (bmK k) a (.int f)) (putT T k f) := by
  have hv := h.val (k := k) hn
  unfold putN putT
  by_cases q : k ∈ T.map (·.1)
  · rw [if_pos q] at hv ⊢
    rw [hv]
    simp only [Option.isSome_some, if_true]
    clear hv hn q
    induction h with
    | nil => exact .nil
    | @cons e t L T h1 _ ih =>
      refine .cons ?_ ih
      obtain ⟨h1, h2, h3⟩ := h1
      by_cases e1 : t.1 = k
      · have : e.1 = bmK k := by rw [h1, e1]
        dsimp only
        rw [if_pos this, if_pos e1]
        exact ⟨h1, h2, rfl⟩
      · have : ¬ e.1 = bmK k := fun z => e1 (bmK_inj (h1.symm.trans z))
        dsimp only
        rw [if_neg this, if_neg e1]
        exact ⟨h1, h2, h3⟩
  · rw [if_neg q] at hv ⊢
    rw [hv, if_neg (by simp)]
    exact h.snoc ⟨rfl, ha, rfl⟩
theorem EnsA.get {H : Hp} {v : NestedKey × Addr × V} : ∀ {j : Nat} {L : List (NestedKey × Addr × V)} {T : Tms}, EnsA H L T → L[j]? = some v → ∃ t, T[j]? = some t ∧ EnA H v t
  | 0, _, _, .cons a r, h => ⟨_, rfl, by cases h; exact a⟩
  | j + 1, _, _, .cons a r, h => EnsA.get (j := j) r h
theorem EnsA.len {H : Hp} : ∀ {L : List (NestedKey × Addr × V)} {T : Tms}, EnsA H L T → L.length = T.length
  | _, _, .nil => rfl
  | _, _, .cons _ r => congrArg (· + 1) (EnsA.len r)
def TbAt (H : Hp) (v : V) (t : Bm × Int) : Prop := ∃ a, v = .ref a ∧ H a = some (.tup [.str (S t.1.nm), .str (S t.1.ds), .int t.2])
abbrev TbA (H : Hp) (xs : List V) (T : Tms) : Prop := Paired (TbAt H) xs T
theorem TbA.same {H H' : Hp} {xs : List V} {ts : Tms} (s : Same H H') (h : TbA H xs ts) : TbA H' xs ts := Paired.impl (fun _ _ ⟨a, e, q⟩ => ⟨a, e, s _ _ q⟩) h
theorem TbA.mut {H : Hp} {D : Addr} {zs : List V} {o : HO} {xs : List V} {ts : Tms} (hD : H D = some (.lst zs)) (h : TbA H xs ts) : TbA (upd H D o) xs ts := Paired.impl (fun v t ⟨a, e, q⟩ => ⟨a, e, by rw [upd_ne (ne_of q hD (by intro z; cases z))]; exact q⟩) h
theorem TbA.len {H : Hp} : ∀ {xs : List V} {ts : Tms}, TbA H xs ts → xs.length = ts.length
  | _, _, .nil => rfl
  | _, _, .cons _ r => congrArg (· + 1) (TbA.len r)
theorem TbA.dt {H : Hp} : ∀ {xs : List V} {ts : Tms}, TbA H xs ts → DtAll H xs (ts.map tbD)
  | _, _, .nil => .nil
  | _, _, .cons ⟨a, e, q⟩ r => .cons (by rw [e]; exact .tup q (.cons (by constructor) (.cons (by constructor) (.cons (by constructor) .nil)))) (TbA.dt r)
theorem dt_tbs {H : Hp} : ∀ {ts : Tms} {xs : List V}, DtAll H xs (ts.map tbD) → TbA H xs ts
  | [], _, h => by cases h; exact .nil
  | t :: ts, _, h => by
    cases h with
    | cons a r =>
      refine .cons ?_ (dt_tbs r)
      cases a with
      | tup h1 h2 =>
        cases h2 with
        | cons a1 r1 =>
          cases a1
          cases r1 with
          | cons a2 r2 =>
            cases a2
            cases r2 with
            | cons a3 r3 =>
              cases a3
              cases r3
              exact ⟨_, rfl, h1⟩
theorem mix_tb (ts : Tms) : MixOk (ts.map tbD) := by
  refine ⟨fun d hd => ?_, fun xs ys hx hy => ?_, fun d hd => ?_⟩
  · obtain ⟨t, _, rfl⟩ := List.mem_map.mp hd
    refine ⟨S t.1.nm, [.str (S t.1.ds), .int t.2], rfl, fun z hz => ?_⟩
    rcases List.mem_cons.mp hz with rfl | hz
    · rfl
    · rcases List.mem_cons.mp hz with rfl | hz
      · rfl
      · cases hz
  · obtain ⟨t, _, e⟩ := List.mem_map.mp hx
    obtain ⟨u, _, e2⟩ := List.mem_map.mp hy
    cases e
    cases e2
    exact ⟨rfl, fun _ => ⟨rfl, fun _ => ⟨rfl, fun _ => trivial⟩⟩⟩
  · obtain ⟨t, _, rfl⟩ := List.mem_map.mp hd
    simp [tbD, PyData.depth, PyData.depthAll]
theorem srt_dataB (a : Tms) : ((a.filter fun t => decide (t.2 ≠ 0)).map tbD).mergeSort (PySem.W.dataLe false id) = (srt tbD a).map tbD := by
  unfold srt
  exact (List.map_mergeSort (r := PySem.W.dataLe false tbD) (s := PySem.W.dataLe false id) (fun _ _ _ _ => rfl)).symm
structure TbOf (T r : Tms) : Prop where
  nf : Nf tbD T
  ok : ∀ t ∈ T, t.1.ok
  len : T.length ≤ 100
  fa : ∀ k, fac T k = fac r k
theorem rStrA_bm {k : Bm} (h : k.ok) {H : Hp} {Q : VK} (q : Q (.str (S k.ds)) H) : rStrA [k.dv] H Q := by
  cases k with
  | sg c => exact .inr ⟨[c], rfl, q⟩
  | rd n =>
    have hn : n < 10 := h
    refine .inl ⟨n, rfl, by omega, ?_⟩
    have : dg n = [48 + n] := by unfold dg; rw [if_pos hn]
    rw [this]; exact q
  | _ => exact .inl ⟨0, rfl, by decide, q⟩
def spLTab (K : PySem.W.Frag) : Sp := fun vs H Q _ => ∃ (l : Addr) (r : Tms), vs = [.ref l] ∧ RwA H l r ∧ r.length ≤ 100 ∧ (∀ t ∈ r, t.1.ok) ∧ ∀ H' q ys T, Same H H' → H' q = some (.lst ys) → TbA H' ys T → TbOf T r → Q (.ref q) H'
abbrev s__law_table : Stmt := top 24
theorem sc__law_table : FnScope ["_law_terms_here", "_law_table_here", "_law_term", "_law_key"] ["_law_terms_here"] (defScope s__law_table) := ⟨rfl, rfl, rfl, by decide +kernel, rfl, by decide +kernel, by decide +kernel⟩
theorem ok__law_table (T : TX K mg) {f : Addr} {fd : FuncData} (F : FunD K "_law_table" "_law_table" (defArgs s__law_table) (defBody s__law_table) (defScope s__law_table) [] [] f fd) : FnOk P w K mg base (CX P w) 2 f fd ["_law_terms_here"] (spLTab K) := by
  refine F.ok sc__law_table (fun vs H Q E h => ?_) (fun cdv A outer s H vs Q E hr h => ?_)
  · obtain ⟨l, r, rfl, _⟩ := h
    rfl
  · obtain ⟨l, r, rfl, ⟨xs, hl, hT⟩, hrl, hro, kq⟩ := h
    refine ⟨_, (pss_cons (ps_set (i := 1) sc__law_table.nd rfl (Or.inr rfl) pe_dnewN) (pss_cons (ps_for (passes_of rfl) rfl (pi_list (pv 0)) (pg_name (i := 2) sc__law_table.nd rfl (Or.inl rfl)) (pss_one (ps_asg (pe_op op_add (pe_dget2N hr.units (pv 1) (pe_tup (pa_cons (pe_ix ix_tup (pv 2) pe_int (fun _ _ => rfl)) (pa_cons (pe_ix ix_tup (pv 2) pe_int (fun _ _ => rfl)) pa_nil))) pe_int ⟨by rfl, by rfl, by rfl, by rfl⟩) (pe_ix ix_tup (pv 2) pe_int (fun _ _ => rfl))) (pg_sub (pv 1) (pe_tup (pa_cons (pe_ix ix_tup (pv 2) pe_int (fun _ _ => rfl)) (pa_cons (pe_ix ix_tup (pv 2) pe_int (fun _ _ => rfl)) pa_nil))) (set_dictN hr.units))))) (pss_one (ps_ret (pe_callB (cr_sortedM hr.units) (by rfl) T.b_sorted (by decide +kernel) (pa_cons (pe_lock (pe_lc (own := [("_law_key", 3)]) rfl sc__law_table.nd (pi_keysN (pv 1)) (blkOk_by (own := [("_law_key", 3)]) (N := ["_law_terms_here", "_law_table_here", "_law_term", "_law_key"]) (sc := defScope s__law_table) (by decide +kernel)) (fun _ _ _ _ _ => (pg_name (i := 3) sc__law_table.nd rfl (Or.inl rfl))) (fun _ _ _ _ _ => (pts_one (pt_cmpR op_ne (pe_dgetNZ (P := P) (w := w) rfl rfl (by exact hr.units) (pv 1) (pv 3) (fun _ _ => rfl)) pe_int (nomark _)))) (fun _ _ _ _ _ => (pe_tup (pa_cons (pe_ix (ix_tupK (K := K) rfl) (pv 3) pe_int (fun _ _ => rfl)) (pa_cons (pe_callTy call_strA (by rfl) T.b_str (by decide +kernel) (pa_cons (pe_ix (ix_tupK (K := K) rfl) (pv 3) pe_int (fun _ _ => rfl)) pa_nil)) (pa_cons (pe_dgetNZ (P := P) (w := w) rfl rfl (by exact hr.units) (pv 1) (pv 3) (fun _ _ => rfl)) pa_nil))))))) pa_nil)))))), ?_⟩
    have hxl := hT.len
    intro d hd
    have hd1 : upd H d (DctN P w d []) d = some (DctN P w d []) := upd_same
    have s1 := sNew (o := DctN P w d []) (Same.refl H) hd
    refine ⟨_, rfl, l, rfl, ⟨_, SqL.of (s1 _ _ hl)⟩, ?_⟩
    refine for_it (walk_list (xs := xs)) (fun i σ H' => ∃ (u v : Option V) (L : List (NestedKey × Addr × V)) (Z : Tms), σ = [some (.ref l), some (.ref d), u, v] ∧ Same H H' ∧ H' d = some (DctN P w d L) ∧ EnsA H' L Z ∧ (Z.map (·.1)).Nodup ∧ Z.length ≤ i ∧ (∀ t ∈ Z, t.1.ok) ∧ ∀ k, fac Z k = fac (r.take i) k) ⟨none, none, [], [], rfl, s1, hd1, .nil, List.nodup_nil, Nat.le_refl _, by simp, fun _ => rfl⟩ (fun i σ H' _ ⟨_, _, _, _, _, s, _⟩ => SqL.of (s _ _ hl)) ?_ ?_
    · rintro i x σ H2 H3 hi ⟨u, v, L, Z, rfl, s2, hd2, hE, hn, hZ, hZo, hf⟩ ⟨rfl, hx⟩
      obtain ⟨t, hti, c, rfl, hc⟩ := (hT.same s2).get (i := i) hx
      refine ⟨_, rfl, d, L, rfl, hd2, hE.kys, ?_⟩
      have hrk := hro t (List.mem_of_getElem? hti)
      have hLl := hE.len
      refine ⟨_, rfl, c, _, 0, _, rfl, rfl, SqT.of hc, rfl, _, rfl, c, _, 1, _, rfl, rfl, SqT.of hc, rfl, (show 2 ≤ sizeLine by decide), fun e he => ?_⟩
      have s4 := sNew (o := .tup [.str (S t.1.nm), t.1.dv]) (Same.refl H3) he
      have he4 : upd H3 e (.tup [.str (S t.1.nm), t.1.dv]) e = some (.tup [.str (S t.1.nm), t.1.dv]) := upd_same
      generalize upd H3 e (.tup [.str (S t.1.nm), t.1.dv]) = H4 at *
      have hd4 := s4 _ _ hd2
      have hE4 := hE.same s4
      refine ⟨e, bmK t.1, L, rfl, hd4, hE4.kys, bm_mem he4, ?_⟩
      have ev : (valN L (bmK t.1)).getD (.int 0) = .int (fac Z t.1) := by
        rw [hE4.val hn]
        by_cases q : t.1 ∈ Z.map (·.1)
        · rw [if_pos q]; rfl
        · rw [if_neg q, fac_out q]; rfl
      rw [ev]
      have hc4 := s4 _ _ hc
      refine ⟨_, rfl, c, _, 2, _, rfl, rfl, SqT.of hc4, rfl, _, _, rfl, rfl, _, rfl, _, rfl, c, _, 0, _, rfl, rfl, SqT.of hc4, rfl, _, rfl, c, _, 1, _, rfl, rfl, SqT.of hc4, rfl, (show 2 ≤ sizeLine by decide), fun g hg => ?_⟩
      have s5 := sNew (o := .tup [.str (S t.1.nm), t.1.dv]) (Same.refl H4) hg
      have hg5 : upd H4 g (.tup [.str (S t.1.nm), t.1.dv]) g = some (.tup [.str (S t.1.nm), t.1.dv]) := upd_same
      generalize upd H4 g (.tup [.str (S t.1.nm), t.1.dv]) = H5 at *
      have hd5 := s5 _ _ hd4
      have hE5 := hE4.same s5
      refine ⟨d, g, bmK t.1, L, rfl, rfl, hd5, hE5.kys, bm_mem hg5, by rw [sizeLine_eq]; omega, ?_⟩
      refine ⟨_, _, _, putT Z t.1 (fac Z t.1 + t.2), rfl, sMut ((s2.trans s4).trans s5) hd, upd_same, ?_, putT_nd hn _ _, Nat.le_trans (putT_len _ _ _) (by omega), fun u hu => ?_, fun k => ?_⟩
      · exact Paired.impl (fun a b ⟨h1, h2, h3⟩ => ⟨h1, by rw [upd_ne (ne_of h2 hd5 (by intro z; cases z))]; exact h2, h3⟩) (hE5.put hn hg5)
      · rcases putT_mem hu with h | h
        · rw [h]; exact hrk
        · exact hZo u h
      · rw [putT_fac hn, fac_tk hti, hf, hf]
        by_cases q : k = t.1
        · subst q; simp
        · rw [if_neg q, if_neg (Ne.symm q)]; omega
    · rintro σ H2 ⟨u, v, L, Z, rfl, s2, hd2, hE, hn, hZ, hZo, hf⟩
      rw [List.take_of_length_le (by omega)] at hf
      refine ⟨d, _, hd2, trivial, fun od => ?_⟩
      have hLl := hE.len
      have hE3 : EnsA (upd H2 d (.frz od (DctN P w d L))) L Z := Paired.impl (fun a b ⟨h1, h2, h3⟩ => ⟨h1, by rw [upd_ne (ne_of h2 hd2 (by intro z; cases z))]; exact h2, h3⟩) hE
      have hd3 : upd H2 d (.frz od (DctN P w d L)) d = some (.frz od (DctN P w d L)) := upd_same
      refine ⟨_, rfl, d, od, L, rfl, upd_same, fun D hD => ?_⟩
      refine lc_it walk_keysN (fun i H' => ∃ ys : List V, H' D = some (.lst ys) ∧ Same (upd H2 d (.frz od (DctN P w d L))) H' ∧ TbA H' ys ((Z.take i).filter fun t => decide (t.2 ≠ 0))) ⟨[], upd_same, sNew (Same.refl _) hD, .nil⟩ (fun i H' _ ⟨_, _, s, _⟩ => s _ _ hd3) ?_ ?_
      · rintro i x H4 H5 hi ⟨ys, hy, s4, hTb⟩ ⟨rfl, e, hLi, rfl⟩
        obtain ⟨t, hti, he1, he2, he3⟩ := (hE3.same s4).get hLi
        have hE4 := hE3.same s4
        have hd4 := s4 _ _ hd3
        have htm := List.mem_of_getElem? hti
        have ef := filter_takeP (p := fun t : Bm × Int => decide (t.2 ≠ 0)) hti
        have hv : valN L (bmK t.1) = some (.int t.2) := by
          rw [hE4.val hn, if_pos (List.mem_map_of_mem htm), fac_in hn htm]
        have hys : ys.length ≤ 100 := by
          rw [hTb.len]
          exact Nat.le_trans (List.length_filter_le _ _) (by rw [List.length_take]; omega)
        refine ⟨rfl, _, rfl, _, rfl, d, e.2.1, od, bmK t.1, L, .int t.2, rfl, rfl, hd4, hE4.kys, bm_mem he2, hv, rfl, _, rfl, ?_⟩
        rw [dI]
        refine if2 (fun c => ?_) (fun c => ?_)
        · have hc : t.2 ≠ 0 := by simpa using c
          rw [if_pos (by simpa using hc)] at ef
          refine ⟨_, rfl, e.2.1, _, 0, _, rfl, rfl, SqT.of he2, rfl, _, rfl, e.2.1, _, 1, _, rfl, rfl, SqT.of he2, rfl, ?_⟩
          unfold tNil
          dsimp only
          refine rStrA_bm (hZo t htm) ?_
          refine ⟨_, rfl, _, rfl, d, e.2.1, od, bmK t.1, L, .int t.2, rfl, rfl, hd4, hE4.kys, bm_mem he2, hv, (show 3 ≤ sizeLine by decide), fun g hg => ?_⟩
          have s6 := sNew (o := .tup [.str (S t.1.nm), .str (S t.1.ds), .int t.2]) (Same.refl H5) hg
          have hg6 : upd H5 g (.tup [.str (S t.1.nm), .str (S t.1.ds), .int t.2]) g = some (.tup [.str (S t.1.nm), .str (S t.1.ds), .int t.2]) := upd_same
          generalize upd H5 g (.tup [.str (S t.1.nm), .str (S t.1.ds), .int t.2]) = H6 at *
          have hy6 := s6 _ _ hy
          refine ⟨_, hy6, by rw [sizeLine_eq]; omega, ys ++ [.ref g], upd_same, sMut (s4.trans s6) hD, ?_⟩
          rw [ef]
          exact ((hTb.same s6).mut hy6).snoc ⟨g, rfl, by rw [upd_ne (ne_of hg6 hy6 (by intro z; cases z))]; exact hg6⟩
        · have hc : t.2 = 0 := by simpa using c
          rw [if_neg (by simpa using hc), List.append_nil] at ef
          refine ⟨ys, hy, s4, ?_⟩
          rw [ef]
          exact hTb
      · rintro H4 ⟨ys, hy, s4, hTb⟩
        rw [List.take_of_length_le (by omega)] at hTb
        have nDd : D ≠ d := (ne_of_none hd3 hD).symm
        have hy5 : upd H4 d (DctN P w d L) D = some (.lst ys) := by rw [upd_ne nDd]; exact hy
        have hd4 := s4 _ _ hd3
        have hT5 : TbA (upd H4 d (DctN P w d L)) ys (Z.filter fun t => decide (t.2 ≠ 0)) := Paired.impl (fun v t ⟨a, e, q⟩ => ⟨a, e, by rw [upd_ne (ne_of q hd4 (by intro z; cases z))]; exact q⟩) hTb
        have s5 : Same H (upd H4 d (DctN P w d L)) := fun b o hb => by
          have nb : b ≠ d := ne_of_none hb hd
          rw [upd_ne nb]
          exact s4 _ _ (by rw [upd_ne nb]; exact s2 _ _ hb)
        refine ⟨hd4, D, _, _, rfl, SqL.of hy5, hT5.dt, mix_tb _, fun zs q hz hq => ?_⟩
        rw [srt_dataB] at hz
        have hz := dt_tbs hz
        refine kq _ q zs (srt tbD Z) (sNew s5 hq) upd_same (TbA.same (sNew (Same.refl _) hq) hz) ⟨srt_gd _ hn, ok_srt hZo, Nat.le_trans (srt_len _ _) (by omega), fun k => by rw [fac_srt, hf]⟩
def spLRefused : Sp := fun vs H Q _ => ∃ (t : List Nat) (n : Int), vs = [.str (S t), .int n] ∧ t.length ≤ 1000 ∧ t ≠ [] ∧ badAt t = some (t.length - 1) ∧ n < 0 ∧ ∀ H', Q (.bl true) H'
abbrev s_lrefused37 : Stmt := top 25
theorem sc_lrefused37 : FnScope ["_law_text_here", "_law_repeat", "_law_count", "e"] ["_law_text_here", "_law_repeat"] (defScope s_lrefused37) := ⟨rfl, rfl, rfl, by decide +kernel, rfl, by decide +kernel, by decide +kernel⟩
theorem ok_lrefused37 (T : TX K mg) (x_InvalidText : Ex1 P w K mg base "InvalidText" "place" (ga K "InvalidText")) (x_InvalidRepeat : Ex1 P w K mg base "InvalidRepeat" "repeat" (ga K "InvalidRepeat")) (eT : PySem.W.exmOne K (.ref (ga K "InvalidText")) (.ref (ga K "InvalidText")) = some true) (eR : PySem.W.exmOne K (.ref (ga K "InvalidRepeat")) (.ref (ga K "InvalidRepeat")) = some true) (k_Measure_1 : KMap P w K mg base 1 "Measure" (ga K "Measure") (spMeI K) []) (cm_Measure_of_signs : KCm P w K mg base 4 (ga K "Measure") "of_signs" (spMeS K)) (cm_Measure_of_rounds : KCm P w K mg base 3 (ga K "Measure") "of_rounds" (spMeR K)) {f : Addr} {fd : FuncData} (F : FunD K "_law_refused" "_law_refused" (defArgs s_lrefused37) (defBody s_lrefused37) (defScope s_lrefused37) [] [] f fd) : FnOk P w K mg base (CX P w) 6 f fd ["_law_text_here", "_law_repeat"] spLRefused := by
  refine F.ok sc_lrefused37 (fun vs H Q E h => ?_) (fun cdv A outer s H vs Q E hr h => ?_)
  · obtain ⟨t, n, rfl, _⟩ := h
    rfl
  · obtain ⟨t, n, rfl, hl, h0, hb, hn, kq⟩ := h
    refine ⟨_, (pss_cons (ps_set (i := 2) sc_lrefused37.nd rfl (Or.inl rfl) pe_int) (pss_cons (ps_try_as (i := 3) (Wout := fun cls d _ H => E cls d H) rfl rfl sc_lrefused37.nd rfl rfl ⟨rfl, by decide, Or.inl x_InvalidText.gC⟩ (takes_of rfl rfl rfl rfl) (fun W pn xe tk ps => (pss_one (ps_expr (kcmx cm_Measure_of_signs tk hr (by decide) (kgC k_Measure_1 rfl) (pa_cons (pv 0) pa_nil))))) (fun a oe cls d pn hz hf => (pss_one (ps_set (i := 2) sc_lrefused37.nd rfl (Or.inl rfl) (pe_op op_add (pv 2) (pe_callTy call_int1 (by rfl) T.b_int (by decide +kernel) (pa_cons (pe_cmpR op_eq (pe_xf x_InvalidText.xf x_InvalidText.no hz hf (pv 3)) (pe_op op_sub (pe_callB call_lenS (by rfl) T.b_len PySem.boot_len (pa_cons (pv 0) pa_nil)) pe_int) (nomark _)) pa_nil))))))) (pss_cons (ps_try_as (i := 3) (Wout := fun cls d _ H => E cls d H) rfl rfl sc_lrefused37.nd rfl rfl ⟨rfl, by decide, Or.inl x_InvalidRepeat.gC⟩ (takes_of rfl rfl rfl rfl) (fun W pn xe tk ps => (pss_one (ps_expr (kcmx cm_Measure_of_rounds tk hr (by decide) (kgC k_Measure_1 rfl) (pa_cons (pv 1) pa_nil))))) (fun a oe cls d pn hz hf => (pss_one (ps_set (i := 2) sc_lrefused37.nd rfl (Or.inl rfl) (pe_op op_add (pv 2) (pe_callTy call_int1 (by rfl) T.b_int (by decide +kernel) (pa_cons (pe_cmpR op_eq (pe_xf x_InvalidRepeat.xf x_InvalidRepeat.no hz hf (pv 3)) (pv 1) (nomark _)) pa_nil))))))) (pss_one (ps_ret (pe_cmpR op_eq (pv 2) pe_int (nomark _))))))), ?_⟩
    have hp := List.length_pos_iff.mpr h0
    refine ⟨rfl, _, rfl, t, rfl, fun z => ?_, fun i hi H1 d s1 hd => ?_⟩
    · rw [hb] at z
      cases z
    rw [hb] at hi
    cases hi
    refine ⟨true, eT, fun _ a0 ha0 => ?_, fun z => Bool.noConfusion z⟩
    have s2 := Same.new (o := .xd [("place", .int ((t.length - 1 : Nat) : Int))]) s1 hd
    refine ⟨_, rfl, _, rfl, rfl, rfl, d, _, _, rfl, upd_same, rfl, _, rfl, _, rfl, by omega, _, _, rfl, rfl, rfl, .inr ⟨_, rfl, _, _, rfl, rfl, ?_⟩⟩
    have e1 : decide (V.int ((t.length - 1 : Nat) : Int) = V.int ((t.length : Int) - 1)) = true := by
      rw [dI]
      exact decide_eq_true (by omega)
    rw [e1]
    refine ⟨rfl, _, rfl, n, rfl, fun _ H2 d2 s3 hd2 => ?_, fun m e => by omega⟩
    refine ⟨true, eR, fun _ a1 ha1 => ?_, fun z => Bool.noConfusion z⟩
    refine ⟨_, rfl, _, rfl, rfl, rfl, d2, _, _, rfl, upd_same, rfl, _, rfl, rfl, .inr ⟨_, rfl, _, _, rfl, rfl, ?_⟩⟩
    have e2 : decide (V.int n = V.int n) = true := decide_eq_true rfl
    rw [e2]
    refine ⟨_, rfl, rfl, ?_⟩
    rw [dI]
    exact kq _
def spText : Sp := fun vs H Q _ => ∃ (b l : Addr) (sg : List Nat) (m : Int), vs = [.ref b, .str (S sg), .int m] ∧ Box H b l ∧ 0 ≤ m ∧ m ≤ 1000 ∧ sg ≠ [] ∧ sg.length ≤ 1000 ∧ ∀ H' (t : List Nat), Kp [b, l] H H' → Box H' b l → (t.length : Int) ≤ m → (∀ c ∈ t, c ∈ sg) → Q (.str (S t)) H'
abbrev s_text : Stmt := top 18
theorem sc_text : FnScope ["_law_box_here", "_law_signs_here", "_law_most", "_law_size", "_law_k"] ["_law_box_here", "_law_signs_here", "_law_most"] (defScope s_text) := ⟨rfl, rfl, rfl, by decide +kernel, rfl, by decide +kernel, by decide +kernel⟩
theorem ok_text (T : TX K mg) (c__law_take : KCal P w K mg base 1 "_law_take" spTake []) {f : Addr} {fd : FuncData} (F : FnP K "_law_text" s_text f fd) : FnOk P w K mg base (CX P w) 2 f fd ["_law_box_here", "_law_signs_here", "_law_most"] spText := by
  refine F.ok sc_text (fun vs H Q E h => ?_) (fun cdv A outer s H vs Q E hr h => ?_)
  · obtain ⟨b, l, sg, m, rfl, _⟩ := h
    rfl
  · obtain ⟨b, l, sg, m, rfl, B, hm, hm2, hne, hsl, k⟩ := h
    refine ⟨_, (pss_cons (ps_set (i := 3) sc_text.nd rfl (Or.inl rfl) (kc c__law_take hr (by decide) rfl (pa_cons (pv 0) (pa_cons (pe_op op_add (pv 2) pe_int) pa_nil)))) (pss_one (ps_ret (pe_join0 (pe_strS [] (by decide +kernel)) (pe_lc (own := [("_law_k", 4)]) rfl sc_text.nd (pi_range1 (by rfl) T.b_range (pa_cons (pv 3) pa_nil)) (blkOk_by (own := [("_law_k", 4)]) (N := ["_law_box_here", "_law_signs_here", "_law_most", "_law_size", "_law_k"]) (sc := defScope s_text) (by decide +kernel)) (fun _ _ _ _ _ => (pg_name (i := 4) sc_text.nd rfl (Or.inl rfl))) (fun _ _ _ _ _ => pts_nil) (fun _ _ _ _ _ => (pe_ix ix_S (pv 1) (kc c__law_take hr (by decide) rfl (pa_cons (pv 0) (pa_cons (pe_callB call_lenS (by rfl) T.b_len PySem.boot_len (pa_cons (pv 1) pa_nil)) pa_nil))) (fun _ _ => rfl)))))))), ?_⟩
    refine ⟨_, rfl, _, rfl, _, _, rfl, rfl, b, l, m + 1, rfl, B, by omega, by omega, fun H1 r k1 B1 r0 r1 => ?_⟩
    refine ⟨⟨_, rfl⟩, _, rfl, r, rfl, by omega, by omega, fun D hD => ?_⟩
    have nDb : b ≠ D := fun q => by obtain ⟨_, _, _, _, hb, _⟩ := B1; rw [q, hD] at hb; cases hb
    have nDl : l ≠ D := fun q => by obtain ⟨_, _, _, _, _, hb, _⟩ := B1; rw [q, hD] at hb; cases hb
    refine lc_range (lo := 0) (n := r.toNat) (fun i H2 => ∃ ys : List (List Nat), H2 D = some (.lst (ys.map fun y => V.str (S y))) ∧ Kp [b, l] H1 H2 ∧ Box H2 b l ∧ ys.length = i ∧ ys.flatten.length = i ∧ ∀ c ∈ ys.flatten, c ∈ sg) ?_ ?_ ?_
    · refine ⟨[], upd_same, Kp.refl.new hD, B1.new hD, rfl, rfl, by simp⟩
    · rintro i H2 hi ⟨ys, hY, k2, B2, e1, e2, hc⟩
      refine ⟨rfl, ?_⟩
      refine ⟨_, rfl, _, rfl, _, rfl, _, rfl, by omega, b, l, (sg.length : Int), rfl, B2, ?_, by omega, fun H3 q k3 B3 q0 q1 => ?_⟩
      · have := List.length_pos_iff.mpr hne
        omega
      have hq : q.toNat < sg.length := by omega
      refine ⟨_, _, _, rfl, rfl, by omega, q0, List.getElem?_eq_getElem hq, ?_⟩
      have hD3 := k3 D _ (by simp [nDb.symm, nDl.symm]) hY
      refine ⟨_, hD3, ?_, ys ++ [[sg[q.toNat]]], ?_, (k2.trans k3).mut hD, B3.mut (nDb.symm) (nDl.symm), ?_, ?_, ?_⟩
      · rw [List.length_map]; exact ltSz (by omega)
      · rw [upd_same, List.map_append]; rfl
      · simp [e1]
      · simp [e2]
      · intro c hc'
        simp at hc'
        rcases hc' with ⟨y, hy, hy2⟩ | rfl
        · exact hc c (by simp; exact ⟨y, hy, hy2⟩)
        · exact List.getElem_mem hq
    · rintro H2 ⟨ys, hY, k2, B2, e1, e2, hc⟩
      refine ⟨_, _, rfl, rfl, SqL.of hY, by omega, ?_⟩
      exact k _ _ (k1.trans k2) B2 (by omega) hc
def Row8 (K : PySem.W.Frag) (H : Hp) (v w : V) (r : Tms) : Prop := ∃ m l ts, v = .ref m ∧ w = .ref l ∧ MeAt K H m ts ∧ MsOf 20 ts r ∧ RwA H l r ∧ r.length ≤ 20 ∧ ∀ t ∈ r, t.1.ok
theorem Row8.same {K : PySem.W.Frag} {H H' : Hp} {v w : V} {r : Tms} (s : Same H H') (h : Row8 K H v w r) : Row8 K H' v w r := by
  obtain ⟨m, l, ts, e1, e2, h1, h2, h3, h4⟩ := h
  exact ⟨m, l, ts, e1, e2, h1.same s, h2, h3.same s, h4⟩
theorem TsA.app {H : Hp} {xs ys : List V} {a b : Tms} (h : TsA H xs a) (k : TsA H ys b) : TsA H (xs ++ ys) (a ++ b) := by
  induction h with
  | nil => exact k
  | cons c _ ih => exact .cons c ih
theorem ok_app {a b : Tms} (ha : ∀ t ∈ a, t.1.ok) (hb : ∀ t ∈ b, t.1.ok) : ∀ t ∈ a ++ b, t.1.ok := fun t h => (List.mem_append.mp h).elim (ha t) (hb t)
theorem ok_map {a : Tms} {f : Bm × Int → Int} (ha : ∀ t ∈ a, t.1.ok) : ∀ t ∈ a.map fun t => (t.1, f t), t.1.ok := fun t h => by
  obtain ⟨u, hu, rfl⟩ := List.mem_map.mp h
  exact ha u hu
theorem RwA.kp {H H' : Hp} {b l p : Addr} {r : Tms} (B : Box H b l) (k : Kp [b, l] H H') (hp : p ∉ [b, l]) (h : RwA H p r) : RwA H' p r := by
  obtain ⟨xs, h1, h2⟩ := h
  exact ⟨xs, k p _ hp h1, Paired.impl (fun v t ⟨a, e, q⟩ => ⟨a, e, k a _ (B.notup q) q⟩) h2⟩
theorem Box.noins {H : Hp} {b l a C dx : Addr} {fs : List (Str × V)} (B : Box H b l) (h : H a = some (.ins C dx fs)) : a ∉ [b, l] := by
  obtain ⟨_, _, _, _, hb, hl, _⟩ := B
  intro q
  rcases List.mem_cons.mp q with rfl | q
  · rw [hb] at h; cases h
  · rcases List.mem_cons.mp q with rfl | q
    · rw [hl] at h; cases h
    · cases q
theorem MeAt.kp {K : PySem.W.Frag} {H H' : Hp} {b l p : Addr} {ts : Tms} (B : Box H b l) (k : Kp [b, l] H H') (h : MeAt K H p ts) : MeAt K H' p ts := by
  obtain ⟨dx, tp, xs, h1, h2, h3⟩ := h
  exact ⟨dx, tp, xs, k _ _ (B.noins h1) h1, k _ _ (B.notup h2) h2, Paired.impl (fun v t ⟨a, e, q⟩ => ⟨a, e, k a _ (B.notup q) q⟩) h3⟩
theorem Box.new_no {H : Hp} {b l a : Addr} (B : Box H b l) (h : H a = none) : a ∉ [b, l] := by
  obtain ⟨_, _, _, _, hb, hl, _⟩ := B
  intro q
  rcases List.mem_cons.mp q with rfl | q
  · rw [hb] at h; cases h
  · rcases List.mem_cons.mp q with rfl | q
    · rw [hl] at h; cases h
    · cases q
structure Ctx37 (K : PySem.W.Frag) (H : Hp) (b l lr lm p0 p1 p2 m0 m1 m2 : Addr) (r0 r1 r2 t0 t1 t2 : Tms) : Prop where
  hr : H lr = some (.lst [.ref p0, .ref p1, .ref p2])
  hm : H lm = some (.lst [.ref m0, .ref m1, .ref m2])
  w0 : RwA H p0 r0
  w1 : RwA H p1 r1
  w2 : RwA H p2 r2
  e0 : MeAt K H m0 t0
  e1 : MeAt K H m1 t1
  e2 : MeAt K H m2 t2
  o0 : MsOf 3 t0 r0
  o1 : MsOf 3 t1 r1
  o2 : MsOf 3 t2 r2
  q0 : RwT 3 r0
  q1 : RwT 3 r1
  q2 : RwT 3 r2
  n : lr ∉ [b, l] ∧ lm ∉ [b, l] ∧ p0 ∉ [b, l] ∧ p1 ∉ [b, l] ∧ p2 ∉ [b, l]
theorem Ctx37.same {K : PySem.W.Frag} {H H' : Hp} {b l lr lm p0 p1 p2 m0 m1 m2 : Addr} {r0 r1 r2 t0 t1 t2 : Tms} (s : Same H H') (c : Ctx37 K H b l lr lm p0 p1 p2 m0 m1 m2 r0 r1 r2 t0 t1 t2) : Ctx37 K H' b l lr lm p0 p1 p2 m0 m1 m2 r0 r1 r2 t0 t1 t2 :=
  ⟨s _ _ c.hr, s _ _ c.hm, c.w0.same s, c.w1.same s, c.w2.same s, c.e0.same s, c.e1.same s, c.e2.same s, c.o0, c.o1, c.o2, c.q0, c.q1, c.q2, c.n⟩
theorem Ctx37.kp {K : PySem.W.Frag} {H H' : Hp} {b l lr lm p0 p1 p2 m0 m1 m2 : Addr} {r0 r1 r2 t0 t1 t2 : Tms} (B : Box H b l) (k : Kp [b, l] H H') (c : Ctx37 K H b l lr lm p0 p1 p2 m0 m1 m2 r0 r1 r2 t0 t1 t2) : Ctx37 K H' b l lr lm p0 p1 p2 m0 m1 m2 r0 r1 r2 t0 t1 t2 := by
  obtain ⟨n1, n2, n3, n4, n5⟩ := c.n
  exact ⟨k _ _ n1 c.hr, k _ _ n2 c.hm, c.w0.kp B k n3, c.w1.kp B k n4, c.w2.kp B k n5, c.e0.kp B k, c.e1.kp B k, c.e2.kp B k, c.o0, c.o1, c.o2, c.q0, c.q1, c.q2, c.n⟩
def RwO (b l : Addr) (H : Hp) (v : V) (r : Tms) : Prop := ∃ p, v = .ref p ∧ RwA H p r ∧ RwT 3 r ∧ p ∉ [b, l]
def MeO (K : PySem.W.Frag) (H : Hp) (v : V) (r : Tms) : Prop := ∃ m ts, v = .ref m ∧ MeAt K H m ts ∧ MsOf 3 ts r
theorem tb_eqv (x y : Bm × Int) : PyData.eqv (tbD x) (tbD y) = decide (x = y) := by
  obtain ⟨k, f⟩ := x
  obtain ⟨l, g⟩ := y
  have e0 : PyData.eqv (tbD (k, f)) (tbD (l, g)) = ((S k.nm == S l.nm) && ((S k.ds == S l.ds) && (f == g && true))) := by
    simp only [tbD, PyData.eqv, PyData.eqvAll]
  rw [e0, S_beq, S_beq]
  by_cases h : k = l
  · subst h
    rw [Bool.eq_iff_iff]; simp
  · have : ¬ (k.nm = l.nm ∧ k.ds = l.ds) := fun ⟨h1, h2⟩ => h (by
      cases k <;> cases l <;> simp [Bm.nm, Bm.ds] at h1 h2 ⊢ <;> omega)
    rw [Bool.eq_iff_iff]
    simp only [Bool.and_eq_true, decide_eq_true_eq, Prod.mk.injEq]
    exact ⟨fun ⟨h1, h2, _⟩ => absurd ⟨h1, h2⟩ this, fun ⟨h1, _⟩ => absurd h1 h⟩
theorem ds_strOk : ∀ n : Fin 10, PyData.strOk (S [48 + n.val]) = true := by decide +kernel
theorem tb_lay {t : Bm × Int} (h : t.1.ok) : PyData.canLay0 (tbD t) = true ∧ PyData.depth (tbD t) ≤ 2 := by
  have h1 : PyData.strOk (S t.1.ds) = true := by
    obtain ⟨k, f⟩ := t
    cases k with
    | sg c => exact sg_strOk c h
    | rd n => exact ds_strOk ⟨n, h⟩
    | _ => exact (by decide +kernel : PyData.strOk (S [48]) = true)
  have h2 : PyData.strOk (S t.1.nm) = true := by cases t.1 <;> simp only [Bm.nm] <;> decide +kernel
  refine ⟨?_, ?_⟩
  · simp [tbD, PyData.canLay0, PyData.canLayAll0, h1, h2]
  · simp [tbD, PyData.depth, PyData.depthAll]
theorem tb_shaped {ts : Tms} (h : ∀ t ∈ ts, t.1.ok) : SeqAt.shaped (.list (ts.map tbD)) = true := by
  have h1 : PyData.canLayAll0 (ts.map tbD) = true := lay_map fun t q => (tb_lay (h t q)).1
  have h2 : PyData.depthAll (ts.map tbD) ≤ 2 := dep_map fun t q => (tb_lay (h t q)).2
  simp [SeqAt.shaped, PyData.canLay0, PyData.depth, h1]
  omega
theorem tb_eq {a b r s : Tms} (ha : TbOf a r) (hb : TbOf b s) : (a = b) ↔ ∀ k, fac r k = fac s k := by
  constructor
  · intro e k
    rw [← ha.fa, ← hb.fa, e]
  · intro h
    exact gd_eq tb_inj ha.nf hb.nf fun k => by rw [ha.fa, hb.fa, h]
theorem TbA.dp {K : PySem.W.Frag} {H : Hp} {q : Addr} {ys : List V} {T : Tms} (hq : H q = some (.lst ys)) (h : TbA H ys T) : Dp K H (.ref q) (.list (T.map tbD)) := .lst (SqL.of hq) (DtAll.dp (K := K) _ _ h.dt).1
theorem lists_eq {a b : Tms} : PyData.eqv (.list (a.map tbD)) (.list (b.map tbD)) = decide (a = b) := by
  simp only [PyData.eqv]
  exact eqv_map tb_eqv a b
theorem inTx37 (c : Nat) : ∀ l : List Nat, inV (V.str (S [c])) (l.map fun d => V.str (S [d])) = decide (c ∈ l)
  | [] => rfl
  | d :: l => by
    show (eqV (V.str (S [d])) (V.str (S [c])) || inV (V.str (S [c])) (l.map fun d => V.str (S [d]))) = _
    have e : eqV (V.str (S [d])) (V.str (S [c])) = decide (c = d) := by
      by_cases h : c = d
      · subst h; simp [eqV]
      · rw [decide_eq_false h]
        simp only [eqV]
        exact decide_eq_false fun z => h (by have := SX.S_inj (by simpa using z : S [d] = S [c]); simpa using this.symm)
    rw [e, inTx37 c l]
    by_cases h1 : c = d <;> by_cases h2 : c ∈ l <;> simp [h1, h2]
theorem flatTx37 (l : List Nat) : (l.map fun d => V.str (S [d])).all flatV = true := by
  rw [List.all_eq_true]
  intro x hx
  obtain ⟨k, _, rfl⟩ := List.mem_map.mp hx
  rfl
theorem sgs_fac {D : Bm × Int → PyData} {a r : Tms} (n : Nf D a) (h : ∀ k, fac a k = fac r k) (c : Nat) : c ∈ sgs a ↔ fac r (.sg c) ≠ 0 := by
  rw [sgs_mem, ← h]
  constructor
  · rintro ⟨f, hf⟩
    have := (gd_mem n _).mp hf
    rw [this.1]
    exact this.2
  · intro q
    exact ⟨_, (gd_mem n (.sg c, fac a (.sg c))).mpr ⟨rfl, q⟩⟩
theorem asc_congr {a b : List Nat} (h : ∀ c, c ∈ a ↔ c ∈ b) : asc a = asc b := by
  unfold asc
  congr 1
  funext c
  exact decide_eq_decide.mpr (h c)
theorem ys_nat {t : List Nat} : ∀ {ys : List Str}, (∀ x ∈ ys, x ∈ t.map fun c => S [c]) → ∃ zs : List Nat, ys = zs.map fun c => S [c]
  | [], _ => ⟨[], rfl⟩
  | y :: ys, h => by
    obtain ⟨zs, e⟩ := ys_nat (ys := ys) fun x hx => h x (.tail _ hx)
    obtain ⟨c, _, e2⟩ := List.mem_map.mp (h y (.head _))
    exact ⟨c :: zs, by rw [e, List.map_cons, e2]⟩
theorem S1_inj {c d : Nat} (h : S [c] = S [d]) : c = d := by simpa using SX.S_inj h
theorem bad_none {t : List Nat} (h : ∀ c ∈ t, c ∈ sgn) : badAt t = none := by
  unfold badAt
  rw [List.findIdx?_eq_none_iff]
  intro c hc
  simp [h c hc]
theorem bad_tab {t : List Nat} (h : ∀ c ∈ t, c ∈ sgn) : badAt (t ++ [9]) = some ((t ++ [9]).length - 1) := by
  unfold badAt
  rw [List.findIdx?_eq_some_iff_getElem]
  refine ⟨by simp, ?_, fun j hj => ?_⟩
  · have h9 : (9 : Nat) ∉ sgn := by decide
    have : (t ++ [9])[(t ++ [9]).length - 1]? = some 9 := by simp
    have e : ∀ hh, (t ++ [9])[(t ++ [9]).length - 1]'hh = 9 := fun hh => by
      rw [List.getElem?_eq_getElem hh] at this
      exact Option.some.inj this
    rw [e]
    simp [h9]
  · have hj' : j < t.length := by simp at hj; exact hj
    rw [List.getElem_append_left hj']
    simp [h _ (List.getElem_mem hj')]
abbrev sg1 (zs : List Nat) : Tms := zs.map fun c => (Bm.sg c, (1 : Int))
theorem fac_sg1 {zs t : List Nat} (hn : zs.Nodup) (hm : ∀ c, c ∈ zs ↔ c ∈ t) (hs : ∀ c ∈ t, c ∈ sgn) (k : Bm) : fac (sg1 zs) k = fac (onesM t) k := by
  have hn' : ((sg1 zs).map (·.1)).Nodup := by
    rw [List.map_map]
    exact List.Pairwise.map _ (fun a b h z => h (by injection z)) hn
  rw [fac_ones]
  cases k with
  | sg c =>
    show _ = if c ∈ sgn ∧ c ∈ t then (1 : Int) else 0
    by_cases h : c ∈ t
    · rw [if_pos ⟨hs c h, h⟩]
      exact fac_in hn' (t := (.sg c, 1)) (List.mem_map.mpr ⟨c, (hm c).mpr h, rfl⟩)
    · rw [if_neg fun z => h z.2]
      refine fac_out fun q => h ?_
      obtain ⟨u, hu, e⟩ := List.mem_map.mp q
      obtain ⟨d, hd, rfl⟩ := List.mem_map.mp hu
      injection e with e
      subst e
      exact (hm _).mp hd
  | _ =>
    refine fac_out fun q => ?_
    obtain ⟨u, hu, e⟩ := List.mem_map.mp q
    obtain ⟨d, hd, rfl⟩ := List.mem_map.mp hu
    cases e

abbrev s_law : Stmt := top 26
theorem sc_law : FnScope ["_law_script", "_law_box_here", "_law_menu", "_law_rows", "_law_made", "_law_factor", "_law_minus", "_law_times", "_law_told", "_law_dues", "_law_j", "_law_text_here", "_law_whole", "_law_sign", "_law_k", "_law_kept", "_law_row", "_law_term"] ["_law_script"] (defScope s_law) := ⟨rfl, rfl, rfl, by decide +kernel, rfl, by decide +kernel, by decide +kernel⟩
theorem ok_law (T : TX K mg) (o_Measure : IntMul K (ga K "Measure")) (c__law_box : KCal P w K mg base 1 "_law_box" (spBox K) []) (c__law_signs : KCal P w K mg base 1 "_law_signs" spSigns []) (c__law_take : KCal P w K mg base 1 "_law_take" spTake []) (c__law_text : KCal P w K mg base 2 "_law_text" spText []) (c__law_terms : KCal P w K mg base 2 "_law_terms" (spLTerms K) []) (c__law_measure : KCal P w K mg base 7 "_law_measure" (spLMeas K) []) (c__law_table : KCal P w K mg base 2 "_law_table" (spLTab K) []) (c__law_refused : KCal P w K mg base 6 "_law_refused" spLRefused []) (k_Measure_1 : KMap P w K mg base 1 "Measure" (ga K "Measure") (spMeI K) []) (cm_Measure_of_nothing : KCm P w K mg base 3 (ga K "Measure") "of_nothing" (spMeC K [])) (cm_Measure_of_signs : KCm P w K mg base 4 (ga K "Measure") "of_signs" (spMeS K)) (m_Measure___add__ : KMet P w K mg base 3 (ga K "Measure") "__add__" (spMeAdd K)) (m_Measure___sub__ : KMet P w K mg base 4 (ga K "Measure") "__sub__" (spMeSub K)) (m_Measure___neg__ : KMet P w K mg base 3 (ga K "Measure") "__neg__" (spMeNeg K)) (m_Measure___mul__ : KMet P w K mg base 3 (ga K "Measure") "__mul__" (spMeMul K)) (m_Measure___rmul__ : KMet P w K mg base 3 (ga K "Measure") "__rmul__" (spMeMul K)) (m_Measure___eq__ : KMet P w K mg base 1 (ga K "Measure") "__eq__" (spMeEq K)) (p_Measure_counted : KPrp P w K mg base 3 (ga K "Measure") "counted" (spCnt K)) {f : Addr} {fd : FuncData} (F : FunD K "law" "law" (defArgs s_law) (defBody s_law) (defScope s_law) [] [] f fd) : FnOk P w K mg base (CX P w) 30 f fd ["_law_script"] (spLaw K) := by
  refine F.ok sc_law (fun vs H Q E h => ?_) (fun cdv A outer s H vs Q E hr h => ?_)
  · obtain ⟨a, ns, rfl, _⟩ := h
    rfl
  · obtain ⟨a, ns, rfl, hS, kend⟩ := h
    refine ⟨_, (pss_cons (ps_set (i := 1) sc_law.nd rfl (Or.inr rfl) (kc c__law_box hr (by decide) rfl (pa_cons (pv 0) pa_nil))) (pss_cons (ps_set (i := 2) sc_law.nd rfl (Or.inr rfl) (pe_op op_addS (pe_strS [97, 10] (by decide +kernel)) (pe_ix ix_S (kc0 c__law_signs hr (by decide) rfl) (kc c__law_take hr (by decide) rfl (pa_cons (pv 1) (pa_cons pe_int pa_nil))) (fun _ _ => rfl)))) (pss_cons (ps_setLc (i := 3) (own := [("_law_k", 14)]) rfl sc_law.nd rfl rfl (sw_true rfl rfl rfl (by decide +kernel)) (pi_range1 (by rfl) T.b_range (pa_cons pe_int pa_nil)) (blkOk_by (own := [("_law_k", 14)]) (N := ["_law_script", "_law_box_here", "_law_menu", "_law_rows", "_law_made", "_law_factor", "_law_minus", "_law_times", "_law_told", "_law_dues", "_law_j", "_law_text_here", "_law_whole", "_law_sign", "_law_k", "_law_kept", "_law_row", "_law_term"]) (sc := defScope s_law) (by decide +kernel)) (fun _ _ _ _ _ => (pg_name (i := 14) sc_law.nd rfl (Or.inl rfl))) (fun _ _ _ _ _ => pts_nil) (fun _ _ _ _ _ => (kc c__law_terms hr (by decide) rfl (pa_cons (pv 1) (pa_cons pe_int (pa_cons (pv 2) pa_nil)))))) (pss_cons (ps_setLc (i := 4) (own := [("_law_row", 16)]) rfl sc_law.nd rfl rfl (sw_true rfl rfl rfl (by decide +kernel)) (pi_list (pv 3)) (blkOk_by (own := [("_law_row", 16)]) (N := ["_law_script", "_law_box_here", "_law_menu", "_law_rows", "_law_made", "_law_factor", "_law_minus", "_law_times", "_law_told", "_law_dues", "_law_j", "_law_text_here", "_law_whole", "_law_sign", "_law_k", "_law_kept", "_law_row", "_law_term"]) (sc := defScope s_law) (by decide +kernel)) (fun _ _ _ _ _ => (pg_name (i := 16) sc_law.nd rfl (Or.inl rfl))) (fun _ _ _ _ _ => pts_nil) (fun _ _ _ _ _ => (kc c__law_measure hr (by decide) rfl (pa_cons (pv 16) pa_nil)))) (pss_cons (ps_set (i := 5) sc_law.nd rfl (Or.inr rfl) (pe_ix ix_list (pe_lst (pa_cons (pe_op op_sub (kc c__law_take hr (by decide) rfl (pa_cons (pv 1) (pa_cons pe_int pa_nil))) pe_int) (pa_cons (kc c__law_take hr (by decide) rfl (pa_cons (pv 1) (pa_cons (pe_op op_pow pe_int pe_int) pa_nil))) (pa_cons (pe_op op_sub pe_int (kc c__law_take hr (by decide) rfl (pa_cons (pv 1) (pa_cons (pe_op op_pow pe_int pe_int) pa_nil)))) pa_nil)))) (kc c__law_take hr (by decide) rfl (pa_cons (pv 1) (pa_cons pe_int pa_nil))) (fun _ _ => rfl))) (pss_cons (ps_setLc (i := 6) (own := [("_law_term", 17)]) rfl sc_law.nd rfl rfl (sw_true rfl rfl rfl (by decide +kernel)) (pi_list (pe_ix ix_list (pv 3) pe_int (fun _ _ => rfl))) (blkOk_by (own := [("_law_term", 17)]) (N := ["_law_script", "_law_box_here", "_law_menu", "_law_rows", "_law_made", "_law_factor", "_law_minus", "_law_times", "_law_told", "_law_dues", "_law_j", "_law_text_here", "_law_whole", "_law_sign", "_law_k", "_law_kept", "_law_row", "_law_term"]) (sc := defScope s_law) (by decide +kernel)) (fun _ _ _ _ _ => (pg_name (i := 17) sc_law.nd rfl (Or.inl rfl))) (fun _ _ _ _ _ => pts_nil) (fun _ _ _ _ _ => (pe_tup (pa_cons (pe_ix (ix_tupK (K := K) rfl) (pv 17) pe_int (fun _ _ => rfl)) (pa_cons (pe_ix (ix_tupK (K := K) rfl) (pv 17) pe_int (fun _ _ => rfl)) (pa_cons (pe_op op_sub pe_int (pe_ix (ix_tupK (K := K) rfl) (pv 17) pe_int (fun _ _ => rfl))) pa_nil)))))) (pss_cons (ps_setLc (i := 7) (own := [("_law_term", 17)]) rfl sc_law.nd rfl rfl (sw_true rfl rfl rfl (by decide +kernel)) (pi_list (pe_ix ix_list (pv 3) pe_int (fun _ _ => rfl))) (blkOk_by (own := [("_law_term", 17)]) (N := ["_law_script", "_law_box_here", "_law_menu", "_law_rows", "_law_made", "_law_factor", "_law_minus", "_law_times", "_law_told", "_law_dues", "_law_j", "_law_text_here", "_law_whole", "_law_sign", "_law_k", "_law_kept", "_law_row", "_law_term"]) (sc := defScope s_law) (by decide +kernel)) (fun _ _ _ _ _ => (pg_name (i := 17) sc_law.nd rfl (Or.inl rfl))) (fun _ _ _ _ _ => pts_nil) (fun _ _ _ _ _ => (pe_tup (pa_cons (pe_ix (ix_tupK (K := K) rfl) (pv 17) pe_int (fun _ _ => rfl)) (pa_cons (pe_ix (ix_tupK (K := K) rfl) (pv 17) pe_int (fun _ _ => rfl)) (pa_cons (pe_op op_mul (pe_ix (ix_tupK (K := K) rfl) (pv 17) pe_int (fun _ _ => rfl)) (pv 5)) pa_nil)))))) (pss_cons (ps_set (i := 8) sc_law.nd rfl (Or.inl rfl) (pe_op op_cat (pe_lst (pa_cons (pe_OO m_Measure___add__ o_Measure.sf (takes_of rfl rfl rfl rfl) hr (by decide) (pe_ix ix_list (pv 4) pe_int (fun _ _ => rfl)) (pe_ix ix_list (pv 4) pe_int (fun _ _ => rfl))) (pa_cons (pe_OO m_Measure___sub__ o_Measure.sf (takes_of rfl rfl rfl rfl) hr (by decide) (pe_ix ix_list (pv 4) pe_int (fun _ _ => rfl)) (pe_ix ix_list (pv 4) pe_int (fun _ _ => rfl))) (pa_cons (pe_negO m_Measure___neg__ (takes_of rfl rfl rfl rfl) hr (by decide) (pe_ix ix_list (pv 4) pe_int (fun _ _ => rfl))) (pa_cons (pe_OI m_Measure___mul__ m_Measure___rmul__.fnd o_Measure (takes_of rfl rfl rfl rfl) hr (by decide) (pe_ix ix_list (pv 4) pe_int (fun _ _ => rfl)) (pv 5)) (pa_cons (pe_IO m_Measure___rmul__ m_Measure___mul__.fnd o_Measure (takes_of rfl rfl rfl rfl) hr (by decide) (pv 5) (pe_ix ix_list (pv 4) pe_int (fun _ _ => rfl))) pa_nil)))))) (pv 4))) (pss_cons (ps_set (i := 9) sc_law.nd rfl (Or.inl rfl) (pe_op op_cat (pe_lst (pa_cons (pe_op op_cat (pe_ix ix_list (pv 3) pe_int (fun _ _ => rfl)) (pe_ix ix_list (pv 3) pe_int (fun _ _ => rfl))) (pa_cons (pe_op op_cat (pe_ix ix_list (pv 3) pe_int (fun _ _ => rfl)) (pv 6)) (pa_cons (pv 6) (pa_cons (pv 7) (pa_cons (pv 7) pa_nil)))))) (pv 3))) (pss_cons (ps_for (passes_of rfl) rfl (pi_range1 (by rfl) T.b_range (pa_cons (pe_callB call_len_seq (by rfl) T.b_len PySem.boot_len (pa_cons (pv 8) pa_nil)) pa_nil)) (pg_name (i := 10) sc_law.nd rfl (Or.inl rfl)) (pss_cons (ps_for (passes_of rfl) rfl (pi_range1 (by rfl) T.b_range (pa_cons (pe_callB call_len_seq (by rfl) T.b_len PySem.boot_len (pa_cons (pv 8) pa_nil)) pa_nil)) (pg_name (i := 14) sc_law.nd rfl (Or.inl rfl)) (pss_one (ps_if (pt_cmpR op_ne (pe_cmpR (op_eqO m_Measure___eq__ hr.units hr (by decide)) (pe_ix ix_list (pv 8) (pv 10) (fun _ _ => rfl)) (pe_ix ix_list (pv 8) (pv 14) (fun _ _ => rfl)) (nomark _)) (pe_cmpR (op_eqD hr.units) (kc c__law_table hr (by decide) rfl (pa_cons (pe_ix ix_list (pv 9) (pv 10) (fun _ _ => rfl)) pa_nil)) (kc c__law_table hr (by decide) rfl (pa_cons (pe_ix ix_list (pv 9) (pv 14) (fun _ _ => rfl)) pa_nil)) (nomark _)) (nomark _)) (pss_one (ps_ret pe_bl)) pss_nil))) (pss_cons (ps_set (i := 15) sc_law.nd rfl (Or.inr rfl) (pe_lc (own := [("_law_row", 16)]) rfl sc_law.nd (pi_list (kc c__law_table hr (by decide) rfl (pa_cons (pe_ix ix_list (pv 9) (pv 10) (fun _ _ => rfl)) pa_nil))) (blkOk_by (own := [("_law_row", 16)]) (N := ["_law_script", "_law_box_here", "_law_menu", "_law_rows", "_law_made", "_law_factor", "_law_minus", "_law_times", "_law_told", "_law_dues", "_law_j", "_law_text_here", "_law_whole", "_law_sign", "_law_k", "_law_kept", "_law_row", "_law_term"]) (sc := defScope s_law) (by decide +kernel)) (fun _ _ _ _ _ => (pg_name (i := 16) sc_law.nd rfl (Or.inl rfl))) (fun _ _ _ _ _ => (pts_one (pt_cmpR op_eqS (pe_ix (ix_tupK (K := K) rfl) (pv 16) pe_int (fun _ _ => rfl)) (pe_strS [115, 105, 103, 110, 115] (by decide +kernel)) (nomark _)))) (fun _ _ _ _ _ => (pe_ix (ix_tupK (K := K) rfl) (pv 16) pe_int (fun _ _ => rfl))))) (pss_cons (ps_if (pt_cmpR op_neS (kprop p_Measure_counted hr (by decide) (pe_ix ix_list (pv 8) (pv 10) (fun _ _ => rfl))) (pe_join0 (pe_strS [] (by decide +kernel)) (pe_lc (own := [("_law_sign", 13)]) rfl sc_law.nd (pi_str (kc0 c__law_signs hr (by decide) rfl)) (blkOk_by (own := [("_law_sign", 13)]) (N := ["_law_script", "_law_box_here", "_law_menu", "_law_rows", "_law_made", "_law_factor", "_law_minus", "_law_times", "_law_told", "_law_dues", "_law_j", "_law_text_here", "_law_whole", "_law_sign", "_law_k", "_law_kept", "_law_row", "_law_term"]) (sc := defScope s_law) (by decide +kernel)) (fun _ _ _ _ _ => (pg_name (i := 13) sc_law.nd rfl (Or.inl rfl))) (fun _ _ _ _ _ => (pts_one (pt_cmpR (op_in_seqK (K := K) rfl) (pv 13) (pv 15) rfl))) (fun _ _ _ _ _ => (pv 13)))) (nomark _)) (pss_one (ps_ret pe_bl)) pss_nil) (pss_one (ps_if (pt_cmpR op_ne (pe_cmpR (op_eqO m_Measure___eq__ hr.units hr (by decide)) (pe_ix ix_list (pv 8) (pv 10) (fun _ _ => rfl)) (kcm0 cm_Measure_of_nothing hr (by decide) (kgC k_Measure_1 rfl)) (nomark _)) (pe_cmpR (op_eqD hr.units) (kc c__law_table hr (by decide) rfl (pa_cons (pe_ix ix_list (pv 9) (pv 10) (fun _ _ => rfl)) pa_nil)) (pe_lst pa_nil) (nomark _)) (nomark _)) (pss_one (ps_ret pe_bl)) pss_nil)))))) (pss_cons (ps_set (i := 11) sc_law.nd rfl (Or.inl rfl) (kc c__law_text hr (by decide) rfl (pa_cons (pv 1) (pa_cons (kc0 c__law_signs hr (by decide) rfl) (pa_cons pe_int pa_nil))))) (pss_cons (ps_set (i := 12) sc_law.nd rfl (Or.inl rfl) (kcm0 cm_Measure_of_nothing hr (by decide) (kgC k_Measure_1 rfl))) (pss_cons (ps_for (passes_of rfl) rfl (pi_list (pe_callB (cr_sortedT (by rfl)) (by rfl) T.b_sorted (by decide +kernel) (pa_cons (pe_callTy (cr_setT (by rfl)) (by rfl) T.b_set (by decide +kernel) (pa_cons (pe_callTy (cr_listS (by rfl)) (by rfl) T.b_list (by decide +kernel) (pa_cons (pv 11) pa_nil)) pa_nil)) pa_nil))) (pg_name (i := 13) sc_law.nd rfl (Or.inl rfl)) (pss_one (ps_set (i := 12) sc_law.nd rfl (Or.inl rfl) (pe_OO m_Measure___add__ o_Measure.sf (takes_of rfl rfl rfl rfl) hr (by decide) (kcmx cm_Measure_of_signs (takes_of rfl rfl rfl rfl) hr (by decide) (kgC k_Measure_1 rfl) (pa_cons (pv 13) pa_nil)) (pv 12))))) (pss_cons (ps_if (pt_not (pt_cmpR (op_eqO m_Measure___eq__ hr.units hr (by decide)) (kcmx cm_Measure_of_signs (takes_of rfl rfl rfl rfl) hr (by decide) (kgC k_Measure_1 rfl) (pa_cons (pv 11) pa_nil)) (pv 12) (nomark _))) (pss_one (ps_ret pe_bl)) pss_nil) (pss_one (ps_ret (kc c__law_refused hr (by decide) rfl (pa_cons (pe_op op_addS (pv 11) (pe_strS [9] (by decide +kernel))) (pa_cons (pe_op op_sub (pe_un un_neg pe_int) (kc c__law_take hr (by decide) rfl (pa_cons (pv 1) (pa_cons (pe_op op_pow pe_int pe_int) pa_nil)))) pa_nil))))))))))))))))))), ?_⟩
    refine ⟨_, rfl, a, ns, rfl, hS, fun H1 b l s1 hb hl B1 => ?_⟩
    refine ⟨rfl, ?_⟩
    refine ⟨_, rfl, b, l, 95, rfl, B1, by decide, by decide, fun H2 q k2 B2 q0 q1 => ?_⟩
    have hq : q.toNat < sgn.length := by show q.toNat < 95; omega
    refine ⟨_, _, _, rfl, rfl, (by decide), q0, List.getElem?_eq_getElem hq, ?_⟩
    have hc0 : sgn[q.toNat] ∈ sgn := List.getElem_mem hq
    generalize sgn[q.toNat] = c0 at *
    refine ⟨_, _, rfl, rfl, (by show 3 ≤ _; decide), ?_⟩
    refine ⟨3, rfl, by decide, by decide, fun D hD => ?_⟩
    refine lc_range (lo := 0) (n := 3) (fun i H' => ∃ (ys : List V) (rs : List Tms), H' D = some (.lst ys) ∧ Kp [b, l] H H' ∧ Box H' b l ∧ Paired (fun v r => RwO b l H' v r ∧ v ≠ .ref D) ys rs ∧ ys.length = i) ?_ ?_ ?_
    · exact ⟨[], [], upd_same, ((Kp.of_same s1).trans k2).new hD, B2.new hD, .nil, rfl⟩
    · rintro i H3 hi ⟨ys, rs, hy, k3, B3, hP, hL⟩
      have nD := B2.new_no hD
      have nDb : D ≠ b := fun z => nD (by simp [z])
      have nDl : D ≠ l := fun z => nD (by simp [z])
      refine ⟨rfl, _, rfl, _, rfl, b, l, 5, [97, 10, c0], rfl, B3, by decide, by decide, by simp, by show 3 ≤ 1000; decide, ?_, fun H4 m r hm0 k4 B4 hR hr => ?_⟩
      · intro c hc
        simp only [List.mem_cons, List.not_mem_nil, or_false] at hc
        rcases hc with rfl | rfl | rfl
        · decide
        · decide
        · exact hc0
      have hy4 := k4 D _ nD hy
      have nmD : m ≠ D := fun z => by rw [z] at hm0; rw [hm0] at hy; cases hy
      have mutR : ∀ {p : Addr} {r : Tms}, p ≠ D → RwA H4 p r → RwA (upd H4 D (.lst (ys ++ [.ref m]))) p r := fun {p r} hp h => by
        obtain ⟨xs, h1, h2⟩ := h
        exact ⟨xs, by rw [upd_ne hp]; exact h1, h2.mut hy4⟩
      refine ⟨ys, hy4, by rw [sizeLine_eq]; omega, ys ++ [.ref m], rs ++ [r], upd_same, (k3.trans k4).mut (Kp.free ((Kp.of_same s1).trans k2) nD hD), B4.mut nDb nDl, ?_, by rw [List.length_append, hL]; rfl⟩
      refine Paired.snoc (Paired.impl (fun v r ⟨⟨p, e, h1, h2, h3⟩, hv⟩ => ⟨⟨p, e, mutR (fun z => hv (by rw [e, z])) (h1.kp B3 k4 h3), h2, h3⟩, hv⟩) hP) ⟨⟨m, rfl, mutR nmD hR, hr, B3.new_no hm0⟩, fun z => nmD (by injection z)⟩
    rintro H3 ⟨ys, rs, hy, k3, B3, hP, hL⟩
    have hP := Paired.impl (fun v r (z : _ ∧ _) => z.1) hP
    obtain ⟨r0, r1, r2, v0, v1, v2, rfl, rfl, z0, z1, z2⟩ : ∃ r0 r1 r2 v0 v1 v2, ys = [v0, v1, v2] ∧ rs = [r0, r1, r2] ∧ RwO b l H3 v0 r0 ∧ RwO b l H3 v1 r1 ∧ RwO b l H3 v2 r2 := by
      match ys, rs, hP, hL with
      | [_, _, _], [_, _, _], .cons a (.cons b (.cons c .nil)), _ => exact ⟨_, _, _, _, _, _, rfl, rfl, a, b, c⟩
    obtain ⟨p0, rfl, w0, o0, n0⟩ := z0
    obtain ⟨p1, rfl, w1, o1, n1⟩ := z1
    obtain ⟨p2, rfl, w2, o2, n2⟩ := z2
    have nD := B2.new_no hD
    refine ⟨_, rfl, D, rfl, ⟨_, SqL.of hy⟩, fun D2 hD2 => ?_⟩
    refine lc_it (walk_list (xs := [.ref p0, .ref p1, .ref p2])) (fun i H' => ∃ ys : List V, H' D2 = some (.lst ys) ∧ Same H3 H' ∧ Paired (MeO K H') ys ([r0, r1, r2].take i)) ⟨[], upd_same, sNew (Same.refl H3) hD2, .nil⟩ (fun i H' _ ⟨_, _, s, _⟩ => SqL.of (s _ _ hy)) ?_ ?_
    · rintro i x H4 H5 hi ⟨ys, hy4, s4, hP4⟩ ⟨rfl, hx⟩
      obtain ⟨p, r, hri, rfl, hw, ho⟩ : ∃ p r, [r0, r1, r2][i]? = some r ∧ x = .ref p ∧ RwA H3 p r ∧ RwT 3 r := by
        match i, hi, hx with
        | 0, _, hx => cases hx; exact ⟨p0, r0, rfl, rfl, w0, o0⟩
        | 1, _, hx => cases hx; exact ⟨p1, r1, rfl, rfl, w1, o1⟩
        | 2, _, hx => cases hx; exact ⟨p2, r2, rfl, rfl, w2, o2⟩
      have hys : ys.length ≤ 3 := by
        rw [Paired.length hP4, List.length_take]
        exact Nat.min_le_right _ _
      refine ⟨rfl, _, rfl, p, r, rfl, hw.same s4, ho, fun H6 m ts s6 M6 O6 => ?_⟩
      have hy6 := s6 _ _ hy4
      have mutM : ∀ {v : V} {r : Tms}, MeO K H6 v r → MeO K (upd H6 D2 (.lst (ys ++ [.ref m]))) v r := fun {v r} ⟨m', ts', e, ⟨dx, tp, xs, a1, a2, a3⟩, a4⟩ =>
        ⟨m', ts', e, ⟨dx, tp, xs, by rw [upd_ne (ne_of a1 hy6 (by intro z; cases z))]; exact a1, by rw [upd_ne (ne_of a2 hy6 (by intro z; cases z))]; exact a2, a3.mut hy6⟩, a4⟩
      refine ⟨_, hy6, by rw [sizeLine_eq]; omega, ys ++ [.ref m], upd_same, sMut (s4.trans s6) hD2, ?_⟩
      rw [List.take_add_one, hri, Option.toList_some]
      exact Paired.snoc (Paired.impl (fun v r ⟨m', ts', e, a1, a2⟩ => mutM ⟨m', ts', e, a1.same s6, a2⟩) hP4) (mutM ⟨m, ts, rfl, M6, O6⟩)
    rintro H4 ⟨ys, hy4, s4, hP4⟩
    obtain ⟨v0, v1, v2, rfl, z0, z1, z2⟩ : ∃ v0 v1 v2, ys = [v0, v1, v2] ∧ MeO K H4 v0 r0 ∧ MeO K H4 v1 r1 ∧ MeO K H4 v2 r2 := by
      match ys, hP4 with
      | [_, _, _], .cons a (.cons b (.cons c .nil)) => exact ⟨_, _, _, rfl, a, b, c⟩
    obtain ⟨m0, t0, rfl, e0, y0⟩ := z0
    obtain ⟨m1, t1, rfl, e1, y1⟩ := z1
    obtain ⟨m2, t2, rfl, e2, y2⟩ := z2
    have B4 := B3.same s4
    have C4 : Ctx37 K H4 b l D D2 p0 p1 p2 m0 m1 m2 r0 r1 r2 t0 t1 t2 := ⟨s4 _ _ hy, hy4, w0.same s4, w1.same s4, w2.same s4, e0, e1, e2, y0, y1, y2, o0, o1, o2, nD, B3.new_no hD2, n0, n1, n2⟩
    clear hP hP4 hy hy4 w0 w1 w2 e0 e1 e2 hD2 hD
    refine ⟨_, rfl, b, l, 5, rfl, B4, by decide, by decide, fun H5 f0 k5 B5 _ _ => ?_⟩
    refine ⟨_, _, rfl, rfl, _, rfl, _, _, rfl, rfl, ⟨by decide, by decide, by decide⟩, b, l, 10 ^ 20, rfl, B5, by decide, by decide, fun H6 f1 k6 B6 _ _ => ?_⟩
    refine ⟨_, rfl, _, _, rfl, rfl, ⟨by decide, by decide, by decide⟩, b, l, 10 ^ 20, rfl, B6, by decide, by decide, fun H7 f2 k7 B7 _ _ => ?_⟩
    refine ⟨_, _, rfl, rfl, (show 3 ≤ sizeLine by decide), fun fl hfl => ?_⟩
    have B8 := B7.new (o := .lst [.int (f0 - 2), .int f1, .int (0 - f2)]) hfl
    have C7 := ((C4.kp B4 k5).kp B5 k6).kp B6 k7
    have C8 := C7.same (sNew (o := .lst [.int (f0 - 2), .int f1, .int (0 - f2)]) (Same.refl H7) hfl)
    refine ⟨_, rfl, b, l, 3, rfl, B8, by decide, by decide, fun H9 fi k9 B9 i0 i1 => ?_⟩
    have hfl9 := k9 fl _ (B7.new_no hfl) upd_same
    have C9 := C8.kp B8 k9
    obtain ⟨n, hn⟩ : ∃ n : Int, atI [V.int (f0 - 2), .int f1, .int (0 - f2)] fi = some (.int n) := by
      obtain ⟨fi, rfl⟩ : ∃ m : Nat, fi = m := ⟨fi.toNat, by omega⟩
      match fi, i1 with
      | 0, _ => exact ⟨_, rfl⟩
      | 1, _ => exact ⟨_, rfl⟩
      | 2, _ => exact ⟨_, rfl⟩
      | k + 3, h => omega
    refine ⟨fl, _, fi, .int n, rfl, rfl, SqL.of hfl9, hn, ?_⟩
    clear C4 C7 C8 B4 B5 B6 B7 B8 hn hfl9 k9 k7 k6 k5 hfl s4 k3 B3 k2 B2 B1 s1
    obtain ⟨xs1, hp1, hT1⟩ := C9.w1
    have hx1 := hT1.len
    refine ⟨_, rfl, D, _, 1, _, rfl, rfl, SqL.of C9.hr, rfl, p1, rfl, ⟨_, SqL.of hp1⟩, fun Dm hDm => ?_⟩
    refine lc_it (walk_list (xs := xs1)) (fun i H' => ∃ ys : List V, H' Dm = some (.lst ys) ∧ Same H9 H' ∧ TsA H' ys (facN (r1.take i))) ⟨[], upd_same, sNew (Same.refl H9) hDm, .nil⟩ (fun i H' _ ⟨_, _, s, _⟩ => SqL.of (s _ _ hp1)) ?_ ?_
    · rintro i x H1 H2 hi ⟨ys, hy, s1, hT⟩ ⟨rfl, hx⟩
      obtain ⟨t, hti, c, rfl, hc⟩ := (hT1.same s1).get (i := i) hx
      have hys := hT.len
      rw [List.length_map, List.length_take] at hys
      have hl1 := C9.q1.len
      refine ⟨rfl, _, rfl, c, _, 0, _, rfl, rfl, SqT.of hc, rfl, _, rfl, c, _, 1, _, rfl, rfl, SqT.of hc, rfl, _, rfl, c, _, 2, _, rfl, rfl, SqT.of hc, rfl, _, _, rfl, rfl, (show 3 ≤ sizeLine by decide), fun e he => ?_⟩
      have s4 := sNew (o := .tup (tmV (t.1, 0 - t.2))) (Same.refl H2) he
      have hy4 := s4 _ _ hy
      have he4 : upd H2 e (.tup (tmV (t.1, 0 - t.2))) e = some (.tup (tmV (t.1, 0 - t.2))) := upd_same
      refine ⟨_, hy4, by rw [sizeLine_eq]; omega, ys ++ [.ref e], upd_same, sMut (s1.trans s4) hDm, ?_⟩
      rw [show facN (r1.take (i + 1)) = facN (r1.take i) ++ [(t.1, 0 - t.2)] by rw [show facN (r1.take (i + 1)) = facN (r1.take i) ++ [(t.1, -t.2)] from map_tk hti, Int.zero_sub]]
      exact ((hT.same s4).mut hy4).snoc (TmAt.mut hy4 ⟨e, rfl, he4⟩)
    rintro H10 ⟨ysm, hym, s10, hTm⟩
    rw [List.take_of_length_le (by omega)] at hTm
    have C10 := C9.same s10
    have B10 := B9.same s10
    have Wm : RwA H10 Dm (facN r1) := ⟨ysm, hym, hTm⟩
    have nDm := B9.new_no hDm
    clear hp1 hT1 hx1 hym hTm hDm C9 B9 s10
    obtain ⟨xs0, hp0, hT0⟩ := C10.w0
    have hx0 := hT0.len
    refine ⟨_, rfl, D, _, 0, _, rfl, rfl, SqL.of C10.hr, rfl, p0, rfl, ⟨_, SqL.of hp0⟩, fun Dt hDt => ?_⟩
    refine lc_it (walk_list (xs := xs0)) (fun i H' => ∃ ys : List V, H' Dt = some (.lst ys) ∧ Same H10 H' ∧ TsA H' ys (facM (r0.take i) n)) ⟨[], upd_same, sNew (Same.refl H10) hDt, .nil⟩ (fun i H' _ ⟨_, _, s, _⟩ => SqL.of (s _ _ hp0)) ?_ ?_
    · rintro i x H1 H2 hi ⟨ys, hy, s1, hT⟩ ⟨rfl, hx⟩
      obtain ⟨t, hti, c, rfl, hc⟩ := (hT0.same s1).get (i := i) hx
      have hys := hT.len
      rw [List.length_map, List.length_take] at hys
      have hl0 := C10.q0.len
      have hsm := C10.q0.sm t (List.mem_of_getElem? hti)
      refine ⟨rfl, _, rfl, c, _, 0, _, rfl, rfl, SqT.of hc, rfl, _, rfl, c, _, 1, _, rfl, rfl, SqT.of hc, rfl, _, rfl, c, _, 2, _, rfl, rfl, SqT.of hc, rfl, _, rfl, _, _, rfl, rfl, .inl ⟨by omega, by omega⟩, (show 3 ≤ sizeLine by decide), fun e he => ?_⟩
      have s4 := sNew (o := .tup (tmV (t.1, t.2 * n))) (Same.refl H2) he
      have hy4 := s4 _ _ hy
      have he4 : upd H2 e (.tup (tmV (t.1, t.2 * n))) e = some (.tup (tmV (t.1, t.2 * n))) := upd_same
      refine ⟨_, hy4, by rw [sizeLine_eq]; omega, ys ++ [.ref e], upd_same, sMut (s1.trans s4) hDt, ?_⟩
      rw [show facM (r0.take (i + 1)) n = facM (r0.take i) n ++ [(t.1, t.2 * n)] from map_tk hti]
      exact ((hT.same s4).mut hy4).snoc (TmAt.mut hy4 ⟨e, rfl, he4⟩)
    rintro H11 ⟨yst, hyt, s11, hTt⟩
    rw [List.take_of_length_le (by omega)] at hTt
    have C11 := C10.same s11
    have B11 := B10.same s11
    have Wm := Wm.same s11
    have Wt : RwA H11 Dt (facM r0 n) := ⟨yst, hyt, hTt⟩
    clear hp0 hT0 hx0 hyt hTt hDt C10 B10 s11
    obtain ⟨x0, _, _, i0, _, _⟩ := id C11.e0
    obtain ⟨x1, _, _, i1', _, _⟩ := id C11.e1
    have L0 : t0.length ≤ 3 := C11.o0.len
    have L1 : t1.length ≤ 3 := C11.o1.len
    have CM : ∀ t ∈ t0, CMul t.2 n := ms_small C11.o0 C11.q0.sm (Nat.le_trans C11.q0.len (by decide)) n
    refine ⟨_, rfl, D2, _, 0, _, rfl, rfl, SqL.of C11.hm, rfl, _, rfl, D2, _, 1, _, rfl, rfl, SqL.of C11.hm, rfl, m0, m1, x0, _, x1, _, rfl, rfl, i0, i1', m0, m1, t0, t1, rfl, C11.e0, C11.e1, by omega, by omega, C11.o0.ok, C11.o1.ok, fun H12 a0 s12 N0 => ?_⟩
    have C12 := C11.same s12
    refine ⟨_, rfl, D2, _, 0, _, rfl, rfl, SqL.of C12.hm, rfl, _, rfl, D2, _, 1, _, rfl, rfl, SqL.of C12.hm, rfl, m0, m1, x0, _, x1, _, rfl, rfl, s12 _ _ i0, s12 _ _ i1', m0, m1, t0, t1, rfl, C12.e0, C12.e1, by omega, by omega, C12.o0.ok, C12.o1.ok, fun H13 a1 s13 N1 => ?_⟩
    have C13 := C12.same s13
    have s23 := s12.trans s13
    refine ⟨_, rfl, D2, _, 1, _, rfl, rfl, SqL.of C13.hm, rfl, m1, x1, _, rfl, s23 _ _ i1', m1, t1, rfl, C13.e1, by omega, fun H14 a2 s14 N2 => ?_⟩
    have C14 := C13.same s14
    have s24 := s23.trans s14
    refine ⟨_, rfl, D2, _, 0, _, rfl, rfl, SqL.of C14.hm, rfl, _, rfl, m0, n, x0, _, rfl, rfl, s24 _ _ i0, m0, t0, n, rfl, C14.e0, by omega, CM, fun H15 a3 s15 N3 => ?_⟩
    have C15 := C14.same s15
    have s25 := s24.trans s15
    refine ⟨_, rfl, _, rfl, D2, _, 0, _, rfl, rfl, SqL.of C15.hm, rfl, m0, n, x0, _, rfl, rfl, s25 _ _ i0, m0, t0, n, rfl, C15.e0, by omega, CM, fun H16 a4 s16 N4 => ?_⟩
    have s26 := s25.trans s16
    refine ⟨(show 5 ≤ sizeLine by decide), fun g hg => ?_⟩
    have s17 := sNew (o := .lst [.ref a0, .ref a1, .ref a2, .ref a3, .ref a4]) s16 hg
    have hg17 : upd H16 g (.lst [.ref a0, .ref a1, .ref a2, .ref a3, .ref a4]) g = some (.lst [.ref a0, .ref a1, .ref a2, .ref a3, .ref a4]) := upd_same
    have C17 := C15.same s17
    have s27 := s25.trans s17
    have N0 := N0.same ((((s13.trans s14).trans s15).trans s17))
    have N1 := N1.same ((s14.trans s15).trans s17)
    have N2 := N2.same (s15.trans s17)
    have N3 := N3.same s17
    have N4 := N4.same (sNew (o := .lst [.ref a0, .ref a1, .ref a2, .ref a3, .ref a4]) (Same.refl H16) hg)
    have B17 := B11.same s27
    have Wm := Wm.same s27
    have Wt := Wt.same s27
    generalize upd H16 g (.lst [.ref a0, .ref a1, .ref a2, .ref a3, .ref a4]) = H17 at *
    refine ⟨_, rfl, g, D2, _, _, rfl, rfl, hg17, C17.hm, (show 8 ≤ sizeLine by decide), fun lt hlt => ?_⟩
    have s18 := sNew (o := .lst ([.ref a0, .ref a1, .ref a2, .ref a3, .ref a4] ++ [.ref m0, .ref m1, .ref m2])) (Same.refl H17) hlt
    have hlt18 : upd H17 lt (.lst ([.ref a0, .ref a1, .ref a2, .ref a3, .ref a4] ++ [.ref m0, .ref m1, .ref m2])) lt = some (.lst ([.ref a0, .ref a1, .ref a2, .ref a3, .ref a4] ++ [.ref m0, .ref m1, .ref m2])) := upd_same
    have C18 := C17.same s18
    obtain ⟨xs0, hp0, hT0⟩ := id C18.w0
    obtain ⟨xs1, hp1, hT1⟩ := id C18.w1
    obtain ⟨xsm, hpm, hTm⟩ := id (Wm.same s18)
    have l0 := hT0.len
    have l1 := hT1.len
    have lm := hTm.len
    rw [List.length_map] at lm
    have q0 := C18.q0.len
    have q1 := C18.q1.len
    refine ⟨_, rfl, D, _, 0, _, rfl, rfl, SqL.of C18.hr, rfl, _, rfl, D, _, 1, _, rfl, rfl, SqL.of C18.hr, rfl, p0, p1, xs0, xs1, rfl, rfl, hp0, hp1, (by rw [sizeLine_eq]; omega), fun d0 hd0 => ?_⟩
    have s19 := sNew (o := .lst (xs0 ++ xs1)) (Same.refl _) hd0
    refine ⟨_, rfl, D, _, 0, _, rfl, rfl, SqL.of (s19 _ _ C18.hr), rfl, _, rfl, p0, Dm, xs0, xsm, rfl, rfl, s19 _ _ hp0, s19 _ _ hpm, (by rw [sizeLine_eq]; omega), fun d1 hd1 => ?_⟩
    have s20 := sNew (o := .lst (xs0 ++ xsm)) (Same.refl _) hd1
    refine ⟨_, rfl, _, rfl, _, rfl, (show 5 ≤ sizeLine by decide), fun g2 hg2 => ?_⟩
    have s21 := sNew (o := .lst [.ref d0, .ref d1, .ref Dm, .ref Dt, .ref Dt]) (Same.refl _) hg2
    have s1921 := (s19.trans s20).trans s21
    refine ⟨_, rfl, g2, D, _, _, rfl, rfl, upd_same, s1921 _ _ C18.hr, (show 8 ≤ sizeLine by decide), fun ld hld => ?_⟩
    have s22 := s1921.trans (sNew (o := .lst ([.ref d0, .ref d1, .ref Dm, .ref Dt, .ref Dt] ++ [.ref p0, .ref p1, .ref p2])) (Same.refl _) hld)
    have sx22 := s18.trans s22
    have W0 : RwA (upd (upd H17 lt (.lst ([.ref a0, .ref a1, .ref a2, .ref a3, .ref a4] ++ [.ref m0, .ref m1, .ref m2]))) d0 (.lst (xs0 ++ xs1))) d0 (r0 ++ r1) := ⟨_, upd_same, TsA.same s19 (TsA.app hT0 hT1)⟩
    have W1 : RwA (upd (upd (upd H17 lt (.lst ([.ref a0, .ref a1, .ref a2, .ref a3, .ref a4] ++ [.ref m0, .ref m1, .ref m2]))) d0 (.lst (xs0 ++ xs1))) d1 (.lst (xs0 ++ xsm))) d1 (r0 ++ facN r1) := ⟨_, upd_same, TsA.same (s19.trans s20) (TsA.app hT0 hTm)⟩
    have s2022 := (s20.trans s21).trans (sNew (o := .lst ([.ref d0, .ref d1, .ref Dm, .ref Dt, .ref Dt] ++ [.ref p0, .ref p1, .ref p2])) (Same.refl _) hld)
    have s2122 := s21.trans (sNew (o := .lst ([.ref d0, .ref d1, .ref Dm, .ref Dt, .ref Dt] ++ [.ref p0, .ref p1, .ref p2])) (Same.refl _) hld)
    have W0 := W0.same s2022
    have W1 := W1.same s2122
    have C22 := C18.same s22
    have Wm := Wm.same sx22
    have Wt := Wt.same sx22
    have N0 := N0.same sx22
    have N1 := N1.same sx22
    have N2 := N2.same sx22
    have N3 := N3.same sx22
    have N4 := N4.same sx22
    have B22 := B17.same sx22
    have hlt22 := s22 _ _ hlt18
    have hld22 : upd (upd (upd (upd (upd H17 lt (.lst ([.ref a0, .ref a1, .ref a2, .ref a3, .ref a4] ++ [.ref m0, .ref m1, .ref m2]))) d0 (.lst (xs0 ++ xs1))) d1 (.lst (xs0 ++ xsm))) g2 (.lst [.ref d0, .ref d1, .ref Dm, .ref Dt, .ref Dt])) ld (.lst ([.ref d0, .ref d1, .ref Dm, .ref Dt, .ref Dt] ++ [.ref p0, .ref p1, .ref p2])) ld = some (.lst ([.ref d0, .ref d1, .ref Dm, .ref Dt, .ref Dt] ++ [.ref p0, .ref p1, .ref p2])) := upd_same
    have q2 := C22.q2.len
    have R8 : ∀ j, j < 8 → ∃ v w r, (([.ref a0, .ref a1, .ref a2, .ref a3, .ref a4] ++ [.ref m0, .ref m1, .ref m2]) : List V)[j]? = some v ∧ (([.ref d0, .ref d1, .ref Dm, .ref Dt, .ref Dt] ++ [.ref p0, .ref p1, .ref p2]) : List V)[j]? = some w ∧ Row8 K (upd (upd (upd (upd (upd H17 lt (.lst ([.ref a0, .ref a1, .ref a2, .ref a3, .ref a4] ++ [.ref m0, .ref m1, .ref m2]))) d0 (.lst (xs0 ++ xs1))) d1 (.lst (xs0 ++ xsm))) g2 (.lst [.ref d0, .ref d1, .ref Dm, .ref Dt, .ref Dt])) ld (.lst ([.ref d0, .ref d1, .ref Dm, .ref Dt, .ref Dt] ++ [.ref p0, .ref p1, .ref p2]))) v w r := by
      intro j hj
      match j, hj with
      | 0, _ => exact ⟨_, _, r0 ++ r1, rfl, rfl, a0, d0, _, rfl, rfl, N0, (C22.o0.pl C22.o1).cast (by decide) (fun _ => rfl), W0, by rw [List.length_append]; omega, ok_app C22.q0.ok C22.q1.ok⟩
      | 1, _ => exact ⟨_, _, r0 ++ facN r1, rfl, rfl, a1, d1, _, rfl, rfl, N1, (C22.o0.pl C22.o1.ng).cast (by decide) (fun _ => rfl), W1, by rw [List.length_append, List.length_map]; omega, ok_app C22.q0.ok (ok_map (f := fun t => -t.2) C22.q1.ok)⟩
      | 2, _ => exact ⟨_, _, facN r1, rfl, rfl, a2, Dm, _, rfl, rfl, N2, C22.o1.ng.cast (by decide) (fun _ => rfl), Wm, by rw [List.length_map]; omega, ok_map (f := fun t => -t.2) C22.q1.ok⟩
      | 3, _ => exact ⟨_, _, facM r0 n, rfl, rfl, a3, Dt, _, rfl, rfl, N3, (C22.o0.ml n).cast (by decide) (fun _ => rfl), Wt, by rw [List.length_map]; omega, ok_map (f := fun t => t.2 * n) C22.q0.ok⟩
      | 4, _ => exact ⟨_, _, facM r0 n, rfl, rfl, a4, Dt, _, rfl, rfl, N4, (C22.o0.ml n).cast (by decide) (fun _ => rfl), Wt, by rw [List.length_map]; omega, ok_map (f := fun t => t.2 * n) C22.q0.ok⟩
      | 5, _ => exact ⟨_, _, r0, rfl, rfl, m0, p0, _, rfl, rfl, C22.e0, C22.o0.cast (by decide) (fun _ => rfl), C22.w0, by omega, C22.q0.ok⟩
      | 6, _ => exact ⟨_, _, r1, rfl, rfl, m1, p1, _, rfl, rfl, C22.e1, C22.o1.cast (by decide) (fun _ => rfl), C22.w1, by omega, C22.q1.ok⟩
      | 7, _ => exact ⟨_, _, r2, rfl, rfl, m2, p2, _, rfl, rfl, C22.e2, C22.o2.cast (by decide) (fun _ => rfl), C22.w2, by omega, C22.q2.ok⟩
      | k + 8, h => omega
    clear W0 W1 Wm Wt N0 N1 N2 N3 N4 C22 s22 s1921 s2022 s2122 sx22 hlt18 C18 C17 hp0 hp1 hpm hT0 hT1 hTm l0 l1 lm q0 q1 q2 s18 s19 s20 s21
    have lv : (([.ref a0, .ref a1, .ref a2, .ref a3, .ref a4] ++ [.ref m0, .ref m1, .ref m2]) : List V).length = 8 := rfl
    have lw : (([.ref d0, .ref d1, .ref Dm, .ref Dt, .ref Dt] ++ [.ref p0, .ref p1, .ref p2]) : List V).length = 8 := rfl
    generalize upd (upd (upd (upd (upd H17 lt (.lst ([.ref a0, .ref a1, .ref a2, .ref a3, .ref a4] ++ [.ref m0, .ref m1, .ref m2]))) d0 (.lst (xs0 ++ xs1))) d1 (.lst (xs0 ++ xsm))) g2 (.lst [.ref d0, .ref d1, .ref Dm, .ref Dt, .ref Dt])) ld (.lst ([.ref d0, .ref d1, .ref Dm, .ref Dt, .ref Dt] ++ [.ref p0, .ref p1, .ref p2])) = H22 at *
    generalize (([.ref a0, .ref a1, .ref a2, .ref a3, .ref a4] ++ [.ref m0, .ref m1, .ref m2]) : List V) = vs at *
    generalize (([.ref d0, .ref d1, .ref Dm, .ref Dt, .ref Dt] ++ [.ref p0, .ref p1, .ref p2]) : List V) = ws at *
    refine ⟨_, rfl, lt, _, rfl, .inl (SqL.of hlt22), ?_⟩
    refine ⟨((vs.length : Nat) : Int), rfl, by omega, by omega, ?_⟩
    refine for_it walk_range (fun i σ H' => ∃ c2 u10 u14 u15 : Option V, σ = [some (.ref a), some (.ref b), c2, some (.ref D), some (.ref D2), some (.int n), some (.ref Dm), some (.ref Dt), some (.ref lt), some (.ref ld), u10, none, none, none, u14, u15, none, none] ∧ Same H22 H') ⟨_, none, none, none, rfl, Same.refl _⟩ (fun _ _ _ _ _ => trivial) ?_ ?_
    · rintro j x σ H2 H3 hj ⟨c2, u10, u14, u15, rfl, s1⟩ ⟨rfl, rfl⟩
      have hj : j < 8 := by rw [← lv]; simpa using hj
      obtain ⟨v, w', r, hv, hw, m, q, ts, rfl, rfl, M, O, R, hrl, hro⟩ := R8 j hj
      refine ⟨_, rfl, lt, _, rfl, .inl (SqL.of (s1 _ _ hlt22)), ?_⟩
      refine ⟨((vs.length : Nat) : Int), rfl, by omega, by omega, ?_⟩
      refine for_it walk_range (fun i σ H' => ∃ c2 u14 : Option V, σ = [some (.ref a), some (.ref b), c2, some (.ref D), some (.ref D2), some (.int n), some (.ref Dm), some (.ref Dt), some (.ref lt), some (.ref ld), some (.int (0 + (j : Nat))), none, none, none, u14, u15, none, none] ∧ Same H22 H') ⟨_, _, rfl, s1⟩ (fun _ _ _ _ _ => trivial) ?_ ?_
      · rintro k x σ H4 H5 hk ⟨c2, u14, rfl, s4⟩ ⟨rfl, rfl⟩
        have hk : k < 8 := by rw [← lv]; simpa using hk
        obtain ⟨v', w2, r', hv', hw', m', q', ts', rfl, rfl, M', O', R', hrl', hro'⟩ := R8 k hk
        have M4 := M.same s4
        have M4' := M'.same s4
        obtain ⟨y1, _, _, z1, _, _⟩ := id M4
        obtain ⟨y2, _, _, z2, _, _⟩ := id M4'
        have hlt4 := s4 _ _ hlt22
        have hld4 := s4 _ _ hld22
        refine ⟨_, rfl, _, rfl, lt, _, _, _, rfl, rfl, SqL.of hlt4, atIz hv, _, rfl, _, rfl, lt, _, _, _, rfl, rfl, SqL.of hlt4, atIz hv', ?_⟩
        refine ⟨m, m', y1, _, y2, _, rfl, rfl, z1, z2, m, m', ts, ts', rfl, M4, M4', O.ok, O'.ok, ?_⟩
        refine ⟨_, rfl, _, rfl, ld, _, _, _, rfl, rfl, SqL.of hld4, atIz hw, q, r, rfl, R.same s4, by omega, hro, fun H6 g1 ys1 T1 s6 hg1 hT1 O1 => ?_⟩
        refine ⟨_, rfl, _, rfl, ld, _, _, _, rfl, rfl, SqL.of (s6 _ _ hld4), atIz hw', q', r', rfl, R'.same (s4.trans s6), by omega, hro', fun H7 g2 ys2 T2 s7 hg2 hT2 O2 => ?_⟩
        refine ⟨_, _, TbA.dp (s7 _ _ hg1) (hT1.same s7), TbA.dp hg2 hT2, tb_shaped O1.ok, tb_shaped O2.ok, ?_⟩
        rw [lists_eq]
        have eb : decide (ts = ts') = decide (T1 = T2) := decide_eq_decide.mpr ((ms_eq O O').trans (tb_eq O1 O2).symm)
        refine ⟨rfl, _, rfl, ?_⟩
        rw [eb]
        refine iff' (by simp) ?_
        exact ⟨c2, _, rfl, (s4.trans s6).trans s7⟩
      rintro σ H4 ⟨c2, u14, rfl, s4⟩
      have M4 := M.same s4
      obtain ⟨y1, _, _, z1, _, _⟩ := id M4
      have hlt4 := s4 _ _ hlt22
      have hld4 := s4 _ _ hld22
      refine ⟨_, rfl, _, rfl, ld, _, _, _, rfl, rfl, SqL.of hld4, atIz hw, q, r, rfl, R.same s4, by omega, hro, fun H6 g1 ys1 T1 s6 hg1 hT1 O1 => ?_⟩
      refine ⟨g1, rfl, ⟨_, SqL.of hg1⟩, fun E1 hE1 => ?_⟩
      have hyl := hT1.len
      refine lc_it (walk_list (xs := ys1)) (fun i H' => H' E1 = some (.lst ((sgs (T1.take i)).map fun d => V.str (S [d]))) ∧ Same H6 H') ⟨upd_same, sNew (Same.refl H6) hE1⟩ (fun i H' _ ⟨_, s⟩ => SqL.of (s _ _ hg1)) ?_ ?_
      · rintro i x H7 H8 hi ⟨hy, s7⟩ ⟨rfl, hx⟩
        obtain ⟨⟨tk, tf⟩, hti, c, rfl, hc⟩ := pairAt (hT1.same s7) hx
        have ef := sgs_tk hti
        have hL : (sgs (T1.take i)).length ≤ 100 := Nat.le_trans (List.length_filterMap_le _ _) (by rw [List.length_take]; have := O1.len; omega)
        refine ⟨rfl, _, rfl, c, _, 0, _, rfl, rfl, SqT.of hc, rfl, _, _, rfl, rfl, _, rfl, ?_⟩
        refine if2 (fun c' => ?_) (fun c' => ?_)
        · have c' : tk.nm = [115, 105, 103, 110, 115] := by simpa using c'
          obtain ⟨e, rfl⟩ := nm_sg.mp c'
          refine ⟨_, rfl, c, _, 1, _, rfl, rfl, SqT.of hc, rfl, _, hy, by rw [List.length_map, sizeLine_eq]; omega, by rw [upd_same, ef, List.map_append]; rfl, sMut s7 hE1⟩
        · have c' : ¬ tk.nm = [115, 105, 103, 110, 115] := by simpa using c'
          have : sgs (T1.take (i + 1)) = sgs (T1.take i) := by
            rw [ef]
            cases tk <;> first | exact List.append_nil _ | (exfalso; exact c' rfl)
          rw [this]
          exact ⟨hy, s7⟩
      rintro H7 ⟨hy7, s7⟩
      rw [List.take_of_length_le (by omega)] at hy7
      have s47 := (s4.trans s6).trans s7
      have s67 := s6.trans s7
      refine ⟨_, rfl, _, rfl, lt, _, _, _, rfl, rfl, SqL.of (s67 _ _ hlt4), atIz hv, m, y1, _, rfl, s67 _ _ z1, m, ts, rfl, M.same s47, Nat.le_trans O.len (by decide), fun H8 s8 => ?_⟩
      have hy8 := s8 _ _ hy7
      refine ⟨⟨_, rfl⟩, rfl, _, rfl, fun E2 hE2 => ?_⟩
      refine lc_it walk_S (fun i H' => H' E2 = some (.lst (((sgn.take i).filter fun c => decide (c ∈ sgs T1)).map fun c => V.str (S [c]))) ∧ Same H8 H') ⟨upd_same, sNew (Same.refl H8) hE2⟩ (fun _ _ _ _ => trivial) ?_ ?_
      · rintro i x H9 H10 hi ⟨h1, s9⟩ ⟨rfl, c, hc, rfl⟩
        have ef := filter_takeP (p := fun c => decide (c ∈ sgs T1)) hc
        have hl : ((sgn.take i).filter fun c => decide (c ∈ sgs T1)).length ≤ sgn.length := Nat.le_trans (List.length_filter_le _ _) (by rw [List.length_take]; omega)
        have hg : sgn.length = 95 := by decide
        refine ⟨rfl, _, rfl, _, rfl, E1, _, rfl, .inl (SqL.of (s9 _ _ hy8)), rfl, flatTx37 _, _, rfl, ?_⟩
        rw [if_neg (by decide), inTx37]
        refine if2 (fun b => ?_) (fun b => ?_)
        · rw [if_pos b] at ef
          refine ⟨_, rfl, _, h1, by rw [List.length_map, sizeLine_eq]; omega, by rw [upd_same, ef, List.map_append]; rfl, sMut s9 hE2⟩
        · rw [if_neg (by rw [b]; decide), List.append_nil] at ef
          rw [ef]
          exact ⟨h1, s9⟩
      rintro H9 ⟨h9, s9⟩
      rw [List.take_length] at h9
      have hl9 : (sgn.filter fun c => decide (c ∈ sgs T1)).length ≤ 95 := Nat.le_trans (List.length_filter_le _ _) (by decide)
      refine ⟨_, (sgn.filter fun c => decide (c ∈ sgs T1)).map (fun c => [c]), rfl, rfl, SqL.of (by rw [List.map_map]; exact h9), by rw [flat_one]; omega, ?_⟩
      rw [flat_one]
      have ea : asc (sgs ts) = sgn.filter fun c => decide (c ∈ sgs T1) := asc_congr fun c => (sgs_fac O.nf O.fa c).trans (sgs_fac O1.nf O1.fa c).symm
      refine ⟨_, _, rfl, rfl, _, rfl, ?_⟩
      rw [ea]
      refine iff' (by simp) ?_
      have s69 := (s67.trans s8).trans s9
      have s49 := s4.trans s69
      refine ⟨_, rfl, _, rfl, lt, _, _, _, rfl, rfl, SqL.of (s69 _ _ hlt4), atIz hv, rfl, rfl, fun H10 e0 s10 M10 => ?_⟩
      obtain ⟨y9, _, _, z9, _, _⟩ := id M10
      have s410 := s49.trans s10
      refine ⟨m, e0, y1, _, y9, _, rfl, rfl, (s69.trans s10) _ _ z1, z9, m, e0, ts, _, rfl, M.same s410, M10, O.ok, ms_0.ok, ?_⟩
      refine ⟨_, rfl, _, rfl, ld, _, _, _, rfl, rfl, SqL.of ((s69.trans s10) _ _ hld4), atIz hw, q, r, rfl, R.same s410, by omega, hro, fun H11 g3 ys3 T3 s11 hg3 hT3 O3 => ?_⟩
      refine ⟨(show 0 ≤ sizeLine by decide), fun f hf => ?_⟩
      have s12 := sNew (o := .lst []) (Same.refl H11) hf
      refine ⟨_, .list (([] : Tms).map tbD), TbA.dp (s12 _ _ hg3) (hT3.same s12), .lst (SqL.of upd_same) .nil, tb_shaped O3.ok, tb_shaped (by simp), ?_⟩
      rw [lists_eq]
      have e3 : decide (ts = srt tmD []) = decide (T3 = []) := decide_eq_decide.mpr ((ms_eq O ms_0).trans (tb_eq O3 (⟨⟨by simp, by simp, .nil⟩, by simp, by decide, fun _ => rfl⟩ : TbOf [] [])).symm)
      refine ⟨rfl, _, rfl, ?_⟩
      rw [e3]
      refine iff' (by simp) ?_
      exact ⟨c2, _, _, _, rfl, (s410.trans s11).trans s12⟩
    rintro σ H3 ⟨c2, u10, u14, u15, rfl, s1⟩
    have B3 := B22.same s1
    refine ⟨_, rfl, rfl, b, l, sgn, 5, rfl, B3, by decide, by decide, by decide, by decide, fun H4 t k4 B4 htl hts => ?_⟩
    refine ⟨rfl, rfl, fun H5 e5 s5 M5 => ?_⟩
    have B5 := B4.same s5
    refine ⟨_, rfl, t, rfl, by omega, fun ll hll => ?_⟩
    have s6 := sNew (o := .lst (t.map fun c => V.str (S [c]))) (Same.refl H5) hll
    refine ⟨ll, t.map fun c => S [c], rfl, SqL.of (by rw [List.map_map]; exact upd_same), by rw [List.length_map]; omega, fun sp M' hnd hlen hmem hsp => ?_⟩
    refine ⟨sp, M', rfl, upd_same, hlen, fun sq ys hperm hsq => ?_⟩
    have s8 : Same H5 (upd (upd (upd H5 ll (.lst (t.map fun c => V.str (S [c])))) sp (TxO P w sp M')) sq (.lst (ys.map V.str))) := sNew (sNew s6 hsp) hsq
    obtain ⟨zs, rfl⟩ : ∃ zs : List Nat, ys = zs.map fun c => S [c] := ys_nat (t := t) fun x hx => (hmem x).mp (hperm.mem_iff.mp hx)
    have hzn : zs.Nodup := by
      have : (zs.map fun c => S [c]).Nodup := hperm.nodup_iff.mpr hnd
      exact (List.pairwise_map.mp this).imp fun h e => h (by rw [e])
    have hzm : ∀ c, c ∈ zs ↔ c ∈ t := fun c => by
      have h1 : S [c] ∈ (zs.map fun c => S [c]) ↔ S [c] ∈ (t.map fun c => S [c]) := hperm.mem_iff.trans (hmem _)
      constructor
      · intro h
        obtain ⟨d, hd, e⟩ := List.mem_map.mp (h1.mp (List.mem_map_of_mem h))
        rw [S1_inj e] at hd
        exact hd
      · intro h
        obtain ⟨d, hd, e⟩ := List.mem_map.mp (h1.mpr (List.mem_map_of_mem h))
        rw [S1_inj e] at hd
        exact hd
    have hzl : zs.length < 60 := by
      have := hperm.length_eq
      rw [List.length_map] at this
      omega
    have M8 := M5.same s8
    have B8 := B5.same s8
    refine ⟨sq, rfl, ⟨_, SqL.of upd_same⟩, ?_⟩
    have hsq8 : upd (upd (upd H5 ll (.lst (t.map fun c => V.str (S [c])))) sp (TxO P w sp M')) sq (.lst ((zs.map fun c => S [c]).map V.str)) sq = some (.lst ((zs.map fun c => S [c]).map V.str)) := upd_same
    refine for_it (walk_list (xs := (zs.map fun c => S [c]).map V.str)) (fun i σ H' => ∃ (m : Addr) (ts : Tms) (c2 u10 u13 u14 u15 : Option V), σ = [some (.ref a), some (.ref b), c2, some (.ref D), some (.ref D2), some (.int n), some (.ref Dm), some (.ref Dt), some (.ref lt), some (.ref ld), u10, some (.str (S t)), some (.ref m), u13, u14, u15, none, none] ∧ Same (upd (upd (upd H5 ll (.lst (t.map fun c => V.str (S [c])))) sp (TxO P w sp M')) sq (.lst ((zs.map fun c => S [c]).map V.str))) H' ∧ MeAt K H' m ts ∧ MsOf i ts (sg1 (zs.take i))) ⟨e5, _, _, _, _, _, _, rfl, Same.refl _, M8, ms_0⟩ (fun i σ H' _ ⟨_, _, _, _, _, _, _, _, s, _⟩ => SqL.of (s _ _ hsq8)) ?_ ?_
    · rintro i x σ H9 H10 hi ⟨m, ts, c2, u10, u13, u14, u15, rfl, s9, M9, O9⟩ ⟨rfl, hx⟩
      have hi : i < zs.length := by simpa using hi
      have hzi : zs[i]? = some zs[i] := List.getElem?_eq_getElem hi
      rw [List.getElem?_map, List.getElem?_map, hzi] at hx
      cases hx
      have hcs : zs[i] ∈ sgn := hts _ ((hzm _).mp (List.getElem_mem hi))
      generalize zs[i] = c at *
      obtain ⟨dm, _, _, hm9, _, _⟩ := id M9
      refine ⟨rfl, _, rfl, [c], rfl, fun _ H11 e s11 M11 => ?_, fun i hi => ?_⟩
      rotate_left
      · rw [bad_one hcs] at hi
        cases hi
      have eo : onesM [c] = [(Bm.sg c, 1)] := by show (asc [c]).map _ = _; rw [asc_one c hcs]; rfl
      rw [eo] at M11
      have O11 : MsOf 1 (srt tmD [(Bm.sg c, 1)]) [(Bm.sg c, 1)] := ms_1 hcs
      obtain ⟨de, _, _, he11, _, _⟩ := id M11
      refine ⟨_, rfl, e, m, de, _, dm, _, rfl, rfl, he11, s11 _ _ hm9, e, m, _, ts, rfl, M11, M9.same s11, Nat.le_trans O11.len (by decide), Nat.le_trans O9.len (by omega), O11.ok, O9.ok, fun H12 g s12 M12 => ?_⟩
      refine ⟨g, _, c2, u10, _, u14, u15, rfl, (s9.trans s11).trans s12, M12, (O11.pl O9).cast (by omega) fun k => ?_⟩
      rw [show sg1 (zs.take (i + 1)) = sg1 (zs.take i) ++ [(Bm.sg c, 1)] by show (zs.take (i + 1)).map _ = _; rw [List.take_add_one, hzi, Option.toList_some, List.map_append]; rfl, fac_app, fac_app, Int.add_comm]
    rintro σ H9 ⟨m, ts, c2, u10, u13, u14, u15, rfl, s9, M9, O9⟩
    rw [List.take_of_length_le (by simp)] at O9
    have B9 := B8.same s9
    obtain ⟨dm, _, _, hm9, _, _⟩ := id M9
    refine ⟨rfl, _, rfl, t, rfl, fun _ H11 e s11 M11 => ?_, fun i hi => ?_⟩
    rotate_left
    · rw [bad_none hts] at hi
      cases hi
    obtain ⟨de, _, _, he11, _, _⟩ := id M11
    have B11 := B9.same s11
    refine ⟨_, rfl, e, m, de, _, dm, _, rfl, rfl, he11, s11 _ _ hm9, e, m, _, ts, rfl, M11, M9.same s11, (ms_ones t).ok, O9.ok, ?_⟩
    have et : decide (srt tmD (onesM t) = ts) = true := decide_eq_true ((ms_eq (ms_ones t) O9).mpr fun k => (fac_sg1 hzn hzm hts k).symm)
    rw [et]
    refine ⟨_, rfl, iff' rfl ?_⟩
    have B12 := B11
    have tl5 : t.length ≤ 5 := by omega
    refine ⟨_, rfl, _, _, rfl, rfl, by rw [List.length_cons, List.length_nil]; omega, ?_⟩
    refine ⟨_, rfl, _, rfl, _, _, rfl, rfl, ⟨by decide, by decide, by decide⟩, b, l, 10 ^ 20, rfl, B12, by decide, by decide, fun H13 f k13 B13 g0 g1 => ?_⟩
    refine ⟨_, _, rfl, rfl, t ++ [9], -1 - f, rfl, by rw [List.length_append, List.length_cons, List.length_nil]; omega, by simp, bad_tab hts, by omega, fun H' => kend H'⟩
def icB (K : PySem.W.Frag) (C : Str) : Bool := He.eqO (PySem.W.findIn K (.ref (ga K C)) "__class__") (some (some (.builtin "object.__class__"))) && (He.eqO (PySem.W.specialIn K (.builtin "object.__class__") "__get__") (some (some (.builtin "getset_descriptor.__get__"))) && (decide (PySem.W.takesIn K (.builtin "object.__class__") = some true) && (decide (PySem.W.mroIn K (ga K C) (.type "object") = some true) && decide (PySem.W.kitOne K (.ref (ga K C)) (.ref (ga K C)) = some true))))
theorem icB_ok {C : Str} (hc : Cls K (ga K C)) (h : icB K C = true) : C8.InsC K (ga K C) := by
  obtain ⟨h1, h⟩ := He.ba h
  obtain ⟨h2, h⟩ := He.ba h
  obtain ⟨h3, h⟩ := He.ba h
  obtain ⟨h4, h5⟩ := He.ba h
  exact ⟨hc, He.eqO_ok h1, He.eqO_ok h2, of_decide_eq_true h3, of_decide_eq_true h4, of_decide_eq_true h5⟩

end
def dd (x : Str) (st : Stmt) : He.DefD := ⟨(x, none), x, x, defArgs st, defBody st, defScope st, [], []⟩
def dx (C q : Str) (st : Stmt) : He.DefD := ⟨(C, some "__init__"), "__init__", q, defArgs st, defBody st, defScope st, [], []⟩
def dm (C m : String) (st : Stmt) : He.DefD := ⟨(Str.ofString C, some (Str.ofString m)), Str.ofString m, Str.ofString (C ++ "." ++ m), defArgs st, defBody st, defScope st, [], []⟩
def fn : List He.DefD := [dx "InvalidText" "InvalidText.__init__" s_InvalidText, dx "InvalidRepeat" "InvalidRepeat.__init__" s_InvalidRepeat, dd "check_text" s_check_text, dd "ascending" s_ascending, dm "Measure" "__init__" s_Measure___init__, dm "Measure" "factor_of" s_Measure_factor_of, dm "Measure" "__eq__" s_Measure___eq__, dm "Measure" "__add__" s_Measure___add__, dm "Measure" "__neg__" s_Measure___neg__, dm "Measure" "__mul__" s_Measure___mul__, dm "Measure" "__rmul__" s_Measure___rmul__, dm "Measure" "__sub__" s_Measure___sub__, dd "_law_box" s_box, dd "_law_take" s_take, dd "_law_signs" s_signs, dd "_law_text" s_text, dd "_law_terms" s__law_terms, dd "_law_basic" s__law_basic, dd "_law_measure" s__law_measure, dd "_law_table" s__law_table, dd "_law_refused" s_lrefused37, dd "law" s_law]
def fa : List He.Fa := [.glo "check_text", .glo "ascending", .glo "_law_box", .glo "_law_take", .glo "_law_signs", .glo "_law_text", .glo "_law_terms", .glo "_law_basic", .glo "_law_measure", .glo "_law_table", .glo "_law_refused", .glo "law", .free "len", .free "int", .free "list", .free "range", .free "max", .free "enumerate", .free "isinstance", .free "str", .free "tuple", .free "repr", .free "bool", .free "min", .free "ValueError", .free "set", .free "sorted", .free "sum", .str "SIGNS" (S sgn), .str "LETTERS" (S ltr), .exm "InvalidText" "InvalidText" true, .exm "InvalidRepeat" "InvalidRepeat" true, .cls "Measure", .mkr "Measure", .glo "Measure", .noat "Measure" "terms", .meth "Measure" "factor_of", .meth "Measure" "__eq__", .meth "Measure" "__add__", .meth "Measure" "__neg__", .meth "Measure" "__mul__", .meth "Measure" "__rmul__", .meth "Measure" "__sub__"]
def exq (K : PySem.W.Frag) : Bool := [He.ex1B K "InvalidText" "place", He.ex1B K "InvalidRepeat" "repeat", imB K "Measure", icB K "Measure"].all id
abbrev R : PySem.W.OpenRow := PySem.W.OpenLaw.row PySem.Challenge.rw_keyreel_k37_measures_as_values
def pd : List PD := [("Measure", "counted", ⟨("Measure", some "counted"), "counted", "Measure.counted", defArgs s_Measure_counted, defBody s_Measure_counted, defScope s_Measure_counted, [], []⟩)]
def cd : List PD := [("Measure", "of_length", ⟨("Measure", some "of_length"), "of_length", "Measure.of_length", defArgs s_Measure_of_length, defBody s_Measure_of_length, defScope s_Measure_of_length, [], []⟩), ("Measure", "of_presses", ⟨("Measure", some "of_presses"), "of_presses", "Measure.of_presses", defArgs s_Measure_of_presses, defBody s_Measure_of_presses, defScope s_Measure_of_presses, [], []⟩), ("Measure", "of_ahead", ⟨("Measure", some "of_ahead"), "of_ahead", "Measure.of_ahead", defArgs s_Measure_of_ahead, defBody s_Measure_of_ahead, defScope s_Measure_of_ahead, [], []⟩), ("Measure", "of_nothing", ⟨("Measure", some "of_nothing"), "of_nothing", "Measure.of_nothing", defArgs s_Measure_of_nothing, defBody s_Measure_of_nothing, defScope s_Measure_of_nothing, [], []⟩), ("Measure", "of_signs", ⟨("Measure", some "of_signs"), "of_signs", "Measure.of_signs", defArgs s_Measure_of_signs, defBody s_Measure_of_signs, defScope s_Measure_of_signs, [], []⟩), ("Measure", "of_rounds", ⟨("Measure", some "of_rounds"), "of_rounds", "Measure.of_rounds", defArgs s_Measure_of_rounds, defBody s_Measure_of_rounds, defScope s_Measure_of_rounds, [], []⟩)]
def asl : List Addr := [3, 6, 4, 21, 31, 51, 70, 79, 84, 230, 241, 248, 255, 260, 267, 274, 281, 288, 295, 300, 307, 312, 0, 20, 30, 50, 69, 78, 83, 229, 240, 247, 254, 259, 266, 273, 280, 287, 294, 299, 306, 311, 15, 16, 17, 18, 19, 29, 32, 48, 49, 67, 68, 73, 74, 75, 76, 77, 80, 81, 82, 96, 105, 113, 123, 133, 143, 153, 160, 165, 172, 177, 184, 189, 194, 199, 206, 213, 220, 227, 228, 231, 232, 235, 236, 237, 238, 239, 242, 243, 244, 245, 246, 249, 250, 251, 252, 253, 256, 257, 258, 261, 262, 263, 264, 265, 268, 269, 270, 271, 272, 275, 276, 277, 278, 279, 282, 283, 284, 285, 286, 289, 290, 291, 292, 293, 296, 297, 298, 301, 302, 303, 304, 305, 308, 309, 310, 47, 66, 95, 103, 104, 111, 112, 121, 122, 131, 132, 141, 142, 151, 152, 159, 164, 171, 176, 183, 188, 193, 198, 205, 212, 219, 226, 42, 43, 44, 45, 46, 61, 62, 63, 64, 65, 92, 93, 94, 102, 106, 110, 114, 120, 124, 130, 134, 140, 144, 150, 154, 158, 161, 162, 163, 166, 167, 168, 169, 170, 173, 174, 175, 178, 179, 180, 181, 182, 185, 186, 187, 190, 191, 192, 195, 196, 197, 200, 201, 202, 203, 204, 207, 208, 209, 210, 211, 214, 215, 216, 217, 218, 221, 222, 223, 224, 225, 97, 98, 99, 100, 101, 107, 108, 109, 115, 116, 117, 118, 119, 125, 126, 127, 128, 129, 135, 136, 137, 138, 139, 145, 146, 147, 148, 149, 155, 156, 157, PySem.cStatics]
abbrev hk : PySem.W.Hook := hookL asl fa fn pd cd exq
def ob (s : PySem.W.SharedT) : AlL := obsL asl fa fn pd cd exq (HandSHeadRun.getT s)
theorem ob_eq (s : PySem.W.SharedT) : ob s = hk.obs s.abs := obsL_eq (HandSHeadRun.getT_eq s)
def loose0 : List Str := [("_wall" : Str), ("__name__" : Str), ("KeyreelError" : Str), ("InvalidText" : Str), ("InvalidRepeat" : Str), ("DIGITS" : Str), ("CAPITALS" : Str), ("LETTERS" : Str), ("SIGNS" : Str), ("check_text" : Str), ("ascending" : Str), ("Measure" : Str)]
def loose1 : List Str := [("_law_signs" : Str), ("_law_box" : Str), ("_law_take" : Str), ("_law_text" : Str), ("_law_terms" : Str), ("_law_basic" : Str), ("_law_measure" : Str), ("_law_total" : Str), ("_law_value" : Str), ("_law_table" : Str), ("_law_refused" : Str)]
def loose : List Str := loose0 ++ loose1
theorem run (w : World) : HandSHeadRun.RunEq R (PySem.W.view R.prog [26]) hk ob 6000 loose w := by
  intro os
  kernel_rfl
theorem kcal {P : Program} {w : World} {K : PySem.W.Frag} {mg : Str → Option Value} {base : Heap} {k : Nat} {x : Str} {sp : Sp} {f : Addr} {fd : FuncData} {ps : List Str} (F : FnOk P w K mg base (CX P w) k f fd ps sp) (g : mg x = some (.ref f)) (kp : PySem.W.keepIn K (.ref f) = true) (b : Binds K fd ps []) : KCal P w K mg base k x sp [] := ⟨f, fd, ps, [], F, g, kp, b, .nil⟩
theorem facts {P : Program} {w : World} {K : PySem.W.Frag} {h : Heap} {mg : Str → Option Value} {f : Addr} (X : K.In h) (G : h.Ns mainGlobals mg) (hfa : mg ("law" : Str) = some (.ref f)) (c0 : SaysL fa fn pd cd exq K) :
    ∃ fd : FuncData, (∀ (s : Shared) (v : Value), BindsTo s fd ⟨[v], []⟩ [("_law_script", v)]) ∧ ∀ base : Heap, K.In base → base.Ns mainGlobals mg → FnOk P w K mg base CX0 30 f fd ["_law_script"] (spLaw K) := by
  have c : He.SaysD fa fn K := c0.d
  have more : ∀ i (b : Bool), [He.ex1B K "InvalidText" "place", He.ex1B K "InvalidRepeat" "repeat", imB K "Measure", icB K "Measure"][i]? = some b → b = true := fun i b hb => List.all_eq_true.mp c0.ex b (List.mem_of_getElem? hb)
  have T : TX K mg := by
    refine { b_len := ?_, b_int := ?_, b_list := ?_, b_range := ?_, b_max := ?_, b_enumerate := ?_, b_isinstance := ?_, b_str := ?_, b_tuple := ?_, b_repr := ?_, b_bool := ?_, b_min := ?_, b_ValueError := ?_, b_set := ?_, b_sorted := ?_, b_sum := ?_, g_SIGNS := ?_, g_LETTERS := ?_ }
    · exact He.free_ok X G (c.fact 12 (f := .free "len") rfl)
    · exact He.free_ok X G (c.fact 13 (f := .free "int") rfl)
    · exact He.free_ok X G (c.fact 14 (f := .free "list") rfl)
    · exact He.free_ok X G (c.fact 15 (f := .free "range") rfl)
    · exact He.free_ok X G (c.fact 16 (f := .free "max") rfl)
    · exact He.free_ok X G (c.fact 17 (f := .free "enumerate") rfl)
    · exact He.free_ok X G (c.fact 18 (f := .free "isinstance") rfl)
    · exact He.free_ok X G (c.fact 19 (f := .free "str") rfl)
    · exact He.free_ok X G (c.fact 20 (f := .free "tuple") rfl)
    · exact He.free_ok X G (c.fact 21 (f := .free "repr") rfl)
    · exact He.free_ok X G (c.fact 22 (f := .free "bool") rfl)
    · exact He.free_ok X G (c.fact 23 (f := .free "min") rfl)
    · exact He.free_ok X G (c.fact 24 (f := .free "ValueError") rfl)
    · exact He.free_ok X G (c.fact 25 (f := .free "set") rfl)
    · exact He.free_ok X G (c.fact 26 (f := .free "sorted") rfl)
    · exact He.free_ok X G (c.fact 27 (f := .free "sum") rfl)
    · exact He.str_ok X G (c.fact 28 (f := .str "SIGNS" (S sgn)) rfl)
    · exact He.str_ok X G (c.fact 29 (f := .str "LETTERS" (S ltr)) rfl)
  obtain ⟨fdx0, Fx0⟩ := c.def_ 0 (d := dx "InvalidText" "InvalidText.__init__" s_InvalidText) rfl
  have bx0 : Binds K fdx0 ["self", "place"] [] := FunD.bindsN (ps := ["self", "place"]) Fx0 fun _ _ _ _ _ _ us hl => match us, hl with | [_, _], _ => rfl
  obtain ⟨fdx1, Fx1⟩ := c.def_ 1 (d := dx "InvalidRepeat" "InvalidRepeat.__init__" s_InvalidRepeat) rfl
  have bx1 : Binds K fdx1 ["self", "repeat"] [] := FunD.bindsN (ps := ["self", "repeat"]) Fx1 fun _ _ _ _ _ _ us hl => match us, hl with | [_, _], _ => rfl
  obtain ⟨fd0, F0⟩ := c.def_ 2 (d := dd "check_text" s_check_text) rfl
  have b0 : Binds K fd0 ["text"] [] := FunD.bindsN (ps := ["text"]) F0 fun _ _ _ _ _ _ us hl => match us, hl with | [_], _ => rfl
  obtain ⟨fd1, F1⟩ := c.def_ 3 (d := dd "ascending" s_ascending) rfl
  have b1 : Binds K fd1 ["signs"] [] := FunD.bindsN (ps := ["signs"]) F1 fun _ _ _ _ _ _ us hl => match us, hl with | [_], _ => rfl
  obtain ⟨fd2, F2⟩ := c.def_ 4 (d := dm "Measure" "__init__" s_Measure___init__) rfl
  have b2 : Binds K fd2 ["self", "terms"] [] := FunD.bindsN (ps := ["self", "terms"]) F2 fun _ _ _ _ _ _ us hl => match us, hl with | [_, _], _ => rfl
  obtain ⟨fd3, F3⟩ := c.def_ 5 (d := dm "Measure" "factor_of" s_Measure_factor_of) rfl
  have b3 : Binds K fd3 ["self", "name", "detail"] [] := FunD.bindsN (ps := ["self", "name", "detail"]) F3 fun _ _ _ _ _ _ us hl => match us, hl with | [_, _, _], _ => rfl
  obtain ⟨fd4, F4⟩ := c.def_ 6 (d := dm "Measure" "__eq__" s_Measure___eq__) rfl
  have b4 : Binds K fd4 ["self", "other"] [] := FunD.bindsN (ps := ["self", "other"]) F4 fun _ _ _ _ _ _ us hl => match us, hl with | [_, _], _ => rfl
  obtain ⟨fd5, F5⟩ := c.def_ 7 (d := dm "Measure" "__add__" s_Measure___add__) rfl
  have b5 : Binds K fd5 ["self", "other"] [] := FunD.bindsN (ps := ["self", "other"]) F5 fun _ _ _ _ _ _ us hl => match us, hl with | [_, _], _ => rfl
  obtain ⟨fd6, F6⟩ := c.def_ 8 (d := dm "Measure" "__neg__" s_Measure___neg__) rfl
  have b6 : Binds K fd6 ["self"] [] := FunD.bindsN (ps := ["self"]) F6 fun _ _ _ _ _ _ us hl => match us, hl with | [_], _ => rfl
  obtain ⟨fd7, F7⟩ := c.def_ 9 (d := dm "Measure" "__mul__" s_Measure___mul__) rfl
  have b7 : Binds K fd7 ["self", "factor"] [] := FunD.bindsN (ps := ["self", "factor"]) F7 fun _ _ _ _ _ _ us hl => match us, hl with | [_, _], _ => rfl
  obtain ⟨fd8, F8⟩ := c.def_ 10 (d := dm "Measure" "__rmul__" s_Measure___rmul__) rfl
  have b8 : Binds K fd8 ["self", "factor"] [] := FunD.bindsN (ps := ["self", "factor"]) F8 fun _ _ _ _ _ _ us hl => match us, hl with | [_, _], _ => rfl
  obtain ⟨fd9, F9⟩ := c.def_ 11 (d := dm "Measure" "__sub__" s_Measure___sub__) rfl
  have b9 : Binds K fd9 ["self", "other"] [] := FunD.bindsN (ps := ["self", "other"]) F9 fun _ _ _ _ _ _ us hl => match us, hl with | [_, _], _ => rfl
  obtain ⟨fd10, F10⟩ := c.def_ 12 (d := dd "_law_box" s_box) rfl
  have b10 : Binds K fd10 ["_law_script"] [] := FunD.bindsN (ps := ["_law_script"]) F10 fun _ _ _ _ _ _ us hl => match us, hl with | [_], _ => rfl
  obtain ⟨fd11, F11⟩ := c.def_ 13 (d := dd "_law_take" s_take) rfl
  have b11 : Binds K fd11 ["_law_box_here", "_law_size"] [] := FunD.bindsN (ps := ["_law_box_here", "_law_size"]) F11 fun _ _ _ _ _ _ us hl => match us, hl with | [_, _], _ => rfl
  obtain ⟨fd12, F12⟩ := c.def_ 14 (d := dd "_law_signs" s_signs) rfl
  have b12 : Binds K fd12 [] [] := FunD.bindsN (ps := []) F12 fun _ _ _ _ _ _ us hl => match us, hl with | [], _ => rfl
  obtain ⟨fd13, F13⟩ := c.def_ 15 (d := dd "_law_text" s_text) rfl
  have b13 : Binds K fd13 ["_law_box_here", "_law_signs_here", "_law_most"] [] := FunD.bindsN (ps := ["_law_box_here", "_law_signs_here", "_law_most"]) F13 fun _ _ _ _ _ _ us hl => match us, hl with | [_, _, _], _ => rfl
  obtain ⟨fd14, F14⟩ := c.def_ 16 (d := dd "_law_terms" s__law_terms) rfl
  have b14 : Binds K fd14 ["_law_box_here", "_law_repeats", "_law_signs_here"] [] := FunD.bindsN (ps := ["_law_box_here", "_law_repeats", "_law_signs_here"]) F14 fun _ _ _ _ _ _ us hl => match us, hl with | [_, _, _], _ => rfl
  obtain ⟨fd15, F15⟩ := c.def_ 17 (d := dd "_law_basic" s__law_basic) rfl
  have b15 : Binds K fd15 ["_law_name", "_law_detail"] [] := FunD.bindsN (ps := ["_law_name", "_law_detail"]) F15 fun _ _ _ _ _ _ us hl => match us, hl with | [_, _], _ => rfl
  obtain ⟨fd16, F16⟩ := c.def_ 18 (d := dd "_law_measure" s__law_measure) rfl
  have b16 : Binds K fd16 ["_law_terms_here"] [] := FunD.bindsN (ps := ["_law_terms_here"]) F16 fun _ _ _ _ _ _ us hl => match us, hl with | [_], _ => rfl
  obtain ⟨fd17, F17⟩ := c.def_ 19 (d := dd "_law_table" s__law_table) rfl
  have b17 : Binds K fd17 ["_law_terms_here"] [] := FunD.bindsN (ps := ["_law_terms_here"]) F17 fun _ _ _ _ _ _ us hl => match us, hl with | [_], _ => rfl
  obtain ⟨fd18, F18⟩ := c.def_ 20 (d := dd "_law_refused" s_lrefused37) rfl
  have b18 : Binds K fd18 ["_law_text_here", "_law_repeat"] [] := FunD.bindsN (ps := ["_law_text_here", "_law_repeat"]) F18 fun _ _ _ _ _ _ us hl => match us, hl with | [_, _], _ => rfl
  obtain ⟨fd19, F19⟩ := c.def_ 21 (d := dd "law" s_law) rfl
  have b19 : Binds K fd19 ["_law_script"] [] := FunD.bindsN (ps := ["_law_script"]) F19 fun _ _ _ _ _ _ us hl => match us, hl with | [_], _ => rfl
  obtain ⟨ap0, fdp0, hpp0, Fp0⟩ := c0.prop 0 (p := ("Measure", "counted", ⟨("Measure", some "counted"), "counted", "Measure.counted", defArgs s_Measure_counted, defBody s_Measure_counted, defScope s_Measure_counted, [], []⟩)) rfl
  have bp0 : Binds K fdp0 ["self"] [] := FunD.bindsN (ps := ["self"]) Fp0 fun _ _ _ _ _ _ us hl => match us, hl with | [_], _ => rfl
  obtain ⟨ac0, fdc0, rdc0, hpc0, Fc0⟩ := c0.cm 0 (p := ("Measure", "of_length", ⟨("Measure", some "of_length"), "of_length", "Measure.of_length", defArgs s_Measure_of_length, defBody s_Measure_of_length, defScope s_Measure_of_length, [], []⟩)) rfl
  have bc0 : Binds K fdc0 ["cls"] [] := FunD.bindsN (ps := ["cls"]) Fc0 fun _ _ _ _ _ _ us hl => match us, hl with | [_], _ => rfl
  obtain ⟨ac1, fdc1, rdc1, hpc1, Fc1⟩ := c0.cm 1 (p := ("Measure", "of_presses", ⟨("Measure", some "of_presses"), "of_presses", "Measure.of_presses", defArgs s_Measure_of_presses, defBody s_Measure_of_presses, defScope s_Measure_of_presses, [], []⟩)) rfl
  have bc1 : Binds K fdc1 ["cls"] [] := FunD.bindsN (ps := ["cls"]) Fc1 fun _ _ _ _ _ _ us hl => match us, hl with | [_], _ => rfl
  obtain ⟨ac2, fdc2, rdc2, hpc2, Fc2⟩ := c0.cm 2 (p := ("Measure", "of_ahead", ⟨("Measure", some "of_ahead"), "of_ahead", "Measure.of_ahead", defArgs s_Measure_of_ahead, defBody s_Measure_of_ahead, defScope s_Measure_of_ahead, [], []⟩)) rfl
  have bc2 : Binds K fdc2 ["cls"] [] := FunD.bindsN (ps := ["cls"]) Fc2 fun _ _ _ _ _ _ us hl => match us, hl with | [_], _ => rfl
  obtain ⟨ac3, fdc3, rdc3, hpc3, Fc3⟩ := c0.cm 3 (p := ("Measure", "of_nothing", ⟨("Measure", some "of_nothing"), "of_nothing", "Measure.of_nothing", defArgs s_Measure_of_nothing, defBody s_Measure_of_nothing, defScope s_Measure_of_nothing, [], []⟩)) rfl
  have bc3 : Binds K fdc3 ["cls"] [] := FunD.bindsN (ps := ["cls"]) Fc3 fun _ _ _ _ _ _ us hl => match us, hl with | [_], _ => rfl
  obtain ⟨ac4, fdc4, rdc4, hpc4, Fc4⟩ := c0.cm 4 (p := ("Measure", "of_signs", ⟨("Measure", some "of_signs"), "of_signs", "Measure.of_signs", defArgs s_Measure_of_signs, defBody s_Measure_of_signs, defScope s_Measure_of_signs, [], []⟩)) rfl
  have bc4 : Binds K fdc4 ["cls", "signs"] [] := FunD.bindsN (ps := ["cls", "signs"]) Fc4 fun _ _ _ _ _ _ us hl => match us, hl with | [_, _], _ => rfl
  obtain ⟨ac5, fdc5, rdc5, hpc5, Fc5⟩ := c0.cm 5 (p := ("Measure", "of_rounds", ⟨("Measure", some "of_rounds"), "of_rounds", "Measure.of_rounds", defArgs s_Measure_of_rounds, defBody s_Measure_of_rounds, defScope s_Measure_of_rounds, [], []⟩)) rfl
  have bc5 : Binds K fdc5 ["cls", "repeat"] [] := FunD.bindsN (ps := ["cls", "repeat"]) Fc5 fun _ _ _ _ _ _ us hl => match us, hl with | [_, _], _ => rfl
  have e := hfa.symm.trans (He.glo_ok X G (c.fact 11 (f := .glo "law") rfl))
  cases e
  have bA := FunD.bindsA (ps := ["_law_script"]) F19 fun _ _ _ _ _ _ us hl => match us, hl with | [_], _ => rfl
  refine ⟨fd19, fun s v => bA s [v] rfl, fun base _ _ => ?_⟩
  have x_InvalidText : Ex1 P w K mg base "InvalidText" "place" (ga K "InvalidText") := He.ex1_ok X G (more 0 _ rfl) (ok_InvalidText (He.oexB_ok (He.ba (He.ba (more 0 _ rfl)).2).1) (He.eqO_ok (He.ba (He.ba (He.ba (He.ba (He.ba (more 0 _ rfl)).2).2).2).2).1) Fx0) bx0
  have x_InvalidRepeat : Ex1 P w K mg base "InvalidRepeat" "repeat" (ga K "InvalidRepeat") := He.ex1_ok X G (more 1 _ rfl) (ok_InvalidRepeat (He.oexB_ok (He.ba (He.ba (more 1 _ rfl)).2).1) (He.eqO_ok (He.ba (He.ba (He.ba (He.ba (He.ba (more 1 _ rfl)).2).2).2).2).1) Fx1) bx1
  have Z : TMe K := ⟨He.cls_ok (c.fact 32 (f := .cls "Measure") rfl), He.noat_ok (c.fact 35 (f := .noat "Measure" "terms") rfl)⟩
  have o_Measure : IntMul K (ga K "Measure") := imB_ok (more 2 _ rfl)
  have o_isMeasure : C8.InsC K (ga K "Measure") := icB_ok (He.cls_ok (c.fact 32 (f := .cls "Measure") rfl)) (more 3 _ rfl)
  have y_Measure : XK1 mg "Measure" (ga K "Measure") := ⟨He.glo_ok X G (c.fact 34 (f := .glo "Measure") rfl)⟩
  have eT : PySem.W.exmOne K (.ref (ga K "InvalidText")) (.ref (ga K "InvalidText")) = some true := He.exm_ok (c.fact 30 (f := .exm "InvalidText" "InvalidText" true) rfl)
  have eR : PySem.W.exmOne K (.ref (ga K "InvalidRepeat")) (.ref (ga K "InvalidRepeat")) = some true := He.exm_ok (c.fact 31 (f := .exm "InvalidRepeat" "InvalidRepeat" true) rfl)
  have c_check_text : KCal P w K mg base 3 "check_text" (spCheckText K) [] := kcal (ok_check_text T x_InvalidText F0) (He.glo_ok X G (c.fact 0 (f := .glo "check_text") rfl)) F0.kp b0
  have c_ascending : KCal P w K mg base 1 "ascending" spAsc [] := kcal (ok_ascending T F1) (He.glo_ok X G (c.fact 1 (f := .glo "ascending") rfl)) F1.kp b1
  have k_Measure_1 : KMap P w K mg base 1 "Measure" (ga K "Measure") (spMeI K) [] := ⟨_, _, _, [], He.mkr_ok (c.fact 33 (f := .mkr "Measure") rfl), ok_Measure___init__ T Z F2, He.glo_ok X G (c.fact 34 (f := .glo "Measure") rfl), b2, .nil⟩
  have m_Measure_factor_of : KMet P w K mg base 1 (ga K "Measure") "factor_of" (spFac K) := ⟨_, _, _, He.cls_ok (c.fact 32 (f := .cls "Measure") rfl), He.meth_ok (c.fact 36 (f := .meth "Measure" "factor_of") rfl), ok_Measure_factor_of T Z F3, b3⟩
  have m_Measure___eq__ : KMet P w K mg base 1 (ga K "Measure") "__eq__" (spMeEq K) := ⟨_, _, _, He.cls_ok (c.fact 32 (f := .cls "Measure") rfl), He.meth_ok (c.fact 37 (f := .meth "Measure" "__eq__") rfl), ok_Measure___eq__ T Z o_isMeasure y_Measure k_Measure_1 F4, b4⟩
  have m_Measure___add__ : KMet P w K mg base 3 (ga K "Measure") "__add__" (spMeAdd K) := ⟨_, _, _, He.cls_ok (c.fact 32 (f := .cls "Measure") rfl), He.meth_ok (c.fact 38 (f := .meth "Measure" "__add__") rfl), ok_Measure___add__ T Z m_Measure_factor_of k_Measure_1 F5, b5⟩
  have m_Measure___neg__ : KMet P w K mg base 3 (ga K "Measure") "__neg__" (spMeNeg K) := ⟨_, _, _, He.cls_ok (c.fact 32 (f := .cls "Measure") rfl), He.meth_ok (c.fact 39 (f := .meth "Measure" "__neg__") rfl), ok_Measure___neg__ T Z k_Measure_1 F6, b6⟩
  have m_Measure___mul__ : KMet P w K mg base 3 (ga K "Measure") "__mul__" (spMeMul K) := ⟨_, _, _, He.cls_ok (c.fact 32 (f := .cls "Measure") rfl), He.meth_ok (c.fact 40 (f := .meth "Measure" "__mul__") rfl), ok_Measure___mul__ T Z k_Measure_1 F7, b7⟩
  have m_Measure___rmul__ : KMet P w K mg base 3 (ga K "Measure") "__rmul__" (spMeMul K) := ⟨_, _, _, He.cls_ok (c.fact 32 (f := .cls "Measure") rfl), He.meth_ok (c.fact 41 (f := .meth "Measure" "__rmul__") rfl), ok_Measure___rmul__ T Z k_Measure_1 F8, b8⟩
  have m_Measure___sub__ : KMet P w K mg base 4 (ga K "Measure") "__sub__" (spMeSub K) := ⟨_, _, _, He.cls_ok (c.fact 32 (f := .cls "Measure") rfl), He.meth_ok (c.fact 42 (f := .meth "Measure" "__sub__") rfl), ok_Measure___sub__ T o_Measure m_Measure___neg__ m_Measure___add__ F9, b9⟩
  have c__law_box : KCal P w K mg base 1 "_law_box" (spBox K) [] := kcal (ok_box T F10) (He.glo_ok X G (c.fact 2 (f := .glo "_law_box") rfl)) F10.kp b10
  have c__law_take : KCal P w K mg base 1 "_law_take" spTake [] := kcal (ok_take T F11) (He.glo_ok X G (c.fact 3 (f := .glo "_law_take") rfl)) F11.kp b11
  have c__law_signs : KCal P w K mg base 1 "_law_signs" spSigns [] := kcal (ok_signs F12) (He.glo_ok X G (c.fact 4 (f := .glo "_law_signs") rfl)) F12.kp b12
  have c__law_text : KCal P w K mg base 2 "_law_text" spText [] := kcal (ok_text T c__law_take F13) (He.glo_ok X G (c.fact 5 (f := .glo "_law_text") rfl)) F13.kp b13
  have c__law_terms : KCal P w K mg base 2 "_law_terms" (spLTerms K) [] := kcal (ok__law_terms T c__law_take F14) (He.glo_ok X G (c.fact 6 (f := .glo "_law_terms") rfl)) F14.kp b14
  have p_Measure_counted : KPrp P w K mg base 3 (ga K "Measure") "counted" (spCnt K) := ⟨_, _, _, _, He.cls_ok (c.fact 32 (f := .cls "Measure") rfl), hpp0, ok_Measure_counted T Z c_ascending Fp0, bp0⟩
  have cm_Measure_of_length : KCm P w K mg base 3 (ga K "Measure") "of_length" (spMeC K [(.len, 1)]) := ⟨_, _, _, _, rdc0, hpc0, ok_Measure_of_length T k_Measure_1 Fc0, bc0⟩
  have cm_Measure_of_presses : KCm P w K mg base 3 (ga K "Measure") "of_presses" (spMeC K [(.pr, 1)]) := ⟨_, _, _, _, rdc1, hpc1, ok_Measure_of_presses T k_Measure_1 Fc1, bc1⟩
  have cm_Measure_of_ahead : KCm P w K mg base 3 (ga K "Measure") "of_ahead" (spMeC K [(.ah, 1)]) := ⟨_, _, _, _, rdc2, hpc2, ok_Measure_of_ahead T k_Measure_1 Fc2, bc2⟩
  have cm_Measure_of_nothing : KCm P w K mg base 3 (ga K "Measure") "of_nothing" (spMeC K []) := ⟨_, _, _, _, rdc3, hpc3, ok_Measure_of_nothing T k_Measure_1 Fc3, bc3⟩
  have cm_Measure_of_signs : KCm P w K mg base 4 (ga K "Measure") "of_signs" (spMeS K) := ⟨_, _, _, _, rdc4, hpc4, ok_Measure_of_signs T c_check_text c_ascending k_Measure_1 Fc4, bc4⟩
  have cm_Measure_of_rounds : KCm P w K mg base 3 (ga K "Measure") "of_rounds" (spMeR K) := ⟨_, _, _, _, rdc5, hpc5, ok_Measure_of_rounds T x_InvalidRepeat k_Measure_1 Fc5, bc5⟩
  have c__law_basic : KCal P w K mg base 6 "_law_basic" (spLBasic K) [] := kcal (ok__law_basic T k_Measure_1 cm_Measure_of_length cm_Measure_of_presses cm_Measure_of_ahead cm_Measure_of_signs cm_Measure_of_rounds F15) (He.glo_ok X G (c.fact 7 (f := .glo "_law_basic") rfl)) F15.kp b15
  have c__law_measure : KCal P w K mg base 7 "_law_measure" (spLMeas K) [] := kcal (ok__law_measure T o_Measure k_Measure_1 cm_Measure_of_nothing c__law_basic m_Measure___add__ m_Measure___mul__ m_Measure___rmul__ F16) (He.glo_ok X G (c.fact 8 (f := .glo "_law_measure") rfl)) F16.kp b16
  have c__law_table : KCal P w K mg base 2 "_law_table" (spLTab K) [] := kcal (ok__law_table T F17) (He.glo_ok X G (c.fact 9 (f := .glo "_law_table") rfl)) F17.kp b17
  have c__law_refused : KCal P w K mg base 6 "_law_refused" spLRefused [] := kcal (ok_lrefused37 T x_InvalidText x_InvalidRepeat eT eR k_Measure_1 cm_Measure_of_signs cm_Measure_of_rounds F18) (He.glo_ok X G (c.fact 10 (f := .glo "_law_refused") rfl)) F18.kp b18
  exact ok0 (ok_law T o_Measure c__law_box c__law_signs c__law_take c__law_text c__law_terms c__law_measure c__law_table c__law_refused k_Measure_1 cm_Measure_of_nothing cm_Measure_of_signs m_Measure___add__ m_Measure___sub__ m_Measure___neg__ m_Measure___mul__ m_Measure___rmul__ m_Measure___eq__ p_Measure_counted F19) fun _ _ _ _ h => h
end Kr
open PySem PySem.W PySem.Calls PyProof.Rows
set_option maxRecDepth 100000 in
set_option maxHeartbeats 0 in
theorem PySem.Challenge.cw_keyreel_k37_measures_as_values_holds : PySem.Challenge.rw_keyreel_k37_measures_as_values.Holds := by
  w_on; o_law
  refine HandSHeadRun.head_any (r := OpenLaw.row PySem.Challenge.rw_keyreel_k37_measures_as_values) (q := view (OpenLaw.row PySem.Challenge.rw_keyreel_k37_measures_as_values).prog [26]) (H := Kr.hk) (ob := Kr.ob) (M := 6000) (loose := Kr.loose) (d := HandSHeadRun.topDef (OpenLaw.row PySem.Challenge.rw_keyreel_k37_measures_as_values).prog 26) (kwd := []) Kr.ob_eq
    (by kernel_rfl) (fun s => by kernel_rfl) Kr.run (by kernel_rfl) (by kernel_rfl) (by kernel_rfl) (by rfl) (by first | assumption | decide +kernel) (by decide +kernel) ⟨rfl, rfl, rfl, rfl, rfl, by decide +kernel⟩ ?hw ?hc
  case hw => w_witness2
  case hc =>
    refine L2.walk_ofE (l := PySem.Challenge.rw_keyreel_k37_measures_as_values) (n := 63) (k := 30) (x := "_law_script") (CX := L2.CX0) rfl (by decide) (by kernel_rfl) ⟨rfl, by decide, by decide⟩ ?F (fun _ _ _ _ z => z)
    intro w mg fa h Y G hmg0
    obtain ⟨K, KX, c⟩ := Y
    have hmg : mg ("law" : PySem.Str) = some (.ref fa) := by
      have e : (HandSHeadRun.topDef (OpenLaw.row PySem.Challenge.rw_keyreel_k37_measures_as_values).prog 26).name = ("law" : PySem.Str) := by kernel_rfl
      rw [← e]
      exact hmg0
    obtain ⟨fd, hb, hF⟩ := Kr.facts (P := (PySem.Challenge.rw_keyreel_k37_measures_as_values).prog) (w := w) KX G hmg c
    exact ⟨K, fd, Kr.spLaw K, KX, hb, fun H a ns hl _ hS => ⟨a, ns, rfl, hS, fun _ => rfl⟩, hF⟩
#print axioms PySem.Challenge.cw_keyreel_k37_measures_as_values_holds
