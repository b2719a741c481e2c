import PyProof.Rows.All
import Wide.All
import OpenK.AllK
import Wide.FinOn
import KE.KExcIs
import HandS.ForMost
import HandS.ForExc
import HandS.ExcInit
import HandS.ExcField
import HandS.ExcIs
import HandS.ExcValue
import HandS.IsInst
import HandS.ClsMeth
import HandS.Defaults
import HandS.Steps
import HandS.Style
import PyProof.ListStr
import HandS.Head0
import HandS.Head1
import HandS.Head2
import HandS.HeadEnd
import HandS.HeadHook4
import PySem.Challenge.RW_cliplore_k81_errors_and_attributes
set_option Elab.async false
set_option linter.all false
set_option maxRecDepth 100000
set_option maxHeartbeats 4000000
/-! Own layer, part 1: the program's errors as values. -/
namespace Cl
open PySem PySem.Spec PyProof.Rows L2
/-- what the written part says of an error class C of the program -/
structure XCls (K : PySem.W.Frag) (C : Addr) : Prop where
  o : OexC K C
  f : XfC K C
  cl : (PySem.W.clsIn K C).isSome = true
  kl : PySem.W.findIn K (.ref C) "__class__" = some (some (.builtin "object.__class__"))
  sg : PySem.W.specialIn K (.builtin "object.__class__") "__get__" = some (some (.builtin "getset_descriptor.__get__"))
  tk : PySem.W.takesIn K (.builtin "object.__class__") = some true
  mo : PySem.W.mroIn K C (.type "object") = some true
section
variable {X : Cx} {e : Expr} {es : List Expr} {te : TE} {ta : TA} {f x : Str} {p p1 p2 pos : Pos}
/-- B.__init__(self, ..), B an error class of the program without an __init__ of its own -/
theorem pe_binit {B : Addr} {pl : Sem Bool} (hg : Gl X x) (hm : X.mg x = some (.ref B)) (hs : PySem.W.specialIn X.K (.ref B) "__getattribute__" = some (some (.builtin "type.__getattribute__"))) (ht : PySem.W.typeIn X.K (.ref B) = some (.type "type")) (hr : PySem.W.readsIn X.K B (.type "type") = true)
    (hv : PySem.W.findCls X.K (.ref B) (.type "type") "__init__" = some (.val (.builtin "ValueError.__init__"))) (ha : PA X (e :: es) ta)
    (hc : eval (.Call (.Attribute (.Name x p1) "__init__" p2) (e :: es) [] pos) X.env = (do
      let ov ← eval (.Name x p1) X.env
      standAt p2.atName
      let (f, first) ← holding [ov] (getMethod ov "__init__" pl)
      callWith pos f first (backTo pos (starEach (e :: es) X.env)) (backToKw pos (keywordEach [] X.env))) := by rfl)
    (hd : (x == ("__debug__" : Str)) = false := by decide)
    (he : starEach (e :: es) X.env = (false, eval e X.env) :: starEach es X.env := by rfl) (hq : (backTo pos (starEach es X.env)).any (·.1) = false := by rfl) :
    PE X (.Call (.Attribute (.Name x p1) "__init__" p2) (e :: es) [] pos) (tVeI X.K ta) := by
  constructor
  intro pins s σ H Q I h
  refine PySem.W.methodCall_KW (ld_glob I hg hm ?_ hd) hc
  obtain ⟨m, fr⟩ := I.fr
  refine PySem.W.method_of_cls fr I.ok.mod.kin hs (PySem.W.cls_val fr I.ok.mod.kin ht hr hv (by decide +kernel) ?_)
  refine PyProof.Rows.callWith_method1 (thn (ha.run pos pins _ σ H _ (I.tok _) h) ?_) he hq
  rintro us s1 ⟨vs, H1, I1, r1, a, C, ws, ev, hl, T, ea, q⟩
  subst ev
  cases r1 with
  | @cons _ u0 _ ur ra rr =>
    obtain rfl : u0 = Value.ref a := ra
    refine oinit_ok T I1 ea ?_ (fun s' J => ⟨.non, H1, J, rfl, q⟩)
    rw [← Paired.length rr, sizeLine_eq]
    omega
/-- C(e, ..) as a value: a new error, its __init__ keeping sp -/
def tMkV (C : Addr) (sp : Sp) (dvs : List V) (ta : TA) : TE := fun σ H Q => ta σ H fun vs H1 => vs.length ≤ 1000 ∧ ∀ a, H1 a = none → sp (.ref a :: (vs ++ dvs)) (upd H1 a (exo a C none))
  (fun v H2 => v = .non ∧ Q (.ref a) H2) (fun _ _ _ => False)
theorem pe_mkv {CX : CXT} {C fI : Addr} {k : Nat} {fd : FuncData} {ps : List Str} {sp : Sp} {ds : List Value} {dvs : List V} (T : OexC X.K C) (iC : PySem.W.findIn X.K (.ref C) "__init__" = some (some (.ref fI))) (tI : PySem.W.typeIn X.K (.ref fI) = some (.type "function"))
    (F1 : FnOk X.prog X.w X.K X.mg X.base CX k fI fd ps sp) (hr : Room (k + 1) X.A) (hb : Binds X.K fd ps ds) (hd : Vals dvs ds) (hx : Passes CX X (fun _ _ _ => False)) (hg : Gl X x) (hm : X.mg x = some (.ref C)) (ha : PA X (e :: es) ta)
    (hdb : (x == ("__debug__" : Str)) = false := by decide) (he : starEach (e :: es) X.env = (false, eval e X.env) :: starEach es X.env := by rfl) (hq : (backTo pos (starEach es X.env)).any (·.1) = false := by rfl) :
    PE X (.Call (.Name x p) (e :: es) [] pos) (tMkV C sp dvs ta) := by
  constructor
  intro pins s σ H Q I h
  obtain ⟨nm, q, N, bs, bm, sn, sub, ab, col, dd, k0, k1, k2, k3, k5, hC, hbm⟩ := T.cls
  refine wpAny_Call_Name_kw (ld_glob I hg hm ?_ hdb)
  refine PySem.W.callWith_K (h₀ := X.base) I.ok.mod.kin T.kC (thn (ha.run pos pins s σ H _ I h) ?_) he hq
  rintro us s1 ⟨vs, H1, I1, r1, hz, q1⟩
  refine ⟨I1.kIn, ?_⟩
  show wpAny _ _ (call (.ref C) us) _ _ _
  obtain ⟨hp, g, dr, tk, os⟩ := s1
  let a := hp.objs.size + 1
  have hsz : hp.objs.size ≤ a := Nat.le_succ _
  have hn : H1 a = none := I1.hok.fresh hsz
  have hQ := q1 a hn
  let h2 := (hp.push (PySem.W.kdv_tup us)).push (PySem.HandSPX.excO C hp.objs.size)
  have kk : ∀ b o, hp.get? b = some o → h2.get? b = some o := fun b o z => Heap.get?_push_of_some _ (Heap.get?_push_of_some _ z)
  have hget : h2.get? a = some (PySem.HandSPX.excO C hp.objs.size) := by
    show ((hp.push (PySem.W.kdv_tup us)).push (PySem.HandSPX.excO C hp.objs.size)).get? (hp.objs.size + 1) = _
    heap_get
  have I2 : Inv X pins σ (upd H1 a (exo a C none)) ⟨h2, g, dr, tk, os⟩ := I1.laid (t' := tk) (a := a) (o := exo a C none) (h' := h2) kk hsz (exo_ok hget)
  have r2 : Vals (V.ref a :: (vs ++ dvs)) (Value.ref a :: (us ++ ds)) := .cons rfl (r1.append hd)
  have hl : (Value.ref a :: us ++ ds).length = ps.length := by
    have z := r2.length
    rw [F1.len _ _ _ _ hQ] at z
    exact z.symm
  have hus : us.length ≤ sizeLine := by
    rw [← Paired.length r1, sizeLine_eq]
    omega
  refine wpAny_call (PySem.HandSPX.call_own F.excBase_ValueError (fun Y => PySem.HandSPX.refsVE_contains Y bm hbm) (I1.kIn _ _ hC) (PySem.W.looks_findIn I1.kIn iC) (fun self => PySem.W.bind_fn I1.kIn self tI) hus ?_)
  refine codeAny_mono (F1.run _ X.stack _ _ ⟨Value.ref a :: us, []⟩ (Value.ref a :: (us ++ ds)) _ _ (fun _ _ _ => False) (hr.make C us []) (I2.env0.make C us []) (hb _ (Value.ref a :: us) I2.kIn hl) r2 hQ) ?_
  intro r s' hq'
  cases r with
  | error er => exact hx pins σ _ _ er s' I2 hq'
  | ok fl =>
    cases fl with
    | ret u =>
      obtain ⟨v, H2, J, rv, ev, q2⟩ := I2.after hq'
      subst ev
      exact ⟨rv, .ref a, H2, J, rfl, q2⟩
    | next => exact False.elim hq'
    | brk => exact False.elim hq'
    | cont => exact False.elim hq'
/-- an error at a: with a dict at d of the fields fs, or bare -/
def XAt (H : Hp) (a C : Addr) : Prop := H a = some (ExO (.ref C) a) ∨ ∃ d fs, H a = some (exo a C (some d)) ∧ H d = some (exd d fs)
/-- isinstance(e, c) -/
def rIsX (K : PySem.W.Frag) : List V → Hp → VK → Prop := fun xs H Q => ∃ (a C : Addr) (c : V) (u : Value) (b : Bool), xs = [.ref a, c] ∧ ClsV c u ∧ XCls K C ∧ XAt H a C ∧ PySem.W.kitOne K (.ref C) u = some b ∧ Q (.bl b) H
theorem call_isX : CallR X (.builtin "isinstance") (rIsX X.K) := by
  intro pins s σ H xs us Q I r h
  obtain ⟨a, C, c, u, b, rfl, k, T, hX, hk, q⟩ := h
  obtain ⟨u1, u2, rfl, r1, r2⟩ := vals2 r
  obtain rfl := k.eq r2
  obtain rfl : u1 = Value.ref a := r1
  have J : ∃ ox od, PySem.W.InstAt s.heap a ox C od := by
    rcases hX with h | ⟨d, fs, h1, h2⟩
    · obtain ⟨⟨oe, vs, ho, hz, hd, _⟩, _⟩ := I.hok a _ h
      refine ⟨oe, none, ho, hz.1, ?_, ?_⟩
      · unfold PySem.W.notCls
        rw [hd]
      · rw [hz.2]
        trivial
    · obtain ⟨t1, ho⟩ := exo_at I.hok h1
      obtain ⟨mA, hns, _⟩ := exd_at I.hok h2
      obtain ⟨od, hod, _⟩ := lookIn_ns hns
      exact ⟨_, some od, ho, rfl, rfl, hod⟩
  obtain ⟨ox, od, J⟩ := J
  exact PySem.W.kia_one (PySem.W.kitx_exc T.cl T.f.ga T.f.gg T.f.exC T.kl T.sg T.tk T.mo) I.kIn J hk (fun z => nomatch z) fun tk => ⟨.bl b, H, I.tok tk, rfl, q⟩
/-- e.f of an error with its dict -/
def tXfv (K : PySem.W.Frag) (f : Str) (te : TE) : TE := fun σ H Q => te σ H fun x H1 => ∃ (a C d : Addr) (fs : List (Str × V)) (v : V), x = .ref a ∧ XfC K C ∧ PySem.W.findIn K (.ref C) f = some none ∧ H1 a = some (exo a C (some d)) ∧ H1 d = some (exd d fs) ∧ fs.lookup f = some v ∧ Q v H1
theorem pe_xfv (he : PE X e te) (hb : attributeBase e f X.env (eval e X.env) = eval e X.env := by rfl) : PE X (.Attribute e f pos) (tXfv X.K f te) := by
  constructor
  intro pins s σ H Q I h
  refine attr_of hb (thn (he.run pins s σ H _ I h) ?_)
  rintro u s1 ⟨x, H1, I1, rx, a, C, d, fs, v, rfl, T, hno, h1, h2, l, q⟩
  obtain rfl : u = Value.ref a := rx
  obtain ⟨t1, ho⟩ := exo_at I1.hok h1
  obtain ⟨mA, hns, hrel⟩ := exd_at I1.hok h2
  obtain ⟨od, hod, hl⟩ := lookIn_ns hns
  obtain ⟨w', hu, ru⟩ := RelO.some_of (v := v) (o := mA f) (by rw [← l]; exact hrel f)
  have J : PySem.W.InstAt s1.heap a _ C (some od) := ⟨ho, rfl, rfl, hod⟩
  exact HandSPX.exc_get I1.kIn J T.ga T.gg T.exC (PySem.W.findObj_own T.hdC hno rfl (by rw [hl, hu])) (handed_of ru) ⟨v, H1, I1.tok _, ru, q⟩
/-- C() of an error class without an __init__ of its own -/
theorem pe_exc0 {C : Addr} {bmB : List Value} {B newId initId : String} (F : ExcBaseFacts B newId initId bmB) (q : PySem.W.excIn X.K C bmB newId = true) (gC : X.mg x = some (.ref C)) (kC : PySem.W.keepIn X.K (.ref C) = true) (hg : Gl X x)
    (hdb : (x == ("__debug__" : Str)) = false := by decide) : PE X (.Call (.Name x p) [] [] pos) (fun σ H Q => ∀ a, H a = none → Q (.ref a) (upd H a (ExO (.ref C) a))) := by
  constructor
  intro pins s σ H Q I h
  refine wpAny_Call_Name_kw (ld_glob I hg gC ?_ hdb)
  refine PySem.W.callWith_K0 I.kIn kC ?_
  obtain ⟨bm, N, nm, qn, bs, hdct, sn, sub, ab, col, dd, k0, k1, k2, k3, k5, mN, hC, hN, hni, T⟩ := exc_obj I.kIn q
  refine wpAny_call_exc_subT F T hC hN hni (fun h' a hm => ?_) (by show 0 ≤ sizeLine; omega)
  have hn : H a = none := I.hok.gone hm.new
  obtain ⟨t, ht, _, _⟩ := hm.there
  exact ⟨.ref a, upd H a (ExO (.ref C) a), I.laidN hm.keeps hm.new hn (exO_ok ht ⟨rfl, rfl⟩ rfl rfl rfl (show 4 < 6 by decide)), rfl, h a hn⟩
end
end Cl
/-! Own layer, part 2: operators by the kind of the values. -/
namespace Cl
open PySem PySem.Spec PyProof.Rows L2
/-- a text by its codes -/
abbrev S (l : List Nat) : Str := ⟨⟨l⟩⟩
abbrev sv (l : List Nat) : V := .str ⟨⟨l⟩⟩
theorem S_app (a b : List Nat) : S a ++ S b = S (a ++ b) := by
  show (⟨(⟨a⟩ : Array Nat) ++ ⟨b⟩⟩ : Str) = _
  simp
theorem S_len (a : List Nat) : (S a).length = a.length := rfl
def rep (a : List Nat) (k : Nat) : List Nat := (List.replicate k a).flatten
/-- z[lo:hi] -/
def cut {α : Type} (z : List α) (lo hi : Option Int) : List α := (z.drop (HT.sIx z.length 0 lo)).take (HT.sIx z.length z.length hi - HT.sIx z.length 0 lo)
section
variable {X : Cx} {p pos : Pos}
theorem pe_sv {x : Str} {l : List Nat} {j : Nat} (h : x = S l) : PE X (.Constant (.str x) j pos) (tC (sv l)) := by
  subst h
  exact pe_str
/-! ### + - * // % ** -/
def zAdd : R2 := fun x y H Q => match x, y with
  | .int i, .int j => Q (.int (i + j)) H
  | .str ⟨⟨a⟩⟩, .str ⟨⟨b⟩⟩ => a.length + b.length ≤ sizeLine ∧ Q (sv (a ++ b)) H
  | .ref l, .ref b => ∃ xs zs, H l = some (.lst xs) ∧ H b = some (.lst zs) ∧ xs.length + zs.length ≤ sizeLine ∧ ∀ p, H p = none → Q (.ref p) (upd H p (.lst (xs ++ zs)))
  | _, _ => False
theorem oz_add : OpR X (binaryOp .Add) zAdd := by
  intro pins s σ H x y v u Q I rx ry h
  cases x with
  | int i =>
    cases y with
    | int j => exact op_add pins s σ H _ _ v u Q I rx ry ⟨i, j, rfl, rfl, h⟩
    | _ => exact (show False from h).elim
  | str a =>
    cases y with
    | str b =>
      obtain ⟨⟨a⟩⟩ := a
      obtain ⟨⟨b⟩⟩ := b
      obtain ⟨hz, q⟩ : a.length + b.length ≤ sizeLine ∧ Q (sv (a ++ b)) H := h
      exact op_add_str pins s σ H _ _ v u Q I rx ry ⟨_, _, rfl, rfl, hz, by rw [S_app]; exact q⟩
    | _ => exact (show False from h).elim
  | ref l =>
    cases y with
    | ref b =>
      obtain ⟨xs, zs, h1, h2, h3, q⟩ := h
      exact op_cat pins s σ H _ _ v u Q I rx ry ⟨l, b, xs, zs, rfl, rfl, h1, h2, h3, q⟩
    | _ => exact (show False from h).elim
  | _ => exact (show False from h).elim
def zSub : R2 := fun x y H Q => match x, y with
  | .int i, .int j => Q (.int (i - j)) H
  | _, _ => False
theorem oz_sub : OpR X (binaryOp .Sub) zSub := by
  intro pins s σ H x y v u Q I rx ry h
  cases x with
  | int i =>
    cases y with
    | int j => exact op_sub pins s σ H _ _ v u Q I rx ry ⟨i, j, rfl, rfl, h⟩
    | _ => exact (show False from h).elim
  | _ => exact (show False from h).elim
theorem mul_txt (a : List Nat) (k : Int) : Txt.mul (S a) k = S (rep a k.toNat) := by
  unfold Txt.mul
  by_cases h1 : k < 1
  · rw [if_pos h1]
    have : k.toNat = 0 := by omega
    rw [this]
    rfl
  · rw [if_neg h1]
    split
    · rename_i h
      rw [Bool.or_eq_true] at h
      rcases h with h | h
      · have : k = 1 := by simpa using h
        subst this
        show S a = S (List.replicate 1 a).flatten
        simp
      · have : a = [] := by
          have : a.length = 0 := by simpa [S_len] using h
          exact List.length_eq_zero_iff.mp this
        subst this
        show S [] = S (List.replicate k.toNat []).flatten
        simp
    · show (⟨(List.replicate k.toNat (⟨a⟩ : Array Nat)).foldl (· ++ ·) #[]⟩ : Str) = S (rep a k.toNat)
      have : ∀ (n : Nat) (b : List Nat), (List.replicate n (⟨a⟩ : Array Nat)).foldl (· ++ ·) (⟨b⟩ : Array Nat) = ⟨b ++ (List.replicate n a).flatten⟩ := by
        intro n
        induction n with
        | zero => intro b; simp
        | succ n ih =>
          intro b
          rw [List.replicate_succ, List.foldl_cons]
          have e : (⟨b⟩ : Array Nat) ++ ⟨a⟩ = ⟨b ++ a⟩ := by simp
          rw [e, ih, List.replicate_succ, List.flatten_cons, List.append_assoc]
      have e := this k.toNat []
      rw [show (#[] : Array Nat) = ⟨[]⟩ from rfl, e]
      rfl
def zMul : R2 := fun x y H Q => match x, y with
  | .int i, .int j => CMul i j ∧ Q (.int (i * j)) H
  | .str ⟨⟨a⟩⟩, .int k => 0 ≤ k ∧ k ≤ 100000 ∧ a.length ≤ 100 ∧ Q (sv (rep a k.toNat)) H
  | .ref l, .int k => ∃ xs, H l = some (.lst xs) ∧ -(2 ^ 63) ≤ k ∧ k < 2 ^ 63 ∧ xs.length * k.toNat ≤ sizeLine ∧ ∀ p, H p = none → Q (.ref p) (upd H p (.lst (List.replicate k.toNat xs).flatten))
  | _, _ => False
theorem oz_mul : OpR X (binaryOp .Mult) zMul := by
  intro pins s σ H x y v u Q I rx ry h
  cases x with
  | int i =>
    cases y with
    | int j =>
      obtain ⟨hc, q⟩ := h
      exact op_mul pins s σ H _ _ v u Q I rx ry ⟨i, j, rfl, rfl, hc, q⟩
    | _ => exact (show False from h).elim
  | str a =>
    cases y with
    | int k =>
      obtain ⟨⟨a⟩⟩ := a
      obtain ⟨h0, h1, h2, q⟩ : 0 ≤ k ∧ k ≤ 100000 ∧ a.length ≤ 100 ∧ Q (sv (rep a k.toNat)) H := h
      obtain ⟨t, rfl⟩ := rx
      obtain ⟨t', rfl⟩ := ry
      have ok : MulOk (S a) k := by
        refine ⟨?_, fun h _ => ?_, fun h _ => ?_⟩
        · simp only [Bool.or_eq_false_iff, decide_eq_false_iff_not]
          omega
        · rw [S_len]
          have : (2 ^ 63 - 1 : Int) / 100000 ≤ (2 ^ 63 - 1) / k := by
            rw [Int.le_ediv_iff_mul_le (by omega)]
            have : (2 ^ 63 - 1 : Int) / 100000 * k ≤ (2 ^ 63 - 1 : Int) / 100000 * 100000 := Int.mul_le_mul_of_nonneg_left h1 (by decide)
            omega
          omega
        · rw [S_len]
          have e : a.length * k.toNat ≤ 100 * 100000 := Nat.mul_le_mul h2 (by omega)
          unfold PySem.Builtin.Str.tooLong
          have := sizeLine_eq
          simp only [decide_eq_false_iff_not]
          omega
      refine SB.mul ok fun t' tk => ?_
      rw [mul_txt]
      exact ⟨sv (rep a k.toNat), H, I.tok _, ⟨_, rfl⟩, q⟩
    | _ => exact (show False from h).elim
  | ref l =>
    cases y with
    | int k =>
      obtain ⟨xs, h1, h2, h3, h4, q⟩ := h
      exact op_rep pins s σ H _ _ v u Q I rx ry ⟨l, k, xs, rfl, rfl, h1, h2, h3, h4, q⟩
    | _ => exact (show False from h).elim
  | _ => exact (show False from h).elim
def zDiv : R2 := fun x y H Q => match x, y with
  | .int i, .int j => CDiv i j ∧ Q (.int (i / j)) H
  | _, _ => False
theorem oz_div : OpR X (binaryOp .FloorDiv) zDiv := by
  intro pins s σ H x y v u Q I rx ry h
  cases x with
  | int i =>
    cases y with
    | int j => exact op_fdiv pins s σ H _ _ v u Q I rx ry ⟨i, j, rfl, rfl, h.1, h.2⟩
    | _ => exact (show False from h).elim
  | _ => exact (show False from h).elim
def zMod : R2 := fun x y H Q => match x, y with
  | .int i, .int j => 0 < j ∧ Q (.int (i % j)) H
  | _, _ => False
theorem oz_mod : OpR X (binaryOp .Mod) zMod := by
  intro pins s σ H x y v u Q I rx ry h
  cases x with
  | int i =>
    cases y with
    | int j => exact op_mod pins s σ H _ _ v u Q I rx ry ⟨i, j, rfl, rfl, h.1, h.2⟩
    | _ => exact (show False from h).elim
  | _ => exact (show False from h).elim
def zPow : R2 := fun x y H Q => match x, y with
  | .int i, .int j => CPow i j ∧ Q (.int (i ^ j.toNat)) H
  | _, _ => False
theorem oz_pow : OpR X (binaryOp .Pow) zPow := by
  intro pins s σ H x y v u Q I rx ry h
  cases x with
  | int i =>
    cases y with
    | int j => exact op_pow pins s σ H _ _ v u Q I rx ry ⟨i, j, rfl, rfl, h.1, h.2⟩
    | _ => exact (show False from h).elim
  | _ => exact (show False from h).elim
/-! ### < <= > >= -/
def zLt : R2 := fun x y H Q => match x, y with
  | .int i, .int j => Q (.bl (decide (i < j))) H
  | _, _ => False
def zLe : R2 := fun x y H Q => match x, y with
  | .int i, .int j => Q (.bl (decide (i ≤ j))) H
  | _, _ => False
def zGt : R2 := fun x y H Q => match x, y with
  | .int i, .int j => Q (.bl (decide (j < i))) H
  | _, _ => False
def zGe : R2 := fun x y H Q => match x, y with
  | .int i, .int j => Q (.bl (decide (j ≤ i))) H
  | _, _ => False
theorem oz_lt : OpR X (compareOp .Lt) zLt := by
  intro pins s σ H x y v u Q I rx ry h
  cases x with
  | int i =>
    cases y with
    | int j => exact op_lt pins s σ H _ _ v u Q I rx ry ⟨i, j, rfl, rfl, h⟩
    | _ => exact (show False from h).elim
  | _ => exact (show False from h).elim
theorem oz_le : OpR X (compareOp .LtE) zLe := by
  intro pins s σ H x y v u Q I rx ry h
  cases x with
  | int i =>
    cases y with
    | int j => exact op_le pins s σ H _ _ v u Q I rx ry ⟨i, j, rfl, rfl, h⟩
    | _ => exact (show False from h).elim
  | _ => exact (show False from h).elim
theorem oz_gt : OpR X (compareOp .Gt) zGt := by
  intro pins s σ H x y v u Q I rx ry h
  cases x with
  | int i =>
    cases y with
    | int j => exact op_gt pins s σ H _ _ v u Q I rx ry ⟨i, j, rfl, rfl, h⟩
    | _ => exact (show False from h).elim
  | _ => exact (show False from h).elim
theorem oz_ge : OpR X (compareOp .GtE) zGe := by
  intro pins s σ H x y v u Q I rx ry h
  cases x with
  | int i =>
    cases y with
    | int j => exact op_ge pins s σ H _ _ v u Q I rx ry ⟨i, j, rfl, rfl, h⟩
    | _ => exact (show False from h).elim
  | _ => exact (show False from h).elim
/-! ### == != -/
/-- the answer of x == y for plain values; none: not by this rule -/
def eqB : V → V → Option Bool
  | .non, .non => some true
  | .non, .int _ | .int _, .non | .non, .bl _ | .bl _, .non | .non, .str _ | .str _, .non | .int _, .str _ | .str _, .int _ | .bl _, .str _ | .str _, .bl _ => some false
  | .int i, .int j => some (decide (i = j))
  | .bl i, .bl j => some (decide (i = j))
  | .str ⟨⟨a⟩⟩, .str ⟨⟨b⟩⟩ => some (decide (a = b))
  | _, _ => none
theorem eqB_scal {x y : V} {b : Bool} (h : eqB x y = some b) : scal x y = true ∧ decide (x = y) = b := by
  cases x <;> cases y <;> first
    | (refine ⟨rfl, ?_⟩; have := Option.some.inj h; subst this; simp; done)
    | (refine ⟨rfl, ?_⟩; have := Option.some.inj h; subst this; rw [Bool.eq_iff_iff]; simp; done)
    | (rename_i a b; obtain ⟨⟨a⟩⟩ := a; obtain ⟨⟨b⟩⟩ := b; refine ⟨rfl, ?_⟩; have := Option.some.inj h; subst this; rw [Bool.eq_iff_iff]; simp; done)
    | (cases h; done)
def zEq (K : PySem.W.Frag) : R2 := fun x y H Q => match eqB x y with
  | some b => Q (.bl b) H
  | none => ∃ d e, Dp K H x d ∧ Dp K H y e ∧ SeqAt.shaped d = true ∧ SeqAt.shaped e = true ∧ Q (.bl (PyData.eqv d e)) H
def zNe (K : PySem.W.Frag) : R2 := fun x y H Q => match eqB x y with
  | some b => Q (.bl (!b)) H
  | none => ∃ d e, Dp K H x d ∧ Dp K H y e ∧ SeqAt.shaped d = true ∧ SeqAt.shaped e = true ∧ Q (.bl (!PyData.eqv d e)) H
theorem oz_eq (hu : X.A.units + 64 < cLine) : OpR X (compareOp .Eq) (zEq X.K) := by
  intro pins s σ H x y v u Q I rx ry h
  unfold zEq at h
  split at h
  · rename_i b e
    obtain ⟨h1, h2⟩ := eqB_scal e
    exact op_eq pins s σ H _ _ v u Q I rx ry ⟨h1, by rw [h2]; exact h⟩
  · exact op_eqD hu pins s σ H _ _ v u Q I rx ry h
theorem oz_ne (hu : X.A.units + 64 < cLine) : OpR X (compareOp .NotEq) (zNe X.K) := by
  intro pins s σ H x y v u Q I rx ry h
  unfold zNe at h
  split at h
  · rename_i b e
    obtain ⟨h1, h2⟩ := eqB_scal e
    exact op_ne pins s σ H _ _ v u Q I rx ry ⟨h1, by rw [h2]; exact h⟩
  · exact op_neD hu pins s σ H _ _ v u Q I rx ry h
theorem hu64 {A : Around} {k : Nat} (hr : Room k A) : A.units + 64 < cLine := hr.units
/-! ### is, is not -/
def zIs : R2 := fun x y H Q => match x, y with
  | .bl a, .bl b => Q (.bl (decide (a = b))) H
  | x, .non => Q (.bl (decide (x = .non))) H
  | _, _ => False
def zIsNot : R2 := fun x y H Q => match x, y with
  | .bl a, .bl b => Q (.bl (!decide (a = b))) H
  | x, .non => Q (.bl (!decide (x = .non))) H
  | _, _ => False
theorem oz_is : OpR X (compareOp .Is) zIs := by
  intro pins s σ H x y v u Q I rx ry h
  cases y with
  | non =>
    cases x <;> exact op_isN pins s σ H _ _ v u Q I rx ry ⟨rfl, h⟩
  | bl b =>
    cases x with
    | bl a => exact op_isBl pins s σ H _ _ v u Q I rx ry ⟨a, b, rfl, rfl, h⟩
    | _ => exact (show False from h).elim
  | _ => cases x <;> exact (show False from h).elim
theorem oz_isnot : OpR X (compareOp .IsNot) zIsNot := by
  intro pins s σ H x y v u Q I rx ry h
  cases y with
  | non =>
    cases x <;> exact op_notN pins s σ H _ _ v u Q I rx ry ⟨rfl, h⟩
  | bl b =>
    cases x with
    | bl a => exact op_notBl pins s σ H _ _ v u Q I rx ry ⟨a, b, rfl, rfl, h⟩
    | _ => exact (show False from h).elim
  | _ => cases x <;> exact (show False from h).elim
/-! ### a[i], a[lo:hi] -/
def zIx (K : PySem.W.Frag) : R2 := fun x y H Q => match x, y with
  | .ref p, .int i => ∃ xs v, (SqL K H p xs ∨ SqT K H p xs) ∧ atI xs i = some v ∧ Q v H
  | .str ⟨⟨z⟩⟩, .int i => ∃ c, z.length ≤ sizeLine ∧ atI z i = some c ∧ Q (sv [c]) H
  | _, _ => False
theorem iz_ix : IxR X (zIx X.K) := by
  intro value slice pins s σ H x y v u Q I rx ry h hs
  cases x with
  | ref p =>
    cases y with
    | int i =>
      obtain ⟨xs, z, h1, h2, q⟩ := h
      rcases h1 with h1 | h1
      · exact ix_list value slice pins s σ H _ _ v u Q I rx ry ⟨p, xs, i, z, rfl, rfl, h1, h2, q⟩ hs
      · exact ix_tup value slice pins s σ H _ _ v u Q I rx ry ⟨p, xs, i, z, rfl, rfl, h1, h2, q⟩ hs
    | _ => exact (show False from h).elim
  | str z =>
    cases y with
    | int i =>
      obtain ⟨⟨z⟩⟩ := z
      obtain ⟨c, h1, h2, q⟩ : ∃ c, z.length ≤ sizeLine ∧ atI z i = some c ∧ Q (sv [c]) H := h
      exact ix_str value slice pins s σ H _ _ v u Q I rx ry ⟨S z, i, c, rfl, rfl, h1, h2, q⟩ hs
    | _ => exact (show False from h).elim
  | _ => exact (show False from h).elim
def zSl (K : PySem.W.Frag) : V → Option Int → Option Int → Hp → VK → Prop := fun x lo hi H Q => match x with
  | .str ⟨⟨z⟩⟩ => z.length ≤ sizeLine ∧ Q (sv (cut z lo hi)) H
  | .ref a => ∃ xs, SqL K H a xs ∧ ∀ p, H p = none → Q (.ref p) (upd H p (.lst (cut xs lo hi)))
  | _ => False
theorem sz_sl : SlR X (zSl X.K) := by
  intro pins s σ H x v vl vu lo hi sl Q I rx hs pl pu h
  cases x with
  | str z =>
    obtain ⟨⟨z⟩⟩ := z
    obtain ⟨hz, q⟩ : z.length ≤ sizeLine ∧ Q (sv (cut z lo hi)) H := h
    exact sl_str pins s σ H _ v vl vu lo hi sl Q I rx hs pl pu ⟨S z, rfl, hz, q⟩
  | ref a =>
    obtain ⟨xs, h1, q⟩ := h
    exact sl_list pins s σ H _ v vl vu lo hi sl Q I rx hs pl pu ⟨a, xs, rfl, h1, q⟩
  | _ => exact (show False from h).elim
/-! ### calls -/
def zLen (K : PySem.W.Frag) : List V → Hp → VK → Prop := fun xs H Q => ∃ x n, xs = [x] ∧ LenV K x H n ∧ Q (.int n) H
theorem cz_len : CallR X (.builtin "len") (zLen X.K) := call_len
def zInt : List V → Hp → VK → Prop := fun xs H Q => match xs with
  | [.int i] => Q (.int i) H
  | _ => False
theorem cz_int : CallR X (.type "int") zInt := by
  intro pins s σ H xs us Q I r h
  match xs, h with
  | [.int i], h => exact call_int1 pins s σ H _ us Q I r (Or.inl ⟨i, rfl, h⟩)
/-- list(x): of a list, a tuple, a text -/
def zList (K : PySem.W.Frag) : List V → Hp → VK → Prop := fun xs H Q => match xs with
  | [.ref p] => ∃ ys, (SqL K H p ys ∨ SqT K H p ys) ∧ ∀ l, H l = none → Q (.ref l) (upd H l (.lst ys))
  | _ => False
theorem cz_list : CallR X (.type "list") (zList X.K) := by
  intro pins s σ H xs us Q I r h
  match xs, h with
  | [.ref p], ⟨ys, h1, q⟩ => exact call_list_of pins s σ H _ us Q I r ⟨p, ys, rfl, h1, q⟩
def zIsi (K : PySem.W.Frag) : List V → Hp → VK → Prop := fun xs H Q => rIsX K xs H Q ∨ rIsi K xs H Q
theorem cz_isi : CallR X (.builtin "isinstance") (zIsi X.K) := CallR.or call_isX call_isi
end
end Cl
/-! Own layer, part 3: facts of the written part, and steps. -/
namespace Cl
open PySem PySem.Spec PyProof.Rows L2 He
def fdOf (K : PySem.W.Frag) (p : Str × Option Str) : FuncData := match K.lookup (fAd K p) with
  | some ⟨_, _, .func fd, _⟩ => fd
  | _ => default
theorem fn_at {K : PySem.W.Frag} {x q : Str} {a : Arguments} {b : List Stmt} {sc : Scope} {dvs : List V} {kws : List (Str × V)} {p : Str × Option Str} (h : ∃ fd, FunD K x q a b sc dvs kws (fAd K p) fd) : FunD K x q a b sc dvs kws (fAd K p) (fdOf K p) := by
  obtain ⟨fd, F⟩ := h
  have e : fdOf K p = fd := by
    obtain ⟨oc, od, dV, kV, doc, pm, an, cdv, ct, osl, rfl, lk, _⟩ := F.ex
    unfold fdOf
    rw [lk]
  rw [e]
  exact F
/-! ### an error class, by a look -/
def oexB (K : PySem.W.Frag) (C : Addr) : Bool := match K.lookup C with
  | some ⟨.type "type", _, .cls cd, sl⟩ => (match cd.mro, sl.toList with
    | .ref D :: bm, [_, _, _, _, some (.builtin n), _] => decide (D = C) && (decide (n = "ValueError.__new__") && (!cd.hasDel && (cd.hasDict && PySem.HandSPX.refsVE bm)))
    | _, _ => false)
  | _ => false
theorem oexB_ok {K : PySem.W.Frag} {C : Addr} (h : oexB K C = true) : ∃ nm q N bs bm sn sub ab col dd k0 k1 k2 k3 k5, K.lookup C = some (excClassObj nm q C N bs bm true sn sub ab col dd k0 k1 k2 k3 k5 "ValueError.__new__") ∧ PySem.HandSPX.refsVE bm = true := by
  unfold oexB at h
  split at h
  · rename_i dd cd sl ho
    split at h
    · rename_i D bm k0 k1 k2 k3 n k5 hm hs
      obtain ⟨h1, h⟩ := ba h
      obtain ⟨h2, h⟩ := ba h
      obtain ⟨h3, h⟩ := ba h
      obtain ⟨h4, h5⟩ := ba h
      obtain rfl := of_decide_eq_true h1
      obtain rfl := of_decide_eq_true h2
      obtain ⟨nm, bs, mro, ns, qn, hd, sn, sub, ab, col, del⟩ := cd
      obtain ⟨l⟩ := sl
      dsimp only at hm hs h3 h4
      subst hm hs h4
      have hdel : del = false := by simpa using h3
      subst hdel
      exact ⟨nm, qn, ns, bs, bm, sn, sub, ab, col, dd, k0, k1, k2, k3, k5, ho, h5⟩
    · cases h
  · cases h
def xclsB (K : PySem.W.Frag) (C : Addr) : Bool := oexB K C && (decide (PySem.W.findIn K (.ref C) "__setattr__" = some (some (.builtin "object.__setattr__"))) && (decide (PySem.W.typeIn K (.ref C) = some (.type "type")) && (PySem.W.keepIn K (.ref C) &&
  (xfB K C && ((PySem.W.clsIn K C).isSome && (decide (PySem.W.findIn K (.ref C) "__class__" = some (some (.builtin "object.__class__"))) && (decide (PySem.W.specialIn K (.builtin "object.__class__") "__get__" = some (some (.builtin "getset_descriptor.__get__"))) &&
  (decide (PySem.W.takesIn K (.builtin "object.__class__") = some true) && decide (PySem.W.mroIn K C (.type "object") = some true)))))))))
theorem xclsB_ok {K : PySem.W.Frag} {C : Addr} (h : xclsB K C = true) : XCls K C := by
  obtain ⟨h1, h⟩ := ba h
  obtain ⟨h2, h⟩ := ba h
  obtain ⟨h3, h⟩ := ba h
  obtain ⟨h4, h⟩ := ba h
  obtain ⟨h5, h⟩ := ba h
  obtain ⟨h6, h⟩ := ba h
  obtain ⟨h7, h⟩ := ba h
  obtain ⟨h8, h⟩ := ba h
  obtain ⟨h9, h10⟩ := ba h
  have f := xfB_ok h5
  exact ⟨⟨oexB_ok h1, of_decide_eq_true h2, f.exC, of_decide_eq_true h3, h4⟩, f, h6, of_decide_eq_true h7, of_decide_eq_true h8, of_decide_eq_true h9, of_decide_eq_true h10⟩
/-- B hands its subclasses ValueError's own __init__ -/
structure BInit (K : PySem.W.Frag) (B : Addr) : Prop where
  s : PySem.W.specialIn K (.ref B) "__getattribute__" = some (some (.builtin "type.__getattribute__"))
  t : PySem.W.typeIn K (.ref B) = some (.type "type")
  r : PySem.W.readsIn K B (.type "type") = true
  v : PySem.W.findCls K (.ref B) (.type "type") "__init__" = some (.val (.builtin "ValueError.__init__"))
def binitB (K : PySem.W.Frag) (B : Addr) : Bool := decide (PySem.W.specialIn K (.ref B) "__getattribute__" = some (some (.builtin "type.__getattribute__"))) && (decide (PySem.W.typeIn K (.ref B) = some (.type "type")) && (PySem.W.readsIn K B (.type "type") &&
  (match PySem.W.findCls K (.ref B) (.type "type") "__init__" with
    | some (.val (.builtin n)) => decide (n = "ValueError.__init__")
    | _ => false)))
theorem binitB_ok {K : PySem.W.Frag} {B : Addr} (h : binitB K B = true) : BInit K B := by
  obtain ⟨h1, h⟩ := ba h
  obtain ⟨h2, h⟩ := ba h
  obtain ⟨h3, h4⟩ := ba h
  refine ⟨of_decide_eq_true h1, of_decide_eq_true h2, h3, ?_⟩
  split at h4
  · rename_i n e
    rw [e, of_decide_eq_true h4]
  · cases h4
/-! ### the head's facts: the module's names and what they reach, and the statics -/
noncomputable def asC (g : Addr → Option Obj) (n : Nat) : List Addr := asD g n ++ [PySem.cStatics]
noncomputable def obsC (n : Nat) (fa : List Fa) (fn : List DefD) (ts : List Tab) (ex : PySem.W.Frag → Bool) (g : Addr → Option Obj) : AlT × Bool := (obsT fa fn ts (frG g (asC g n)), ex (frG g (asC g n)))
structure SaysC (fa : List Fa) (fn : List DefD) (ts : List Tab) (ex : PySem.W.Frag → Bool) (w : World) (K : PySem.W.Frag) : Prop where
  t : SaysT fa fn ts w K
  more : ex K = true
noncomputable def hookC (n : Nat) (fa : List Fa) (fn : List DefD) (ts : List Tab) (ex : PySem.W.Frag → Bool) : PySem.W.Hook where
  α := AlT × Bool
  obs := fun s => obsC n fa fn ts ex s.heap.get?
  val := fun w => (valT fn ts w, true)
  says := fun w h => ∃ K : PySem.W.Frag, K.In h ∧ SaysC fa fn ts ex w K
  of := fun _ _ e => ⟨_, frG_in, ⟨congrArg Prod.fst e, congrArg Prod.snd e⟩⟩
  keeps := fun _ _ _ ⟨K, hK, c⟩ k => ⟨K, PySem.W.Frag.In.keeps hK k, c⟩
theorem obsC_eq {n : Nat} {fa : List Fa} {fn : List DefD} {ts : List Tab} {ex : PySem.W.Frag → Bool} {g : Addr → Option Obj} {s : Shared} (h : ∀ a, g a = s.heap.get? a) : obsC n fa fn ts ex g = (hookC n fa fn ts ex).obs s := by
  have e : g = s.heap.get? := funext h
  subst e
  rfl
/-! ### steps -/
section
variable {t u : TS} {te ta tb : TE} {tt tu : TT} {tr : TA} {D : Ends} {σ σ' : L2.St} {H : Hp} {Q : VK} {QB : Bool → Hp → Prop} {QA : List V → Hp → Prop} {g : TG} {i : Nat} {v : V} {r : R2} {K : PySem.W.Frag} {xs : List V} {p : Addr}
theorem s_seq (h : t { D with nx := u D } σ H) : tSeq t u D σ H := h
theorem s_asg (h : te σ H fun x H1 => g x σ H1 D.nx) : tAsg te g D σ H := h
theorem s_ret (h : te σ H D.rt) : tRet te D σ H := h
theorem s_drop (h : te σ H fun _ H1 => D.nx σ H1) : tDrop te D σ H := h
theorem s_next (h : D.nx σ H) : tNext D σ H := h
theorem s_if (h : tt σ H fun b H1 => if b = true then t D σ H1 else u D σ H1) : tIfS tt t u D σ H := h
theorem s_var (e : σ[i]? = some (some v)) (h : Q v H) : tVar i σ H Q := ⟨v, e, h⟩
theorem s_c (h : Q v H) : tC v σ H Q := h
theorem s_op (h : ta σ H fun x H1 => tb σ H1 fun y H2 => r x y H2 Q) : tOp r ta tb σ H Q := h
theorem s_nil (h : QA [] H) : tNil σ H QA := h
theorem s_cons (h : te σ H fun x H1 => tr σ H1 fun xs H2 => QA (x :: xs) H2) : tCons te tr σ H QA := h
theorem s_cb {rr : List V → Hp → VK → Prop} (h : tr σ H fun vs H1 => rr vs H1 Q) : tCB rr tr σ H Q := h
theorem s_call {sp : Sp} {dvs : List V} {E : XK} (h : tr σ H fun vs H1 => sp (vs ++ dvs) H1 Q E) : tCall sp dvs E tr σ H Q := h
theorem s_test (h : te σ H fun x H1 => ∃ k, x = .bl k ∧ QB k H1) : tTest te σ H QB := h
theorem s_tb (h : te σ H fun x H1 => ∃ k, x = .bl k ∧ QB k H1) : tB te σ H QB := h
theorem s_bl {b : Bool} {QP : Bool → Prop} (h : QP b) : ∃ k, V.bl b = .bl k ∧ QP k := ⟨b, rfl, h⟩
theorem s_not (h : tt σ H fun c H1 => QB (!c) H1) : tNot tt σ H QB := h
theorem s_and (h : tt σ H fun c H1 => if c = true then tu σ H1 QB else QB false H1) : tAnd tt tu σ H QB := h
theorem s_or (h : tt σ H fun c H1 => if c = true then QB true H1 else tu σ H1 QB) : tOr tt tu σ H QB := h
theorem s_ife (h : tt σ H fun c H1 => if c = true then ta σ H1 Q else tb σ H1 Q) : tIf tt ta tb σ H Q := h
theorem s_name {QS : L2.St → Hp → Prop} (h : QS (σ.set i (some v)) H) : gName i v σ H QS := h
theorem s_sub {to ti : TE} {ts : TSet} {QS : L2.St → Hp → Prop} (h : to σ H fun o H1 => ti σ H1 fun i H2 => ts o i v H2 fun H3 => QS σ H3) : gSub to ti ts v σ H QS := h
theorem s_sl {rr : V → Option Int → Option Int → Hp → VK → Prop} {tl th : TO} (h : te σ H fun x H1 => tl σ H1 fun l H2 => th σ H2 fun u H3 => rr x l u H3 Q) : tSl rr te tl th σ H Q := h
theorem s_nopart {QO : Option Int → Hp → Prop} (h : QO none H) : tNoPart σ H QO := h
theorem s_part {QO : Option Int → Hp → Prop} (h : te σ H fun x H1 => ∃ i, x = .int i ∧ QO (some i) H1) : tPart te σ H QO := h
theorem s_int {QI : Int → Prop} {i : Int} (h : QI i) : ∃ k, V.int i = .int k ∧ QI k := ⟨i, rfl, h⟩
theorem s_lst (h : tr σ H fun xs H1 => xs.length ≤ sizeLine ∧ ∀ p, H1 p = none → Q (.ref p) (upd H1 p (.lst xs))) : tLst tr σ H Q := h
theorem s_tup (h : tr σ H fun xs H1 => xs.length ≤ sizeLine ∧ ∀ p, H1 p = none → Q (.ref p) (upd H1 p (.tup xs))) : tTup tr σ H Q := h
theorem s_bm {T : String} {rr : V → List V → Hp → VK → Prop} (h : te σ H fun x H1 => tyV K T x H1 ∧ tr σ H1 fun xs H2 => rr x xs H2 Q) : tBM K T rr te tr σ H Q := h
/-- a new object, the heap named anew -/
theorem same_upd {o : HO} (hp : H p = none) : Same H (upd H p o) := fun b u e => by
  rw [upd_ne (ne_of_none e hp)]
  exact e
end
end Cl
/-! Own layer, part 4: methods, the bag of the laws. -/
namespace Cl
open PySem PySem.Spec PyProof.Rows L2 He
section
variable {X : Cx}
def zApp : V → List V → Hp → VK → Prop := fun x vs H Q => match x, vs with
  | .ref l, [y] => ∃ xs, H l = some (.lst xs) ∧ xs.length < sizeLine ∧ Q .non (upd H l (.lst (xs ++ [y])))
  | _, _ => False
theorem mz_app : MtR X "list.append" zApp := by
  intro pins s σ H x vs v us Q I rx rv h
  match x, vs, h with
  | .ref l, [y], ⟨xs, h1, h2, q⟩ => exact mt_append pins s σ H _ _ v us Q I rx rv ⟨l, xs, y, rfl, rfl, h1, h2, q⟩
end
/-- the truth of a value, as a test -/
def tTru (K : PySem.W.Frag) (ta : TE) : TT := fun σ H Q => ta σ H fun x H' => ∃ k, TruV K x H' k ∧ Q k H'
/-! ### heaps -/
theorem upd_old {H : Hp} {p a : Addr} {o u : HO} (hp : H p = none) (h : H a = some u) : upd H p o a = some u := by
  rw [upd_ne (ne_of_none h hp)]
  exact h
theorem upd_far {H : Hp} {p a : Addr} {o u : HO} (hp : a ≠ p) (h : H a = some u) : upd H p o a = some u := by
  rw [upd_ne hp]
  exact h
theorem sq_of {K : PySem.W.Frag} {H : Hp} {a : Addr} {xs : List V} (h : H a = some (.lst xs)) : SqL K H a xs := Or.inl (Or.inl h)
theorem sm_at {H H' : Hp} {a : Addr} {o : HO} (s : Same H H') (h : H a = some o) : H' a = some o := s a o h
theorem fresh_ne {H : Hp} {a p : Addr} {o : HO} (h : H a = some o) (hp : H p = none) : p ≠ a := fun e => by
  rw [e, h] at hp
  cases hp
theorem fresh_upd {H : Hp} {p q : Addr} {o : HO} (h : upd H p o q = none) : H q = none ∧ q ≠ p := by
  by_cases e : q = p
  · rw [e, upd_same] at h
    cases h
  · rw [upd_ne e] at h
    exact ⟨h, e⟩
/-! ### steps over values -/
section
variable {H : Hp} {Q : VK} {K : PySem.W.Frag} {xs : List V} {v : V} {p : Addr} {i : Int} {n : Nat}
theorem s_addI {i j : Int} (h : Q (.int (i + j)) H) : zAdd (.int i) (.int j) H Q := h
theorem s_subI {i j : Int} (h : Q (.int (i - j)) H) : zSub (.int i) (.int j) H Q := h
theorem s_ltI {i j : Int} (h : Q (.bl (decide (i < j))) H) : zLt (.int i) (.int j) H Q := h
theorem s_leI {i j : Int} (h : Q (.bl (decide (i ≤ j))) H) : zLe (.int i) (.int j) H Q := h
theorem s_gtI {i j : Int} (h : Q (.bl (decide (j < i))) H) : zGt (.int i) (.int j) H Q := h
theorem s_geI {i j : Int} (h : Q (.bl (decide (j ≤ i))) H) : zGe (.int i) (.int j) H Q := h
theorem s_intc {i : Int} (h : Q (.int i) H) : zInt [.int i] H Q := h
theorem s_eq {x y : V} {b : Bool} (e : eqB x y = some b) (h : Q (.bl b) H) : zEq K x y H Q := by
  unfold zEq
  rw [e]
  exact h
theorem s_ne {x y : V} {b : Bool} (e : eqB x y = some b) (h : Q (.bl (!b)) H) : zNe K x y H Q := by
  unfold zNe
  rw [e]
  exact h
theorem s_addS {a b : List Nat} (hz : a.length + b.length ≤ sizeLine) (h : Q (sv (a ++ b)) H) : zAdd (sv a) (sv b) H Q := ⟨hz, h⟩
theorem s_ixL (h : H p = some (.lst xs)) (e : atI xs i = some v) (q : Q v H) : zIx K (.ref p) (.int i) H Q := ⟨xs, v, Or.inl (sq_of h), e, q⟩
theorem s_lenL (h : H p = some (.lst xs)) (q : Q (.int xs.length) H) : zLen K [.ref p] H Q := ⟨_, _, rfl, Or.inl ⟨xs, sq_of h, rfl⟩, q⟩
theorem s_lenS {z : List Nat} (h : z.length ≤ sizeLine) (q : Q (.int z.length) H) : zLen K [sv z] H Q := ⟨_, _, rfl, ⟨h, rfl⟩, q⟩
end
/-! ### the bag: its cells, the place, what is left of a great number, the seed -/
def Bag (H : Hp) (b : Addr) : Prop := ∃ (c : Addr) (ns : List Int) (pos rest seed : Int), H b = some (.lst [.ref c, .int pos, .int rest, .int seed]) ∧ H c = some (.lst (ns.map V.int)) ∧ c ≠ b ∧ 0 ≤ pos
/-- all is kept but the bag, which is a bag -/
structure Bst (b : Addr) (H H' : Hp) : Prop where
  keep : ∀ a o, a ≠ b → H a = some o → H' a = some o
  bag : Bag H' b
theorem Bag.some {H : Hp} {b : Addr} (h : Bag H b) : ∃ o, H b = some o := by
  obtain ⟨c, ns, pos, rest, seed, h, _⟩ := h
  exact ⟨_, h⟩
theorem Bst.refl {b : Addr} {H : Hp} (h : Bag H b) : Bst b H H := ⟨fun _ _ _ z => z, h⟩
theorem Bst.trans {b : Addr} {H H1 H2 : Hp} (a : Bst b H H1) (c : Bst b H1 H2) : Bst b H H2 := ⟨fun x o hx h => c.keep x o hx (a.keep x o hx h), c.bag⟩
theorem Bst.fresh {b : Addr} {H H' : Hp} (a : Bst b H H') {p : Addr} (h : H' p = none) : H p = none := by
  cases e : H p with
  | none => rfl
  | some o =>
    by_cases hb : p = b
    · obtain ⟨u, hu⟩ := a.bag.some
      rw [hb, hu] at h
      cases h
    · rw [a.keep p o hb e] at h
      cases h
theorem Bag.same {H H' : Hp} {b : Addr} (h : Bag H b) (s : Same H H') : Bag H' b := by
  obtain ⟨c, ns, pos, rest, seed, h1, h2, h3, h4⟩ := h
  exact ⟨c, ns, pos, rest, seed, s _ _ h1, s _ _ h2, h3, h4⟩
theorem Bst.of_same {H H' : Hp} {b : Addr} (h : Bag H b) (s : Same H H') : Bst b H H' := ⟨fun a o _ z => s a o z, h.same s⟩
def sp_l_bag (K : PySem.W.Frag) : Sp := fun vs H Q _ => ∃ (a : Addr) (ns : List Int), vs = [.ref a] ∧ SqL K H a (ns.map V.int) ∧ ∀ b H', Bag H' b → Same H H' → H b = none → Q (.ref b) H'
def sp_l_take (K : PySem.W.Frag) : Sp := fun vs H Q _ => ∃ (b : Addr) (n : Int), vs = [.ref b, .int n] ∧ Bag H b ∧ 0 < n ∧ n < 1073741824 ∧ ∀ (r : Int) H', 0 ≤ r → r < n → Bst b H H' → Q (.int r) H'
theorem len_l_bag {K : PySem.W.Frag} (vs : List V) (H : Hp) (Q : VK) (E : XK) (h : sp_l_bag K vs H Q E) : vs.length = 1 := by
  obtain ⟨a, ns, rfl, _⟩ := h
  rfl
theorem len_l_take {K : PySem.W.Frag} (vs : List V) (H : Hp) (Q : VK) (E : XK) (h : sp_l_take K vs H Q E) : vs.length = 2 := by
  obtain ⟨a, ns, rfl, _⟩ := h
  rfl
/-! ### errors: __init__ with one field, with two -/
def spX1 (C : Addr) (f : Str) : Sp := fun vs H Q _ => ∃ (a : Addr) (v : V), vs = [.ref a, v] ∧ H a = some (exo a C none) ∧ ∀ d, H d = none → d ≠ a → Q .non (upd (upd H d (exd d [(f, v)])) a (exo a C (some d)))
def spX2 (C : Addr) (f g : Str) : Sp := fun vs H Q _ => ∃ (a : Addr) (v u : V), vs = [.ref a, v, u] ∧ H a = some (exo a C none) ∧ ∀ d, H d = none → d ≠ a → Q .non (upd (upd (upd H d (exd d [(f, v)])) a (exo a C (some d))) d (exd d [(g, u), (f, v)]))
theorem len_X1 {C : Addr} {f : Str} (vs : List V) (H : Hp) (Q : VK) (E : XK) (h : spX1 C f vs H Q E) : vs.length = 2 := by
  obtain ⟨a, v, rfl, _⟩ := h
  rfl
theorem len_X2 {C : Addr} {f g : Str} (vs : List V) (H : Hp) (Q : VK) (E : XK) (h : spX2 C f g vs H Q E) : vs.length = 3 := by
  obtain ⟨a, v, u, rfl, _⟩ := h
  rfl
/-- an error of the class C at a, with its fields -/
def XF (H : Hp) (a C : Addr) (fs : List (Str × V)) : Prop := ∃ d, H a = some (exo a C (some d)) ∧ H d = some (exd d fs)
theorem XF.same {H H' : Hp} {a C : Addr} {fs : List (Str × V)} (h : XF H a C fs) (s : Same H H') : XF H' a C fs := by
  obtain ⟨d, h1, h2⟩ := h
  exact ⟨d, s _ _ h1, s _ _ h2⟩
theorem XF.at {H : Hp} {a C : Addr} {fs : List (Str × V)} (h : XF H a C fs) : XAt H a C := by
  obtain ⟨d, h1, h2⟩ := h
  exact Or.inr ⟨d, fs, h1, h2⟩
theorem XAt.same {H H' : Hp} {a C : Addr} (h : XAt H a C) (s : Same H H') : XAt H' a C := by
  rcases h with h | ⟨d, fs, h1, h2⟩
  · exact Or.inl (s _ _ h)
  · exact Or.inr ⟨d, fs, s _ _ h1, s _ _ h2⟩
theorem same_mk {H : Hp} {a d C : Addr} {o1 o2 : HO} {x : HO} (ha : H a = none) (hd : upd H a x d = none) : Same H (upd (upd (upd H a x) d o1) a o2) := fun b u e => by
  obtain ⟨h1, _⟩ := fresh_upd hd
  rw [upd_ne (ne_of_none e ha), upd_ne (ne_of_none e h1), upd_ne (ne_of_none e ha)]
  exact e
/-- C(v) -/
theorem s_mk1 {C : Addr} {f : Str} {v : V} {H : Hp} {Q : VK} (h : ∀ a H', H a = none → Same H H' → XF H' a C [(f, v)] → Q (.ref a) H') :
    [v].length ≤ 1000 ∧ ∀ a, H a = none → spX1 C f (.ref a :: ([v] ++ [])) (upd H a (exo a C none)) (fun w H2 => w = .non ∧ Q (.ref a) H2) (fun _ _ _ => False) := by
  refine ⟨by show 1 ≤ 1000; decide, fun a ha => ⟨a, v, rfl, upd_same, fun d hd ne => ⟨rfl, h a _ ha (same_mk (C := C) ha hd) ⟨d, upd_same, ?_⟩⟩⟩⟩
  rw [upd_ne ne, upd_same]
/-- C(v, u) -/
theorem s_mk2 {C : Addr} {f g : Str} {v u : V} {H : Hp} {Q : VK} (h : ∀ a H', H a = none → Same H H' → XF H' a C [(g, u), (f, v)] → Q (.ref a) H') :
    [v, u].length ≤ 1000 ∧ ∀ a, H a = none → spX2 C f g (.ref a :: ([v, u] ++ [])) (upd H a (exo a C none)) (fun w H2 => w = .non ∧ Q (.ref a) H2) (fun _ _ _ => False) := by
  refine ⟨by show 2 ≤ 1000; decide, fun a ha => ⟨a, v, u, rfl, upd_same, fun d hd ne => ⟨rfl, h a _ ha ?_ ⟨d, ?_, upd_same⟩⟩⟩⟩
  · intro b o e
    obtain ⟨h1, _⟩ := fresh_upd hd
    rw [upd_ne (ne_of_none e h1)]
    exact same_mk (C := C) ha hd b o e
  · rw [upd_ne (Ne.symm ne), upd_same]
/-- the bodies of such an __init__ -/
theorem pure_X1 {K : PySem.W.Frag} {C : Addr} {f : Str} {l : List Nat} (T : OexC K C) (no : PySem.W.findIn K (.ref C) f = some none) {x y : Str} (vs : List V) (H : Hp) (Q : VK) (E : XK) (h : spX1 C f vs H Q E) :
    tSeq (tDrop (tVeI K (tCons (tVar 0) (tCons (tC (sv l)) tNil)))) (tOst K f (tVar 0) (tVar 1)) { nx := fun _ H' => Q .non H', rt := Q } (start [x, y] vs) H := by
  obtain ⟨a, v, rfl, ha, k⟩ := h
  refine ⟨_, rfl, a, C, _, rfl, by show 1 ≤ 1000; decide, T, ha, ?_⟩
  exact ⟨_, rfl, _, rfl, a, C, rfl, T, no, Or.inl ⟨ha, fun d hd ne => k d hd ne⟩⟩
theorem pure_X2 {K : PySem.W.Frag} {C : Addr} {f g : Str} {l : List Nat} (T : OexC K C) (no : PySem.W.findIn K (.ref C) f = some none) (no2 : PySem.W.findIn K (.ref C) g = some none) {x y z : Str} (vs : List V) (H : Hp) (Q : VK) (E : XK) (h : spX2 C f g vs H Q E) :
    tSeq (tDrop (tVeI K (tCons (tVar 0) (tCons (tC (sv l)) tNil)))) (tSeq (tOst K f (tVar 0) (tVar 1)) (tOst K g (tVar 0) (tVar 2))) { nx := fun _ H' => Q .non H', rt := Q } (start [x, y, z] vs) H := by
  obtain ⟨a, v, u, rfl, ha, k⟩ := h
  refine ⟨_, rfl, a, C, _, rfl, by show 1 ≤ 1000; decide, T, ha, ?_⟩
  refine ⟨_, rfl, _, rfl, a, C, rfl, T, no, Or.inl ⟨ha, fun d hd ne => ?_⟩⟩
  exact ⟨_, rfl, _, rfl, a, C, rfl, T, no2, Or.inr ⟨d, _, upd_same, by rw [upd_ne ne, upd_same], by show 1 ≤ 900; decide, k d hd ne⟩⟩
theorem cut_map {α β : Type} (f : α → β) (z : List α) (lo hi : Option Int) : cut (z.map f) lo hi = (cut z lo hi).map f := by
  unfold cut
  rw [List.map_take, List.map_drop, List.length_map]
end Cl
/-! Own layer, part 5: == of flat lists. -/
namespace Cl
open PySem PySem.Spec PyProof.Rows L2 He
/-- a plain value as data -/
def dat : V → PyData
  | .non => .none
  | .bl b => .bool b
  | .int i => .int i
  | .str x => .str x
  | _ => .none
def flat : V → Bool
  | .non | .bl _ | .int _ => true
  | .str x => PyData.strOk x
  | _ => false
section
variable {K : PySem.W.Frag} {H : Hp}
theorem flat_dp {v : V} (h : flat v = true) : Dp K H v (dat v) := by
  cases v <;> first | (constructor; done) | cases h
theorem flat_lay {v : V} (h : flat v = true) : PyData.canLay0 (dat v) = true := by
  cases v <;> first | rfl | exact h | cases h
theorem flat_all : ∀ {xs : List V}, xs.all flat = true → DpAll K H xs (xs.map dat) ∧ PyData.canLayAll0 (xs.map dat) = true ∧ PyData.depthAll (xs.map dat) = 0
  | [], _ => ⟨.nil, rfl, rfl⟩
  | v :: xs, h => by
    obtain ⟨h1, h2⟩ : flat v = true ∧ xs.all flat = true := by simpa using h
    obtain ⟨a, b, c⟩ := flat_all h2
    refine ⟨.cons (flat_dp h1) a, ?_, ?_⟩
    · show (PyData.canLay0 (dat v) && PyData.canLayAll0 (xs.map dat)) = true
      rw [flat_lay h1, b]
      rfl
    · show max (PyData.depth (dat v)) (PyData.depthAll (xs.map dat)) = 0
      rw [c]
      cases v <;> first | rfl | cases h1
theorem flat_shaped {xs : List V} (h : xs.all flat = true) : SeqAt.shaped (.list (xs.map dat)) = true := by
  obtain ⟨_, b, c⟩ := flat_all (K := []) (H := fun _ => none) h
  unfold SeqAt.shaped
  show (PyData.canLayAll0 (xs.map dat) && decide (PyData.depthAll (xs.map dat) + 1 ≤ 64)) = true
  rw [b, c]
  rfl
/-- two lists of the same plain values are equal -/
theorem s_eqSame {xs : List V} {p q : Addr} {Q : VK} (h1 : H p = some (.lst xs)) (h2 : H q = some (.lst xs)) (hf : xs.all flat = true) (k : Q (.bl true) H) : zEq K (.ref p) (.ref q) H Q := by
  show ∃ d e, Dp K H (.ref p) d ∧ Dp K H (.ref q) e ∧ SeqAt.shaped d = true ∧ SeqAt.shaped e = true ∧ Q (.bl (PyData.eqv d e)) H
  refine ⟨.list (xs.map dat), .list (xs.map dat), .lst (sq_of h1) (flat_all hf).1, .lst (sq_of h2) (flat_all hf).1, flat_shaped hf, flat_shaped hf, ?_⟩
  rw [SeqAt.eqv_refl _ (by show PyData.canLayAll0 (xs.map dat) = true; exact (flat_all (K := K) (H := H) hf).2.1)]
  exact k
theorem s_neSame {xs : List V} {p q : Addr} {Q : VK} (h1 : H p = some (.lst xs)) (h2 : H q = some (.lst xs)) (hf : xs.all flat = true) (k : Q (.bl false) H) : zNe K (.ref p) (.ref q) H Q := by
  show ∃ d e, Dp K H (.ref p) d ∧ Dp K H (.ref q) e ∧ SeqAt.shaped d = true ∧ SeqAt.shaped e = true ∧ Q (.bl (!PyData.eqv d e)) H
  refine ⟨.list (xs.map dat), .list (xs.map dat), .lst (sq_of h1) (flat_all hf).1, .lst (sq_of h2) (flat_all hf).1, flat_shaped hf, flat_shaped hf, ?_⟩
  rw [SeqAt.eqv_refl _ (by show PyData.canLayAll0 (xs.map dat) = true; exact (flat_all (K := K) (H := H) hf).2.1)]
  exact k
/-! ### errors read -/
theorem s_xfv {f : Str} {te : TE} {σ : L2.St} {Q : VK} (h : te σ H fun x H1 => ∃ (a C d : Addr) (fs : List (Str × V)) (v : V), x = .ref a ∧ XfC K C ∧ PySem.W.findIn K (.ref C) f = some none ∧ H1 a = some (exo a C (some d)) ∧ H1 d = some (exd d fs) ∧ fs.lookup f = some v ∧ Q v H1) : tXfv K f te σ H Q := h
theorem s_xf {a C : Addr} {fs : List (Str × V)} {f : Str} {v : V} {QP : V → Prop} (y : XF H a C fs) (T : XfC K C) (no : PySem.W.findIn K (.ref C) f = some none) (l : fs.lookup f = some v) (q : QP v) :
    ∃ (a' C' d : Addr) (fs' : List (Str × V)) (v' : V), V.ref a = .ref a' ∧ XfC K C' ∧ PySem.W.findIn K (.ref C') f = some none ∧ H a' = some (exo a' C' (some d)) ∧ H d = some (exd d fs') ∧ fs'.lookup f = some v' ∧ QP v' := by
  obtain ⟨d, h1, h2⟩ := y
  exact ⟨a, C, d, fs, v, rfl, T, no, h1, h2, l, q⟩
theorem s_tru {te : TE} {σ : L2.St} {QB : Bool → Hp → Prop} (h : te σ H fun x H' => ∃ k, TruV K x H' k ∧ QB k H') : tTru K te σ H QB := h
theorem s_yes {σ : L2.St} {QB : Bool → Hp → Prop} (h : QB true H) : tYes σ H QB := h
/-! ### errors made -/
theorem s_mkv1 {C : Addr} {f : Str} {i : Nat} {v : V} {σ : L2.St} {Q : VK} (e : σ[i]? = some (some v)) (h : ∀ a H', H a = none → Same H H' → XF H' a C [(f, v)] → Q (.ref a) H') : tMkV C (spX1 C f) [] (tCons (tVar i) tNil) σ H Q := ⟨v, e, s_mk1 h⟩
theorem s_mkv2 {C : Addr} {f g : Str} {i j : Nat} {v u : V} {σ : L2.St} {Q : VK} (e : σ[i]? = some (some v)) (e2 : σ[j]? = some (some u)) (h : ∀ a H', H a = none → Same H H' → XF H' a C [(g, u), (f, v)] → Q (.ref a) H') : tMkV C (spX2 C f g) [] (tCons (tVar i) (tCons (tVar j) tNil)) σ H Q := ⟨v, e, u, e2, s_mk2 h⟩
end
/-! ### texts of small signs -/
abbrev asc (l : List Nat) : Prop := ∀ c ∈ l, c < 128
theorem asc_ok {l : List Nat} (h : asc l) : flat (sv l) = true := by
  show ((⟨l⟩ : Array Nat).all (· < 0x110000)) = true
  rw [Array.all_eq_true']
  intro c hc
  have := h c (by simpa using hc)
  simp
  omega
theorem asc_app {a b : List Nat} (h1 : asc a) (h2 : asc b) : asc (a ++ b) := fun c hc => by
  rcases List.mem_append.mp hc with h | h
  · exact h1 c h
  · exact h2 c h
theorem asc_cut {a : List Nat} {lo hi : Option Int} (h : asc a) : asc (cut a lo hi) := fun c hc => h c (List.mem_of_mem_drop (List.mem_of_mem_take hc))
theorem asc_rep {a : List Nat} {k : Nat} (h : asc a) : asc (rep a k) := fun c hc => by
  unfold rep at hc
  obtain ⟨l, h1, h2⟩ := List.mem_flatten.mp hc
  rw [List.eq_of_mem_replicate h1] at h2
  exact h c h2
theorem rep_len (a : List Nat) (k : Nat) : (rep a k).length = k * a.length := by
  unfold rep
  simp
theorem cut_len {α : Type} (a : List α) (lo hi : Option Int) : (cut a lo hi).length ≤ a.length := by
  unfold cut
  rw [List.length_take, List.length_drop]
  omega
end Cl
namespace Cl
open PySem PySem.Spec PyProof.Rows L2 He
def tExc0 (C : Addr) : TE := fun _ H Q => ∀ a, H a = none → Q (.ref a) (upd H a (ExO (.ref C) a))
abbrev sp_BadAlphabet_init (K : PySem.W.Frag) : Sp := spX1 (ga K "BadAlphabet") "part"
def t_BadAlphabet_init (K : PySem.W.Frag) : TS :=
  tSeq (tDrop (tVeI K (tCons (tVar 0) (tCons (tC (sv [97, 110, 32, 97, 114, 103, 117, 109, 101, 110, 116, 32, 111, 102, 32, 97, 110, 32, 97, 108, 112, 104, 97, 98, 101, 116, 32, 105, 115, 32, 119, 114, 111, 110, 103])) tNil)))) (tOst K "part" (tVar 0) (tVar 1))
abbrev sp_BadWord_init (K : PySem.W.Frag) : Sp := spX1 (ga K "BadWord") "word"
def t_BadWord_init (K : PySem.W.Frag) : TS :=
  tSeq (tDrop (tVeI K (tCons (tVar 0) (tCons (tC (sv [97, 32, 115, 116, 114, 105, 110, 103, 32, 105, 115, 32, 110, 111, 116, 32, 97, 32, 119, 111, 114, 100, 32, 111, 102, 32, 116, 104, 101, 32, 97, 108, 112, 104, 97, 98, 101, 116])) tNil)))) (tOst K "word" (tVar 0) (tVar 1))
abbrev sp_BadStage_init (K : PySem.W.Frag) : Sp := spX1 (ga K "BadStage") "what"
def t_BadStage_init (K : PySem.W.Frag) : TS :=
  tSeq (tDrop (tVeI K (tCons (tVar 0) (tCons (tC (sv [97, 32, 112, 97, 114, 116, 32, 111, 102, 32, 97, 32, 115, 116, 97, 103, 101, 32, 105, 115, 32, 119, 114, 111, 110, 103])) tNil)))) (tOst K "what" (tVar 0) (tVar 1))
abbrev sp_BadRule_init (K : PySem.W.Frag) : Sp := spX2 (ga K "BadRule") "stage" "what"
def t_BadRule_init (K : PySem.W.Frag) : TS :=
  tSeq (tDrop (tVeI K (tCons (tVar 0) (tCons (tC (sv [97, 32, 112, 105, 101, 99, 101, 32, 111, 102, 32, 97, 32, 119, 114, 105, 116, 116, 101, 110, 32, 114, 117, 108, 101, 32, 105, 115, 32, 119, 114, 111, 110, 103])) tNil)))) (tSeq (tOst K "stage" (tVar 0) (tVar 1)) (tOst K "what" (tVar 0) (tVar 2)))
abbrev sp_BadShape_init (K : PySem.W.Frag) : Sp := spX1 (ga K "BadShape") "place"
def t_BadShape_init (K : PySem.W.Frag) : TS :=
  tSeq (tDrop (tVeI K (tCons (tVar 0) (tCons (tC (sv [97, 32, 99, 104, 97, 114, 97, 99, 116, 101, 114, 32, 111, 102, 32, 97, 32, 115, 104, 97, 112, 101, 32, 99, 97, 110, 110, 111, 116, 32, 115, 116, 97, 110, 100, 32, 119, 104, 101, 114, 101, 32, 105, 116, 32, 115, 116, 97, 110, 100, 115])) tNil)))) (tOst K "place" (tVar 0) (tVar 1))
abbrev sp_BadTable_init (K : PySem.W.Frag) : Sp := spX1 (ga K "BadTable") "place"
def t_BadTable_init (K : PySem.W.Frag) : TS :=
  tSeq (tDrop (tVeI K (tCons (tVar 0) (tCons (tC (sv [97, 32, 116, 97, 98, 108, 101, 32, 111, 102, 32, 97, 32, 115, 116, 111, 99, 107, 32, 111, 114, 32, 111, 102, 32, 97, 32, 109, 97, 99, 104, 105, 110, 101, 32, 105, 115, 32, 119, 114, 111, 110, 103])) tNil)))) (tOst K "place" (tVar 0) (tVar 1))
abbrev sp_BadLot_init (K : PySem.W.Frag) : Sp := spX1 (ga K "BadLot") "number"
def t_BadLot_init (K : PySem.W.Frag) : TS :=
  tSeq (tDrop (tVeI K (tCons (tVar 0) (tCons (tC (sv [97, 32, 108, 111, 116, 32, 104, 97, 115, 32, 110, 111, 32, 114, 117, 108, 101, 115, 44, 32, 111, 114, 32, 97, 32, 114, 117, 108, 101, 32, 116, 104, 97, 116, 32, 100, 111, 101, 115, 32, 110, 111, 116, 32, 98, 101, 108, 111, 110, 103, 32, 105, 110, 116, 111, 32, 105, 116])) tNil)))) (tOst K "number" (tVar 0) (tVar 1))
abbrev sp_BadLimit_init (K : PySem.W.Frag) : Sp := spX1 (ga K "BadLimit") "asked"
def t_BadLimit_init (K : PySem.W.Frag) : TS :=
  tSeq (tDrop (tVeI K (tCons (tVar 0) (tCons (tC (sv [97, 32, 108, 105, 109, 105, 116, 32, 111, 114, 32, 97, 32, 100, 101, 112, 116, 104, 32, 105, 115, 32, 111, 117, 116, 32, 111, 102, 32, 114, 97, 110, 103, 101])) tNil)))) (tOst K "asked" (tVar 0) (tVar 1))
abbrev sp_TooMany_init (K : PySem.W.Frag) : Sp := spX1 (ga K "TooMany") "number"
def t_TooMany_init (K : PySem.W.Frag) : TS :=
  tSeq (tDrop (tVeI K (tCons (tVar 0) (tCons (tC (sv [116, 104, 101, 114, 101, 32, 119, 111, 117, 108, 100, 32, 98, 101, 32, 116, 111, 111, 32, 109, 97, 110, 121, 32, 114, 117, 108, 101, 115, 32, 111, 114, 32, 99, 108, 97, 115, 115, 101, 115])) tNil)))) (tOst K "number" (tVar 0) (tVar 1))
abbrev sp_OutsideStock_init (K : PySem.W.Frag) : Sp := spX1 (ga K "OutsideStock") "word"
def t_OutsideStock_init (K : PySem.W.Frag) : TS :=
  tSeq (tDrop (tVeI K (tCons (tVar 0) (tCons (tC (sv [97, 32, 115, 116, 114, 105, 110, 103, 32, 105, 115, 32, 110, 111, 116, 32, 97, 32, 119, 111, 114, 100, 32, 111, 102, 32, 116, 104, 101, 32, 115, 116, 111, 99, 107])) tNil)))) (tOst K "word" (tVar 0) (tVar 1))
abbrev sp_NoRule_init (K : PySem.W.Frag) : Sp := spX1 (ga K "NoRule") "fewest"
def t_NoRule_init (K : PySem.W.Frag) : TS :=
  tSeq (tDrop (tVeI K (tCons (tVar 0) (tCons (tC (sv [110, 111, 32, 99, 108, 97, 115, 115, 32, 111, 102, 32, 114, 117, 108, 101, 115, 32, 119, 111, 117, 108, 100, 32, 98, 101, 32, 108, 101, 102, 116])) tNil)))) (tOst K "fewest" (tVar 0) (tVar 1))
abbrev sp_NoEntry_init (K : PySem.W.Frag) : Sp := spX1 (ga K "NoEntry") "number"
def t_NoEntry_init (K : PySem.W.Frag) : TS :=
  tSeq (tDrop (tVeI K (tCons (tVar 0) (tCons (tC (sv [116, 104, 101, 114, 101, 32, 105, 115, 32, 110, 111, 32, 101, 110, 116, 114, 121, 32, 119, 105, 116, 104, 32, 116, 104, 105, 115, 32, 110, 117, 109, 98, 101, 114])) tNil)))) (tOst K "number" (tVar 0) (tVar 1))
abbrev sp_NoClass_init (K : PySem.W.Frag) : Sp := spX1 (ga K "NoClass") "number"
def t_NoClass_init (K : PySem.W.Frag) : TS :=
  tSeq (tDrop (tVeI K (tCons (tVar 0) (tCons (tC (sv [116, 104, 101, 114, 101, 32, 105, 115, 32, 110, 111, 32, 99, 108, 97, 115, 115, 32, 119, 105, 116, 104, 32, 116, 104, 105, 115, 32, 110, 117, 109, 98, 101, 114])) tNil)))) (tOst K "number" (tVar 0) (tVar 1))
abbrev sp_NoHistory_init (K : PySem.W.Frag) : Sp := spX1 (ga K "NoHistory") "way"
def t_NoHistory_init (K : PySem.W.Frag) : TS :=
  tSeq (tDrop (tVeI K (tCons (tVar 0) (tCons (tC (sv [116, 104, 101, 114, 101, 32, 105, 115, 32, 110, 111, 32, 115, 116, 101, 112, 32, 116, 111, 32, 117, 110, 100, 111, 32, 111, 114, 32, 116, 111, 32, 114, 101, 100, 111])) tNil)))) (tOst K "way" (tVar 0) (tVar 1))
abbrev sp_BadDeed_init (K : PySem.W.Frag) : Sp := spX1 (ga K "BadDeed") "index"
def t_BadDeed_init (K : PySem.W.Frag) : TS :=
  tSeq (tDrop (tVeI K (tCons (tVar 0) (tCons (tC (sv [97, 32, 100, 101, 101, 100, 32, 111, 102, 32, 97, 32, 108, 105, 115, 116, 32, 104, 97, 115, 32, 97, 32, 119, 114, 111, 110, 103, 32, 102, 111, 114, 109])) tNil)))) (tOst K "index" (tVar 0) (tVar 1))
abbrev sp_NoPlan_init (K : PySem.W.Frag) : Sp := spX2 (ga K "NoPlan") "one" "two"
def t_NoPlan_init (K : PySem.W.Frag) : TS :=
  tSeq (tDrop (tVeI K (tCons (tVar 0) (tCons (tC (sv [110, 111, 32, 119, 111, 114, 100, 32, 112, 97, 114, 116, 115, 32, 116, 119, 111, 32, 99, 108, 97, 115, 115, 101, 115])) tNil)))) (tSeq (tOst K "one" (tVar 0) (tVar 1)) (tOst K "two" (tVar 0) (tVar 2)))
def t_l_bag (K : PySem.W.Frag) : TS :=
  tRet (tLst (tCons (tCB (zList K) (tCons (tSl (zSl K) (tVar 0) tNoPart (tPart (tC (.int 63)))) tNil)) (tCons (tC (.int 0)) (tCons (tC (.int 0)) (tCons (tC (.int 1)) tNil)))))
def t_l_take (K : PySem.W.Frag) : TS :=
  tSeq (tIfS (tTest (tOp zGt (tOp (zIx K) (tVar 0) (tC (.int 2))) (tC (.int 0)))) (tSeq (tAsg (tCB zInt (tCons (tOp (zIx K) (tVar 0) (tC (.int 2))) tNil)) (gName 2)) (tSeq (tAsg (tOp zDiv (tVar 2) (tVar 1)) (gSub (tVar 0) (tC (.int 2)) rSetL)) (tRet (tOp zMod (tCB zInt (tCons (tVar 2) tNil)) (tVar 1))))) tNext) (tSeq (tAsg (tC (.int 0)) (gName 3)) (tSeq (tIfS (tTest (tOp zLt (tOp (zIx K) (tVar 0) (tC (.int 1))) (tCB (zLen K) (tCons (tOp (zIx K) (tVar 0) (tC (.int 0))) tNil)))) (tAsg (tOp (zIx K) (tOp (zIx K) (tVar 0) (tC (.int 0))) (tOp (zIx K) (tVar 0) (tC (.int 1)))) (gName 3)) tNext) (tSeq (tAsg (tOp zAdd (tOp (zIx K) (tVar 0) (tC (.int 1))) (tC (.int 1))) (gSub (tVar 0) (tC (.int 1)) rSetL)) (tSeq (tIfS (tTest (tOp zGe (tVar 3) (tOp zPow (tC (.int 10)) (tC (.int 18))))) (tSeq (tAsg (tOp zDiv (tVar 3) (tVar 1)) (gSub (tVar 0) (tC (.int 2)) rSetL)) (tRet (tOp zMod (tCB zInt (tCons (tVar 3) tNil)) (tVar 1)))) tNext) (tSeq (tAsg (tOp zMod (tCB zInt (tCons (tOp zAdd (tOp zAdd (tOp zMul (tOp (zIx K) (tVar 0) (tC (.int 3))) (tC (.int 48271))) (tOp zMul (tVar 3) (tC (.int 69621)))) (tOp zMul (tOp (zIx K) (tVar 0) (tC (.int 1))) (tC (.int 7919)))) tNil)) (tC (.int 2147483647))) (gSub (tVar 0) (tC (.int 3)) rSetL)) (tRet (tOp zMod (tOp zDiv (tCB zInt (tCons (tOp (zIx K) (tVar 0) (tC (.int 3))) tNil)) (tC (.int 16))) (tVar 1))))))))
def t_l_ranks (K : PySem.W.Frag) : TS :=
  tSeq (tAsg (tLst (tCons (tCB (zIsi K) (tCons (tVar 0) (tCons (tC (.ref (ga K "BadAlphabet"))) tNil))) (tCons (tCB (zIsi K) (tCons (tVar 0) (tCons (tC (.ref (ga K "BadWord"))) tNil))) (tCons (tCB (zIsi K) (tCons (tVar 0) (tCons (tC (.ref (ga K "BadStage"))) tNil))) (tCons (tCB (zIsi K) (tCons (tVar 0) (tCons (tC (.ref (ga K "BadRule"))) tNil))) tNil))))) (gName 1)) (tSeq (tAsg (tOp zAdd (tVar 1) (tLst (tCons (tCB (zIsi K) (tCons (tVar 0) (tCons (tC (.ref (ga K "BadShape"))) tNil))) (tCons (tCB (zIsi K) (tCons (tVar 0) (tCons (tC (.ref (ga K "BadTable"))) tNil))) (tCons (tCB (zIsi K) (tCons (tVar 0) (tCons (tC (.ref (ga K "Mixed"))) tNil))) (tCons (tCB (zIsi K) (tCons (tVar 0) (tCons (tC (.ref (ga K "BadLot"))) tNil))) tNil)))))) (gName 1)) (tSeq (tAsg (tOp zAdd (tVar 1) (tLst (tCons (tCB (zIsi K) (tCons (tVar 0) (tCons (tC (.ref (ga K "BadLimit"))) tNil))) (tCons (tCB (zIsi K) (tCons (tVar 0) (tCons (tC (.ref (ga K "TooMany"))) tNil))) (tCons (tCB (zIsi K) (tCons (tVar 0) (tCons (tC (.ref (ga K "OutsideStock"))) tNil))) tNil))))) (gName 1)) (tSeq (tAsg (tOp zAdd (tVar 1) (tLst (tCons (tCB (zIsi K) (tCons (tVar 0) (tCons (tC (.ref (ga K "NoRule"))) tNil))) (tCons (tCB (zIsi K) (tCons (tVar 0) (tCons (tC (.ref (ga K "NoEntry"))) tNil))) (tCons (tCB (zIsi K) (tCons (tVar 0) (tCons (tC (.ref (ga K "NoClass"))) tNil))) (tCons (tCB (zIsi K) (tCons (tVar 0) (tCons (tC (.ref (ga K "NoHistory"))) tNil))) tNil)))))) (gName 1)) (tRet (tOp zAdd (tVar 1) (tLst (tCons (tCB (zIsi K) (tCons (tVar 0) (tCons (tC (.ref (ga K "BadDeed"))) tNil))) (tCons (tCB (zIsi K) (tCons (tVar 0) (tCons (tC (.ref (ga K "NoPlan"))) tNil))) tNil))))))))
def errs : List Str := ["BadAlphabet", "BadWord", "BadStage", "BadRule", "BadShape", "BadTable", "Mixed", "BadLot", "BadLimit", "TooMany", "OutsideStock", "NoRule", "NoEntry", "NoClass", "NoHistory", "BadDeed", "NoPlan"]
def Cn (K : PySem.W.Frag) (i : Nat) : Addr := ga K (errs.getD i "")
def sp_l_ranks (K : PySem.W.Frag) : Sp := fun vs H Q _ => ∃ (a : Addr) (i : Nat), vs = [.ref a] ∧ i < 17 ∧ XAt H a (Cn K i) ∧ ∀ p H', Same H H' → H' p = some (.lst ((List.range 17).map fun j => .bl (decide (i = j)))) → Q (.ref p) H'
def sp_law (K : PySem.W.Frag) : Sp := fun vs H Q _ => ∃ (a : Addr) (ns : List Int), vs = [.ref a] ∧ SqL K H a (ns.map V.int) ∧ ns.length ≤ 63 ∧ ∀ H', Q (.bl true) H'
def t_law (K : PySem.W.Frag) : TS :=
  tSeq (tAsg (tCall (sp_l_bag K) [] E0 (tCons (tVar 0) tNil)) (gName 1)) (tSeq (tAsg (tOp zSub (tCall (sp_l_take K) [] E0 (tCons (tVar 1) (tCons (tOp zPow (tC (.int 10)) (tC (.int 6))) tNil))) (tOp zPow (tC (.int 10)) (tC (.int 5)))) (gName 2)) (tSeq (tAsg (tCall (sp_l_take K) [] E0 (tCons (tVar 1) (tCons (tOp zPow (tC (.int 10)) (tC (.int 6))) tNil))) (gName 3)) (tSeq (tAsg (tOp zAdd (tOp zMul (tC (sv [45])) (tCall (sp_l_take K) [] E0 (tCons (tVar 1) (tCons (tC (.int 5)) tNil)))) (tSl (zSl K) (tC (sv [97, 98, 32, 99, 48, 65])) tNoPart (tPart (tCall (sp_l_take K) [] E0 (tCons (tVar 1) (tCons (tC (.int 7)) tNil)))))) (gName 4)) (tSeq (tAsg (tLst (tCons (tMkV (ga K "BadAlphabet") (sp_BadAlphabet_init K) [] (tCons (tVar 4) tNil)) (tCons (tMkV (ga K "BadWord") (sp_BadWord_init K) [] (tCons (tVar 4) tNil)) (tCons (tMkV (ga K "BadStage") (sp_BadStage_init K) [] (tCons (tVar 4) tNil)) (tCons (tMkV (ga K "BadRule") (sp_BadRule_init K) [] (tCons (tVar 2) (tCons (tVar 4) tNil))) (tCons (tMkV (ga K "BadShape") (sp_BadShape_init K) [] (tCons (tVar 2) tNil)) tNil)))))) (gName 5)) (tSeq (tAsg (tOp zAdd (tVar 5) (tLst (tCons (tMkV (ga K "BadTable") (sp_BadTable_init K) [] (tCons (tVar 2) tNil)) (tCons (tExc0 (ga K "Mixed")) (tCons (tMkV (ga K "BadLot") (sp_BadLot_init K) [] (tCons (tVar 2) tNil)) (tCons (tMkV (ga K "BadLimit") (sp_BadLimit_init K) [] (tCons (tVar 2) tNil)) (tCons (tMkV (ga K "TooMany") (sp_TooMany_init K) [] (tCons (tVar 2) tNil)) (tCons (tMkV (ga K "OutsideStock") (sp_OutsideStock_init K) [] (tCons (tVar 4) tNil)) tNil)))))))) (gName 5)) (tSeq (tAsg (tOp zAdd (tVar 5) (tLst (tCons (tMkV (ga K "NoRule") (sp_NoRule_init K) [] (tCons (tVar 2) tNil)) (tCons (tMkV (ga K "NoEntry") (sp_NoEntry_init K) [] (tCons (tVar 2) tNil)) (tCons (tMkV (ga K "NoClass") (sp_NoClass_init K) [] (tCons (tVar 2) tNil)) (tCons (tMkV (ga K "NoHistory") (sp_NoHistory_init K) [] (tCons (tVar 4) tNil)) (tCons (tMkV (ga K "BadDeed") (sp_BadDeed_init K) [] (tCons (tVar 2) tNil)) tNil))))))) (gName 5)) (tSeq (tDrop (tBM K "list" zApp (tVar 5) (tCons (tMkV (ga K "NoPlan") (sp_NoPlan_init K) [] (tCons (tVar 2) (tCons (tVar 3) tNil))) tNil))) (tSeq (tFor (iRng1 (tCons (tC (.int 17)) tNil)) (gName 6) (tSeq (tIfS (tTest (tOp (zNe K) (tCall (sp_l_ranks K) [] E0 (tCons (tOp (zIx K) (tVar 5) (tVar 6)) tNil)) (tLc (iRng1 (tCons (tC (.int 17)) tNil)) (gName 7) tYes (tOp (zEq K) (tVar 7) (tVar 6)) [7]))) (tRet (tC (.bl false))) tNext) (tIfS (tOr (tNot (tTru K (tCB (zIsi K) (tCons (tOp (zIx K) (tVar 5) (tVar 6)) (tCons (tC (.ref (ga K "ClipError"))) tNil))))) (tNot (tTru K (tCB (zIsi K) (tCons (tOp (zIx K) (tVar 5) (tVar 6)) (tCons (tC (.ty "ValueError")) tNil)))))) (tRet (tC (.bl false))) tNext))) (tSeq (tAsg (tLst (tCons (tXfv K "part" (tOp (zIx K) (tVar 5) (tC (.int 0)))) (tCons (tXfv K "word" (tOp (zIx K) (tVar 5) (tC (.int 1)))) (tCons (tXfv K "what" (tOp (zIx K) (tVar 5) (tC (.int 2)))) (tCons (tXfv K "stage" (tOp (zIx K) (tVar 5) (tC (.int 3)))) (tCons (tXfv K "what" (tOp (zIx K) (tVar 5) (tC (.int 3)))) (tCons (tXfv K "place" (tOp (zIx K) (tVar 5) (tC (.int 4)))) (tCons (tXfv K "place" (tOp (zIx K) (tVar 5) (tC (.int 5)))) tNil)))))))) (gName 8)) (tSeq (tAsg (tOp zAdd (tVar 8) (tLst (tCons (tXfv K "number" (tOp (zIx K) (tVar 5) (tC (.int 7)))) (tCons (tXfv K "asked" (tOp (zIx K) (tVar 5) (tC (.int 8)))) (tCons (tXfv K "number" (tOp (zIx K) (tVar 5) (tC (.int 9)))) (tCons (tXfv K "word" (tOp (zIx K) (tVar 5) (tC (.int 10)))) (tCons (tXfv K "fewest" (tOp (zIx K) (tVar 5) (tC (.int 11)))) (tCons (tXfv K "number" (tOp (zIx K) (tVar 5) (tC (.int 12)))) tNil)))))))) (gName 8)) (tSeq (tAsg (tOp zAdd (tVar 8) (tLst (tCons (tXfv K "number" (tOp (zIx K) (tVar 5) (tC (.int 13)))) (tCons (tXfv K "way" (tOp (zIx K) (tVar 5) (tC (.int 14)))) (tCons (tXfv K "index" (tOp (zIx K) (tVar 5) (tC (.int 15)))) (tCons (tXfv K "one" (tOp (zIx K) (tVar 5) (tC (.int 16)))) (tCons (tXfv K "two" (tOp (zIx K) (tVar 5) (tC (.int 16)))) tNil))))))) (gName 8)) (tSeq (tAsg (tLst (tCons (tVar 4) (tCons (tVar 4) (tCons (tVar 4) (tCons (tVar 2) (tCons (tVar 4) (tCons (tVar 2) (tCons (tVar 2) (tCons (tVar 2) (tCons (tVar 2) (tCons (tVar 2) (tCons (tVar 4) (tCons (tVar 2) (tCons (tVar 2) (tCons (tVar 2) tNil))))))))))))))) (gName 9)) (tRet (tOp (zEq K) (tVar 8) (tOp zAdd (tVar 9) (tLst (tCons (tVar 4) (tCons (tVar 2) (tCons (tVar 2) (tCons (tVar 3) tNil))))))))))))))))))))
end Cl
namespace Cl
open PySem PySem.Spec PyProof.Rows L2 He
local macro_rules | `(tactic| walk_at "zs") => `(tactic| repeat (first
  | with_reducible refine s_seq ?_
  | with_reducible refine s_asg ?_
  | with_reducible refine s_if ?_
  | with_reducible refine s_var (by with_unfolding_all exact rfl) ?_
  | with_reducible refine s_c ?_
  | with_reducible refine s_op ?_
  | with_reducible refine s_cons ?_
  | with_reducible refine s_nil ?_
  | with_reducible refine s_cb ?_
  | with_reducible refine s_call ?_
  | with_reducible refine s_ret ?_
  | with_reducible refine s_test ?_
  | with_reducible refine s_bl ?_
  | with_reducible refine s_not ?_
  | with_reducible refine s_name ?_
  | with_reducible refine s_sub ?_
  | with_reducible refine s_sl ?_
  | with_reducible refine s_part ?_
  | with_reducible refine s_nopart ?_
  | with_reducible refine s_int ?_
  | with_reducible refine s_drop ?_
  | with_reducible refine s_lst ?_
  | with_reducible refine s_tup ?_
  | with_reducible refine s_bm ?_
  | with_reducible refine s_next ?_
  | with_reducible refine s_or ?_
  | with_reducible refine s_and ?_
  | with_reducible refine s_addI ?_
  | with_reducible refine s_subI ?_
  | with_reducible refine s_ltI ?_
  | with_reducible refine s_leI ?_
  | with_reducible refine s_gtI ?_
  | with_reducible refine s_geI ?_
  | with_reducible refine s_intc ?_
  | with_reducible refine s_eq (by with_unfolding_all exact rfl) ?_
  | with_reducible refine s_ne (by with_unfolding_all exact rfl) ?_))
variable {K : PySem.W.Frag} {mg : Str → Option Value}
theorem pure_l_bag (vs : List V) (H : Hp) (Q : VK) (E : XK) (h : sp_l_bag K vs H Q E) : t_l_bag K { nx := fun _ H' => Q .non H', rt := Q } (start ["_law_script"] vs) H := by
  obtain ⟨a, ns, rfl, hS, k⟩ := h
  show t_l_bag K _ [some (.ref a)] H
  unfold t_l_bag
  walk_at "zs"
  refine ⟨_, hS, fun p hp => ?_⟩
  walk_at "zs"
  refine ⟨_, Or.inl (sq_of upd_same), fun q hq => ?_⟩
  walk_at "zs"
  refine ⟨by show 4 ≤ sizeLine; decide, fun b hb => ?_⟩
  obtain ⟨hq', nqp⟩ := fresh_upd hq
  obtain ⟨hb', nbq⟩ := fresh_upd hb
  obtain ⟨hb'', nbp⟩ := fresh_upd hb'
  refine k b _ ⟨q, cut ns none (some 63), 0, 0, 1, upd_same, ?_, Ne.symm nbq, by decide⟩ (fun c o e => ?_) hb''
  · rw [upd_ne (Ne.symm nbq), upd_same, cut_map]
  · exact upd_old hb (upd_old hq (upd_old hp e))
theorem pure_l_take (vs : List V) (H : Hp) (Q : VK) (E : XK) (h : sp_l_take K vs H Q E) : t_l_take K { nx := fun _ H' => Q .non H', rt := Q } (start ["_law_bag_here", "_law_size", "_law_rest", "_law_cell"] vs) H := by
  obtain ⟨b, n, rfl, ⟨c, ns, pos, rest, seed, hb, hc, ne, h0⟩, n0, n1, k⟩ := h
  show t_l_take K _ [some (.ref b), some (.int n), none, none] H
  unfold t_l_take
  have bs : ∀ pos' rest' seed' : Int, 0 ≤ pos' → Bst b H (upd H b (.lst [.ref c, .int pos', .int rest', .int seed'])) := fun pos' rest' seed' hp =>
    ⟨fun a o ha e => upd_far ha e, c, ns, pos', rest', seed', upd_same, upd_far ne hc, ne, hp⟩
  have fin : ∀ (x pos' rest' seed' : Int), 0 ≤ pos' → Q (.int (x % n)) (upd H b (.lst [.ref c, .int pos', .int rest', .int seed'])) := fun x pos' rest' seed' hp =>
    k _ _ (Int.emod_nonneg _ (by omega)) (Int.emod_lt_of_pos _ n0) (bs pos' rest' seed' hp)
  have up2 : ∀ o1 o2 : HO, upd (upd H b o1) b o2 = upd H b o2 := fun o1 o2 => by
    funext z
    by_cases e : z = b
    · rw [e, upd_same, upd_same]
    · rw [upd_ne e, upd_ne e, upd_ne e]
  walk_at "zs"
  refine s_ixL hb rfl ?_
  walk_at "zs"
  refine ite2 (fun _ => ?_) (fun _ => ?_)
  · walk_at "zs"
    refine s_ixL hb rfl ?_
    walk_at "zs"
    refine ⟨⟨n0, n1⟩, ?_⟩
    walk_at "zs"
    refine ⟨b, _, _, _, rfl, rfl, hb, rfl, ?_⟩
    walk_at "zs"
    exact ⟨n0, fin _ _ _ _ h0⟩
  · walk_at "zs"
    refine s_ixL hb rfl ?_
    walk_at "zs"
    refine s_ixL hb rfl ?_
    walk_at "zs"
    refine s_lenL hc ?_
    walk_at "zs"
    have tail : ∀ cell : Int, tSeq (tAsg (tOp zAdd (tOp (zIx K) (tVar 0) (tC (V.int 1))) (tC (V.int 1))) (gSub (tVar 0) (tC (V.int 1)) rSetL)) (tSeq (tIfS (tTest (tOp zGe (tVar 3) (tOp zPow (tC (V.int 10)) (tC (V.int 18)))))
        (tSeq (tAsg (tOp zDiv (tVar 3) (tVar 1)) (gSub (tVar 0) (tC (V.int 2)) rSetL)) (tRet (tOp zMod (tCB zInt (tCons (tVar 3) tNil)) (tVar 1)))) tNext)
        (tSeq (tAsg (tOp zMod (tCB zInt (tCons (tOp zAdd (tOp zAdd (tOp zMul (tOp (zIx K) (tVar 0) (tC (V.int 3))) (tC (V.int 48271))) (tOp zMul (tVar 3) (tC (V.int 69621)))) (tOp zMul (tOp (zIx K) (tVar 0) (tC (V.int 1))) (tC (V.int 7919)))) tNil)) (tC (V.int 2147483647))) (gSub (tVar 0) (tC (V.int 3)) rSetL))
        (tRet (tOp zMod (tOp zDiv (tCB zInt (tCons (tOp (zIx K) (tVar 0) (tC (V.int 3))) tNil)) (tC (V.int 16))) (tVar 1))))) { nx := fun _ H' => Q .non H', rt := Q } [some (.ref b), some (.int n), none, some (.int cell)] H := by
      intro cell
      walk_at "zs"
      refine s_ixL hb rfl ?_
      walk_at "zs"
      refine ⟨b, _, _, _, rfl, rfl, hb, rfl, ?_⟩
      walk_at "zs"
      refine ⟨⟨by decide, by decide, by decide⟩, ?_⟩
      walk_at "zs"
      refine ite2 (fun _ => ?_) (fun _ => ?_)
      · walk_at "zs"
        refine ⟨⟨n0, n1⟩, ?_⟩
        walk_at "zs"
        refine ⟨b, _, _, _, rfl, rfl, upd_same, rfl, ?_⟩
        walk_at "zs"
        refine ⟨n0, ?_⟩
        rw [up2]
        exact fin _ _ _ _ (by omega)
      · walk_at "zs"
        refine s_ixL upd_same rfl ?_
        walk_at "zs"
        refine ⟨Or.inr ⟨by decide, by decide⟩, ?_⟩
        walk_at "zs"
        refine ⟨Or.inr ⟨by decide, by decide⟩, ?_⟩
        walk_at "zs"
        refine s_ixL upd_same rfl ?_
        walk_at "zs"
        refine ⟨Or.inr ⟨by decide, by decide⟩, ?_⟩
        walk_at "zs"
        refine ⟨by decide, ?_⟩
        walk_at "zs"
        refine ⟨b, _, _, _, rfl, rfl, upd_same, rfl, ?_⟩
        walk_at "zs"
        refine s_ixL upd_same rfl ?_
        walk_at "zs"
        refine ⟨⟨by decide, by decide⟩, ?_⟩
        walk_at "zs"
        refine ⟨n0, ?_⟩
        rw [up2]
        exact fin _ _ _ _ (by omega)
    refine ite2 (fun hlt => ?_) (fun _ => ?_)
    · walk_at "zs"
      refine s_ixL hb rfl ?_
      walk_at "zs"
      refine s_ixL hb rfl ?_
      walk_at "zs"
      have hlt' : pos < ((ns.map V.int).length : Int) := of_decide_eq_true hlt
      rw [List.length_map] at hlt'
      obtain ⟨j, rfl⟩ : ∃ j : Nat, pos = j := ⟨pos.toNat, by omega⟩
      have hj : j < ns.length := by omega
      refine s_ixL hc (atI_nat (v := .int ns[j]) (by rw [List.getElem?_map, List.getElem?_eq_getElem hj]; rfl)) ?_
      exact tail ns[j]
    · exact tail 0
end Cl
namespace Cl
open PySem PySem.Spec PyProof.Rows L2 He
def top (i : Nat) : Stmt := PySem.Challenge.pw_cliplore_k81_errors_and_attributes.main.body.getD i (.Pass ⟨0, 0, 0, 0⟩)
abbrev st_BadAlphabet_init : Stmt := inClass (top 2) 0
abbrev N_BadAlphabet_init : List Str := ["self", "part"]
abbrev st_BadWord_init : Stmt := inClass (top 3) 0
abbrev N_BadWord_init : List Str := ["self", "word"]
abbrev st_BadStage_init : Stmt := inClass (top 4) 0
abbrev N_BadStage_init : List Str := ["self", "what"]
abbrev st_BadRule_init : Stmt := inClass (top 5) 0
abbrev N_BadRule_init : List Str := ["self", "stage", "what"]
abbrev st_BadShape_init : Stmt := inClass (top 6) 0
abbrev N_BadShape_init : List Str := ["self", "place"]
abbrev st_BadTable_init : Stmt := inClass (top 7) 0
abbrev N_BadTable_init : List Str := ["self", "place"]
abbrev st_BadLot_init : Stmt := inClass (top 9) 0
abbrev N_BadLot_init : List Str := ["self", "number"]
abbrev st_BadLimit_init : Stmt := inClass (top 10) 0
abbrev N_BadLimit_init : List Str := ["self", "limit"]
abbrev st_TooMany_init : Stmt := inClass (top 11) 0
abbrev N_TooMany_init : List Str := ["self", "number"]
abbrev st_OutsideStock_init : Stmt := inClass (top 12) 0
abbrev N_OutsideStock_init : List Str := ["self", "word"]
abbrev st_NoRule_init : Stmt := inClass (top 13) 0
abbrev N_NoRule_init : List Str := ["self", "fewest"]
abbrev st_NoEntry_init : Stmt := inClass (top 14) 0
abbrev N_NoEntry_init : List Str := ["self", "number"]
abbrev st_NoClass_init : Stmt := inClass (top 15) 0
abbrev N_NoClass_init : List Str := ["self", "number"]
abbrev st_NoHistory_init : Stmt := inClass (top 16) 0
abbrev N_NoHistory_init : List Str := ["self", "way"]
abbrev st_BadDeed_init : Stmt := inClass (top 17) 0
abbrev N_BadDeed_init : List Str := ["self", "index"]
abbrev st_NoPlan_init : Stmt := inClass (top 18) 0
abbrev N_NoPlan_init : List Str := ["self", "one", "two"]
abbrev st_l_bag : Stmt := top 20
abbrev N_l_bag : List Str := ["_law_script"]
abbrev st_l_take : Stmt := top 21
abbrev N_l_take : List Str := ["_law_bag_here", "_law_size", "_law_rest", "_law_cell"]
abbrev st_l_ranks : Stmt := top 22
abbrev N_l_ranks : List Str := ["_law_e", "_law_ranks_here"]
abbrev st_law : Stmt := top 23
abbrev N_law : List Str := ["_law_script", "_law_bag_here", "_law_number", "_law_other", "_law_text", "_law_made", "_law_at", "_law_k", "_law_told", "_law_due"]
structure Facts (K : PySem.W.Frag) (mg : Str → Option Value) : Prop where
  g_BadAlphabet : mg "BadAlphabet" = some (.ref (ga K "BadAlphabet"))
  g_BadDeed : mg "BadDeed" = some (.ref (ga K "BadDeed"))
  g_BadLimit : mg "BadLimit" = some (.ref (ga K "BadLimit"))
  g_BadLot : mg "BadLot" = some (.ref (ga K "BadLot"))
  g_BadRule : mg "BadRule" = some (.ref (ga K "BadRule"))
  g_BadShape : mg "BadShape" = some (.ref (ga K "BadShape"))
  g_BadStage : mg "BadStage" = some (.ref (ga K "BadStage"))
  g_BadTable : mg "BadTable" = some (.ref (ga K "BadTable"))
  g_BadWord : mg "BadWord" = some (.ref (ga K "BadWord"))
  g_ClipError : mg "ClipError" = some (.ref (ga K "ClipError"))
  g_Mixed : mg "Mixed" = some (.ref (ga K "Mixed"))
  g_NoClass : mg "NoClass" = some (.ref (ga K "NoClass"))
  g_NoEntry : mg "NoEntry" = some (.ref (ga K "NoEntry"))
  g_NoHistory : mg "NoHistory" = some (.ref (ga K "NoHistory"))
  g_NoPlan : mg "NoPlan" = some (.ref (ga K "NoPlan"))
  g_NoRule : mg "NoRule" = some (.ref (ga K "NoRule"))
  g_OutsideStock : mg "OutsideStock" = some (.ref (ga K "OutsideStock"))
  g_TooMany : mg "TooMany" = some (.ref (ga K "TooMany"))
  g__law_bag : mg "_law_bag" = some (.ref (ga K "_law_bag"))
  g__law_ranks : mg "_law_ranks" = some (.ref (ga K "_law_ranks"))
  g__law_take : mg "_law_take" = some (.ref (ga K "_law_take"))
  g_law : mg "law" = some (.ref (ga K "law"))
  n_ValueError : mg "ValueError" = none
  n_int : mg "int" = none
  n_isinstance : mg "isinstance" = none
  n_len : mg "len" = none
  n_list : mg "list" = none
  n_range : mg "range" = none
  F_BadAlphabet_init : FunD K "__init__" "BadAlphabet.__init__" (defArgs st_BadAlphabet_init) (defBody st_BadAlphabet_init) (defScope st_BadAlphabet_init) [] [] (fAd K ("BadAlphabet", some "__init__")) (fdOf K ("BadAlphabet", some "__init__"))
  F_BadWord_init : FunD K "__init__" "BadWord.__init__" (defArgs st_BadWord_init) (defBody st_BadWord_init) (defScope st_BadWord_init) [] [] (fAd K ("BadWord", some "__init__")) (fdOf K ("BadWord", some "__init__"))
  F_BadStage_init : FunD K "__init__" "BadStage.__init__" (defArgs st_BadStage_init) (defBody st_BadStage_init) (defScope st_BadStage_init) [] [] (fAd K ("BadStage", some "__init__")) (fdOf K ("BadStage", some "__init__"))
  F_BadRule_init : FunD K "__init__" "BadRule.__init__" (defArgs st_BadRule_init) (defBody st_BadRule_init) (defScope st_BadRule_init) [] [] (fAd K ("BadRule", some "__init__")) (fdOf K ("BadRule", some "__init__"))
  F_BadShape_init : FunD K "__init__" "BadShape.__init__" (defArgs st_BadShape_init) (defBody st_BadShape_init) (defScope st_BadShape_init) [] [] (fAd K ("BadShape", some "__init__")) (fdOf K ("BadShape", some "__init__"))
  F_BadTable_init : FunD K "__init__" "BadTable.__init__" (defArgs st_BadTable_init) (defBody st_BadTable_init) (defScope st_BadTable_init) [] [] (fAd K ("BadTable", some "__init__")) (fdOf K ("BadTable", some "__init__"))
  F_BadLot_init : FunD K "__init__" "BadLot.__init__" (defArgs st_BadLot_init) (defBody st_BadLot_init) (defScope st_BadLot_init) [] [] (fAd K ("BadLot", some "__init__")) (fdOf K ("BadLot", some "__init__"))
  F_BadLimit_init : FunD K "__init__" "BadLimit.__init__" (defArgs st_BadLimit_init) (defBody st_BadLimit_init) (defScope st_BadLimit_init) [] [] (fAd K ("BadLimit", some "__init__")) (fdOf K ("BadLimit", some "__init__"))
  F_TooMany_init : FunD K "__init__" "TooMany.__init__" (defArgs st_TooMany_init) (defBody st_TooMany_init) (defScope st_TooMany_init) [] [] (fAd K ("TooMany", some "__init__")) (fdOf K ("TooMany", some "__init__"))
  F_OutsideStock_init : FunD K "__init__" "OutsideStock.__init__" (defArgs st_OutsideStock_init) (defBody st_OutsideStock_init) (defScope st_OutsideStock_init) [] [] (fAd K ("OutsideStock", some "__init__")) (fdOf K ("OutsideStock", some "__init__"))
  F_NoRule_init : FunD K "__init__" "NoRule.__init__" (defArgs st_NoRule_init) (defBody st_NoRule_init) (defScope st_NoRule_init) [] [] (fAd K ("NoRule", some "__init__")) (fdOf K ("NoRule", some "__init__"))
  F_NoEntry_init : FunD K "__init__" "NoEntry.__init__" (defArgs st_NoEntry_init) (defBody st_NoEntry_init) (defScope st_NoEntry_init) [] [] (fAd K ("NoEntry", some "__init__")) (fdOf K ("NoEntry", some "__init__"))
  F_NoClass_init : FunD K "__init__" "NoClass.__init__" (defArgs st_NoClass_init) (defBody st_NoClass_init) (defScope st_NoClass_init) [] [] (fAd K ("NoClass", some "__init__")) (fdOf K ("NoClass", some "__init__"))
  F_NoHistory_init : FunD K "__init__" "NoHistory.__init__" (defArgs st_NoHistory_init) (defBody st_NoHistory_init) (defScope st_NoHistory_init) [] [] (fAd K ("NoHistory", some "__init__")) (fdOf K ("NoHistory", some "__init__"))
  F_BadDeed_init : FunD K "__init__" "BadDeed.__init__" (defArgs st_BadDeed_init) (defBody st_BadDeed_init) (defScope st_BadDeed_init) [] [] (fAd K ("BadDeed", some "__init__")) (fdOf K ("BadDeed", some "__init__"))
  F_NoPlan_init : FunD K "__init__" "NoPlan.__init__" (defArgs st_NoPlan_init) (defBody st_NoPlan_init) (defScope st_NoPlan_init) [] [] (fAd K ("NoPlan", some "__init__")) (fdOf K ("NoPlan", some "__init__"))
  F_l_bag : FunD K "_law_bag" "_law_bag" (defArgs st_l_bag) (defBody st_l_bag) (defScope st_l_bag) [] [] (fAd K ("_law_bag", none)) (fdOf K ("_law_bag", none))
  F_l_take : FunD K "_law_take" "_law_take" (defArgs st_l_take) (defBody st_l_take) (defScope st_l_take) [] [] (fAd K ("_law_take", none)) (fdOf K ("_law_take", none))
  F_l_ranks : FunD K "_law_ranks" "_law_ranks" (defArgs st_l_ranks) (defBody st_l_ranks) (defScope st_l_ranks) [] [] (fAd K ("_law_ranks", none)) (fdOf K ("_law_ranks", none))
  F_law : FunD K "law" "law" (defArgs st_law) (defBody st_law) (defScope st_law) [] [] (fAd K ("law", none)) (fdOf K ("law", none))
  i_BadAlphabet : PySem.W.findIn K (.ref (ga K "BadAlphabet")) "__init__" = some (some (.ref (fAd K ("BadAlphabet", some "__init__"))))
  ti_BadAlphabet : PySem.W.typeIn K (.ref (fAd K ("BadAlphabet", some "__init__"))) = some (.type "function")
  no_BadAlphabet_part : PySem.W.findIn K (.ref (ga K "BadAlphabet")) "part" = some none
  i_BadWord : PySem.W.findIn K (.ref (ga K "BadWord")) "__init__" = some (some (.ref (fAd K ("BadWord", some "__init__"))))
  ti_BadWord : PySem.W.typeIn K (.ref (fAd K ("BadWord", some "__init__"))) = some (.type "function")
  no_BadWord_word : PySem.W.findIn K (.ref (ga K "BadWord")) "word" = some none
  i_BadStage : PySem.W.findIn K (.ref (ga K "BadStage")) "__init__" = some (some (.ref (fAd K ("BadStage", some "__init__"))))
  ti_BadStage : PySem.W.typeIn K (.ref (fAd K ("BadStage", some "__init__"))) = some (.type "function")
  no_BadStage_what : PySem.W.findIn K (.ref (ga K "BadStage")) "what" = some none
  i_BadRule : PySem.W.findIn K (.ref (ga K "BadRule")) "__init__" = some (some (.ref (fAd K ("BadRule", some "__init__"))))
  ti_BadRule : PySem.W.typeIn K (.ref (fAd K ("BadRule", some "__init__"))) = some (.type "function")
  no_BadRule_stage : PySem.W.findIn K (.ref (ga K "BadRule")) "stage" = some none
  no_BadRule_what : PySem.W.findIn K (.ref (ga K "BadRule")) "what" = some none
  i_BadShape : PySem.W.findIn K (.ref (ga K "BadShape")) "__init__" = some (some (.ref (fAd K ("BadShape", some "__init__"))))
  ti_BadShape : PySem.W.typeIn K (.ref (fAd K ("BadShape", some "__init__"))) = some (.type "function")
  no_BadShape_place : PySem.W.findIn K (.ref (ga K "BadShape")) "place" = some none
  i_BadTable : PySem.W.findIn K (.ref (ga K "BadTable")) "__init__" = some (some (.ref (fAd K ("BadTable", some "__init__"))))
  ti_BadTable : PySem.W.typeIn K (.ref (fAd K ("BadTable", some "__init__"))) = some (.type "function")
  no_BadTable_place : PySem.W.findIn K (.ref (ga K "BadTable")) "place" = some none
  i_BadLot : PySem.W.findIn K (.ref (ga K "BadLot")) "__init__" = some (some (.ref (fAd K ("BadLot", some "__init__"))))
  ti_BadLot : PySem.W.typeIn K (.ref (fAd K ("BadLot", some "__init__"))) = some (.type "function")
  no_BadLot_number : PySem.W.findIn K (.ref (ga K "BadLot")) "number" = some none
  i_BadLimit : PySem.W.findIn K (.ref (ga K "BadLimit")) "__init__" = some (some (.ref (fAd K ("BadLimit", some "__init__"))))
  ti_BadLimit : PySem.W.typeIn K (.ref (fAd K ("BadLimit", some "__init__"))) = some (.type "function")
  no_BadLimit_asked : PySem.W.findIn K (.ref (ga K "BadLimit")) "asked" = some none
  i_TooMany : PySem.W.findIn K (.ref (ga K "TooMany")) "__init__" = some (some (.ref (fAd K ("TooMany", some "__init__"))))
  ti_TooMany : PySem.W.typeIn K (.ref (fAd K ("TooMany", some "__init__"))) = some (.type "function")
  no_TooMany_number : PySem.W.findIn K (.ref (ga K "TooMany")) "number" = some none
  i_OutsideStock : PySem.W.findIn K (.ref (ga K "OutsideStock")) "__init__" = some (some (.ref (fAd K ("OutsideStock", some "__init__"))))
  ti_OutsideStock : PySem.W.typeIn K (.ref (fAd K ("OutsideStock", some "__init__"))) = some (.type "function")
  no_OutsideStock_word : PySem.W.findIn K (.ref (ga K "OutsideStock")) "word" = some none
  i_NoRule : PySem.W.findIn K (.ref (ga K "NoRule")) "__init__" = some (some (.ref (fAd K ("NoRule", some "__init__"))))
  ti_NoRule : PySem.W.typeIn K (.ref (fAd K ("NoRule", some "__init__"))) = some (.type "function")
  no_NoRule_fewest : PySem.W.findIn K (.ref (ga K "NoRule")) "fewest" = some none
  i_NoEntry : PySem.W.findIn K (.ref (ga K "NoEntry")) "__init__" = some (some (.ref (fAd K ("NoEntry", some "__init__"))))
  ti_NoEntry : PySem.W.typeIn K (.ref (fAd K ("NoEntry", some "__init__"))) = some (.type "function")
  no_NoEntry_number : PySem.W.findIn K (.ref (ga K "NoEntry")) "number" = some none
  i_NoClass : PySem.W.findIn K (.ref (ga K "NoClass")) "__init__" = some (some (.ref (fAd K ("NoClass", some "__init__"))))
  ti_NoClass : PySem.W.typeIn K (.ref (fAd K ("NoClass", some "__init__"))) = some (.type "function")
  no_NoClass_number : PySem.W.findIn K (.ref (ga K "NoClass")) "number" = some none
  i_NoHistory : PySem.W.findIn K (.ref (ga K "NoHistory")) "__init__" = some (some (.ref (fAd K ("NoHistory", some "__init__"))))
  ti_NoHistory : PySem.W.typeIn K (.ref (fAd K ("NoHistory", some "__init__"))) = some (.type "function")
  no_NoHistory_way : PySem.W.findIn K (.ref (ga K "NoHistory")) "way" = some none
  i_BadDeed : PySem.W.findIn K (.ref (ga K "BadDeed")) "__init__" = some (some (.ref (fAd K ("BadDeed", some "__init__"))))
  ti_BadDeed : PySem.W.typeIn K (.ref (fAd K ("BadDeed", some "__init__"))) = some (.type "function")
  no_BadDeed_index : PySem.W.findIn K (.ref (ga K "BadDeed")) "index" = some none
  i_NoPlan : PySem.W.findIn K (.ref (ga K "NoPlan")) "__init__" = some (some (.ref (fAd K ("NoPlan", some "__init__"))))
  ti_NoPlan : PySem.W.typeIn K (.ref (fAd K ("NoPlan", some "__init__"))) = some (.type "function")
  no_NoPlan_one : PySem.W.findIn K (.ref (ga K "NoPlan")) "one" = some none
  no_NoPlan_two : PySem.W.findIn K (.ref (ga K "NoPlan")) "two" = some none
  xc : ∀ i, i < 17 → XCls K (Cn K i)
  bi : BInit K (ga K "ClipError")
  e_Mixed : PySem.W.excIn K (ga K "Mixed") veBase "ValueError.__new__" = true
  kit : ∀ i, i < 17 → ∀ j, j < 17 → PySem.W.kitOne K (.ref (Cn K i)) (.ref (Cn K j)) = some (decide (i = j))
  kitC : ∀ i, i < 17 → PySem.W.kitOne K (.ref (Cn K i)) (.ref (ga K "ClipError")) = some true
  kitV : ∀ i, i < 17 → PySem.W.kitOne K (.ref (Cn K i)) (.type "ValueError") = some true
theorem Facts.x_BadAlphabet {K : PySem.W.Frag} {mg : Str → Option Value} (T : Facts K mg) : XCls K (ga K "BadAlphabet") := T.xc 0 (by decide)
theorem Facts.x_BadWord {K : PySem.W.Frag} {mg : Str → Option Value} (T : Facts K mg) : XCls K (ga K "BadWord") := T.xc 1 (by decide)
theorem Facts.x_BadStage {K : PySem.W.Frag} {mg : Str → Option Value} (T : Facts K mg) : XCls K (ga K "BadStage") := T.xc 2 (by decide)
theorem Facts.x_BadRule {K : PySem.W.Frag} {mg : Str → Option Value} (T : Facts K mg) : XCls K (ga K "BadRule") := T.xc 3 (by decide)
theorem Facts.x_BadShape {K : PySem.W.Frag} {mg : Str → Option Value} (T : Facts K mg) : XCls K (ga K "BadShape") := T.xc 4 (by decide)
theorem Facts.x_BadTable {K : PySem.W.Frag} {mg : Str → Option Value} (T : Facts K mg) : XCls K (ga K "BadTable") := T.xc 5 (by decide)
theorem Facts.x_Mixed {K : PySem.W.Frag} {mg : Str → Option Value} (T : Facts K mg) : XCls K (ga K "Mixed") := T.xc 6 (by decide)
theorem Facts.x_BadLot {K : PySem.W.Frag} {mg : Str → Option Value} (T : Facts K mg) : XCls K (ga K "BadLot") := T.xc 7 (by decide)
theorem Facts.x_BadLimit {K : PySem.W.Frag} {mg : Str → Option Value} (T : Facts K mg) : XCls K (ga K "BadLimit") := T.xc 8 (by decide)
theorem Facts.x_TooMany {K : PySem.W.Frag} {mg : Str → Option Value} (T : Facts K mg) : XCls K (ga K "TooMany") := T.xc 9 (by decide)
theorem Facts.x_OutsideStock {K : PySem.W.Frag} {mg : Str → Option Value} (T : Facts K mg) : XCls K (ga K "OutsideStock") := T.xc 10 (by decide)
theorem Facts.x_NoRule {K : PySem.W.Frag} {mg : Str → Option Value} (T : Facts K mg) : XCls K (ga K "NoRule") := T.xc 11 (by decide)
theorem Facts.x_NoEntry {K : PySem.W.Frag} {mg : Str → Option Value} (T : Facts K mg) : XCls K (ga K "NoEntry") := T.xc 12 (by decide)
theorem Facts.x_NoClass {K : PySem.W.Frag} {mg : Str → Option Value} (T : Facts K mg) : XCls K (ga K "NoClass") := T.xc 13 (by decide)
theorem Facts.x_NoHistory {K : PySem.W.Frag} {mg : Str → Option Value} (T : Facts K mg) : XCls K (ga K "NoHistory") := T.xc 14 (by decide)
theorem Facts.x_BadDeed {K : PySem.W.Frag} {mg : Str → Option Value} (T : Facts K mg) : XCls K (ga K "BadDeed") := T.xc 15 (by decide)
theorem Facts.x_NoPlan {K : PySem.W.Frag} {mg : Str → Option Value} (T : Facts K mg) : XCls K (ga K "NoPlan") := T.xc 16 (by decide)
def fa : List Fa := [.glo "BadAlphabet", .glo "BadDeed", .glo "BadLimit", .glo "BadLot", .glo "BadRule", .glo "BadShape", .glo "BadStage", .glo "BadTable", .glo "BadWord", .glo "ClipError", .glo "Mixed", .glo "NoClass", .glo "NoEntry", .glo "NoHistory", .glo "NoPlan", .glo "NoRule", .glo "OutsideStock", .glo "TooMany", .glo "_law_bag", .glo "_law_ranks", .glo "_law_take", .glo "law", .free "ValueError", .free "int", .free "isinstance", .free "len", .free "list", .free "range", .meth "BadAlphabet" "__init__", .meth "BadWord" "__init__", .meth "BadStage" "__init__", .meth "BadRule" "__init__", .meth "BadShape" "__init__", .meth "BadTable" "__init__", .meth "BadLot" "__init__", .meth "BadLimit" "__init__", .meth "TooMany" "__init__", .meth "OutsideStock" "__init__", .meth "NoRule" "__init__", .meth "NoEntry" "__init__", .meth "NoClass" "__init__", .meth "NoHistory" "__init__", .meth "BadDeed" "__init__", .meth "NoPlan" "__init__", .noat "BadAlphabet" "part", .noat "BadWord" "word", .noat "BadStage" "what", .noat "BadRule" "stage", .noat "BadRule" "what", .noat "BadShape" "place", .noat "BadTable" "place", .noat "BadLot" "number", .noat "BadLimit" "asked", .noat "TooMany" "number", .noat "OutsideStock" "word", .noat "NoRule" "fewest", .noat "NoEntry" "number", .noat "NoClass" "number", .noat "NoHistory" "way", .noat "BadDeed" "index", .noat "NoPlan" "one", .noat "NoPlan" "two"]
def d_BadAlphabet_init : DefD := ⟨("BadAlphabet", some "__init__"), "__init__", "BadAlphabet.__init__", defArgs st_BadAlphabet_init, defBody st_BadAlphabet_init, defScope st_BadAlphabet_init, [], []⟩
def d_BadWord_init : DefD := ⟨("BadWord", some "__init__"), "__init__", "BadWord.__init__", defArgs st_BadWord_init, defBody st_BadWord_init, defScope st_BadWord_init, [], []⟩
def d_BadStage_init : DefD := ⟨("BadStage", some "__init__"), "__init__", "BadStage.__init__", defArgs st_BadStage_init, defBody st_BadStage_init, defScope st_BadStage_init, [], []⟩
def d_BadRule_init : DefD := ⟨("BadRule", some "__init__"), "__init__", "BadRule.__init__", defArgs st_BadRule_init, defBody st_BadRule_init, defScope st_BadRule_init, [], []⟩
def d_BadShape_init : DefD := ⟨("BadShape", some "__init__"), "__init__", "BadShape.__init__", defArgs st_BadShape_init, defBody st_BadShape_init, defScope st_BadShape_init, [], []⟩
def d_BadTable_init : DefD := ⟨("BadTable", some "__init__"), "__init__", "BadTable.__init__", defArgs st_BadTable_init, defBody st_BadTable_init, defScope st_BadTable_init, [], []⟩
def d_BadLot_init : DefD := ⟨("BadLot", some "__init__"), "__init__", "BadLot.__init__", defArgs st_BadLot_init, defBody st_BadLot_init, defScope st_BadLot_init, [], []⟩
def d_BadLimit_init : DefD := ⟨("BadLimit", some "__init__"), "__init__", "BadLimit.__init__", defArgs st_BadLimit_init, defBody st_BadLimit_init, defScope st_BadLimit_init, [], []⟩
def d_TooMany_init : DefD := ⟨("TooMany", some "__init__"), "__init__", "TooMany.__init__", defArgs st_TooMany_init, defBody st_TooMany_init, defScope st_TooMany_init, [], []⟩
def d_OutsideStock_init : DefD := ⟨("OutsideStock", some "__init__"), "__init__", "OutsideStock.__init__", defArgs st_OutsideStock_init, defBody st_OutsideStock_init, defScope st_OutsideStock_init, [], []⟩
def d_NoRule_init : DefD := ⟨("NoRule", some "__init__"), "__init__", "NoRule.__init__", defArgs st_NoRule_init, defBody st_NoRule_init, defScope st_NoRule_init, [], []⟩
def d_NoEntry_init : DefD := ⟨("NoEntry", some "__init__"), "__init__", "NoEntry.__init__", defArgs st_NoEntry_init, defBody st_NoEntry_init, defScope st_NoEntry_init, [], []⟩
def d_NoClass_init : DefD := ⟨("NoClass", some "__init__"), "__init__", "NoClass.__init__", defArgs st_NoClass_init, defBody st_NoClass_init, defScope st_NoClass_init, [], []⟩
def d_NoHistory_init : DefD := ⟨("NoHistory", some "__init__"), "__init__", "NoHistory.__init__", defArgs st_NoHistory_init, defBody st_NoHistory_init, defScope st_NoHistory_init, [], []⟩
def d_BadDeed_init : DefD := ⟨("BadDeed", some "__init__"), "__init__", "BadDeed.__init__", defArgs st_BadDeed_init, defBody st_BadDeed_init, defScope st_BadDeed_init, [], []⟩
def d_NoPlan_init : DefD := ⟨("NoPlan", some "__init__"), "__init__", "NoPlan.__init__", defArgs st_NoPlan_init, defBody st_NoPlan_init, defScope st_NoPlan_init, [], []⟩
def d_l_bag : DefD := ⟨("_law_bag", none), "_law_bag", "_law_bag", defArgs st_l_bag, defBody st_l_bag, defScope st_l_bag, [], []⟩
def d_l_take : DefD := ⟨("_law_take", none), "_law_take", "_law_take", defArgs st_l_take, defBody st_l_take, defScope st_l_take, [], []⟩
def d_l_ranks : DefD := ⟨("_law_ranks", none), "_law_ranks", "_law_ranks", defArgs st_l_ranks, defBody st_l_ranks, defScope st_l_ranks, [], []⟩
def d_law : DefD := ⟨("law", none), "law", "law", defArgs st_law, defBody st_law, defScope st_law, [], []⟩
def fnd : List DefD := [d_BadAlphabet_init, d_BadWord_init, d_BadStage_init, d_BadRule_init, d_BadShape_init, d_BadTable_init, d_BadLot_init, d_BadLimit_init, d_TooMany_init, d_OutsideStock_init, d_NoRule_init, d_NoEntry_init, d_NoClass_init, d_NoHistory_init, d_BadDeed_init, d_NoPlan_init, d_l_bag, d_l_take, d_l_ranks, d_law]
def ex (K : PySem.W.Frag) : Bool := ((List.range 17).all fun i => xclsB K (Cn K i)) && (binitB K (ga K "ClipError") && (PySem.W.excIn K (ga K "Mixed") veBase "ValueError.__new__" && (((List.range 17).all fun i => (List.range 17).all fun j => decide (PySem.W.kitOne K (.ref (Cn K i)) (.ref (Cn K j)) = some (decide (i = j)))) &&
  (((List.range 17).all fun i => decide (PySem.W.kitOne K (.ref (Cn K i)) (.ref (ga K "ClipError")) = some true)) && ((List.range 17).all fun i => decide (PySem.W.kitOne K (.ref (Cn K i)) (.type "ValueError") = some true))))))
theorem facts_of {K : PySem.W.Frag} {w : World} {h : Heap} {mg : Str → Option Value} (X : K.In h) (G : h.Ns mainGlobals mg) (c : SaysC fa fnd [] ex w K) : Facts K mg := by
  obtain ⟨h1, hx⟩ := ba c.more
  obtain ⟨h2, hx⟩ := ba hx
  obtain ⟨h3, hx⟩ := ba hx
  obtain ⟨h4, hx⟩ := ba hx
  obtain ⟨h5, h6⟩ := ba hx
  exact {
    g_BadAlphabet := glo_ok X G (c.t.d.fact 0 (f := .glo "BadAlphabet") rfl),
    g_BadDeed := glo_ok X G (c.t.d.fact 1 (f := .glo "BadDeed") rfl),
    g_BadLimit := glo_ok X G (c.t.d.fact 2 (f := .glo "BadLimit") rfl),
    g_BadLot := glo_ok X G (c.t.d.fact 3 (f := .glo "BadLot") rfl),
    g_BadRule := glo_ok X G (c.t.d.fact 4 (f := .glo "BadRule") rfl),
    g_BadShape := glo_ok X G (c.t.d.fact 5 (f := .glo "BadShape") rfl),
    g_BadStage := glo_ok X G (c.t.d.fact 6 (f := .glo "BadStage") rfl),
    g_BadTable := glo_ok X G (c.t.d.fact 7 (f := .glo "BadTable") rfl),
    g_BadWord := glo_ok X G (c.t.d.fact 8 (f := .glo "BadWord") rfl),
    g_ClipError := glo_ok X G (c.t.d.fact 9 (f := .glo "ClipError") rfl),
    g_Mixed := glo_ok X G (c.t.d.fact 10 (f := .glo "Mixed") rfl),
    g_NoClass := glo_ok X G (c.t.d.fact 11 (f := .glo "NoClass") rfl),
    g_NoEntry := glo_ok X G (c.t.d.fact 12 (f := .glo "NoEntry") rfl),
    g_NoHistory := glo_ok X G (c.t.d.fact 13 (f := .glo "NoHistory") rfl),
    g_NoPlan := glo_ok X G (c.t.d.fact 14 (f := .glo "NoPlan") rfl),
    g_NoRule := glo_ok X G (c.t.d.fact 15 (f := .glo "NoRule") rfl),
    g_OutsideStock := glo_ok X G (c.t.d.fact 16 (f := .glo "OutsideStock") rfl),
    g_TooMany := glo_ok X G (c.t.d.fact 17 (f := .glo "TooMany") rfl),
    g__law_bag := glo_ok X G (c.t.d.fact 18 (f := .glo "_law_bag") rfl),
    g__law_ranks := glo_ok X G (c.t.d.fact 19 (f := .glo "_law_ranks") rfl),
    g__law_take := glo_ok X G (c.t.d.fact 20 (f := .glo "_law_take") rfl),
    g_law := glo_ok X G (c.t.d.fact 21 (f := .glo "law") rfl),
    n_ValueError := free_ok X G (c.t.d.fact 22 (f := .free "ValueError") rfl),
    n_int := free_ok X G (c.t.d.fact 23 (f := .free "int") rfl),
    n_isinstance := free_ok X G (c.t.d.fact 24 (f := .free "isinstance") rfl),
    n_len := free_ok X G (c.t.d.fact 25 (f := .free "len") rfl),
    n_list := free_ok X G (c.t.d.fact 26 (f := .free "list") rfl),
    n_range := free_ok X G (c.t.d.fact 27 (f := .free "range") rfl),
    i_BadAlphabet := eqO_ok (ba (c.t.d.fact 28 (f := .meth "BadAlphabet" "__init__") rfl)).1,
    ti_BadAlphabet := beq_iff_eq.mp (ba (ba (c.t.d.fact 28 (f := .meth "BadAlphabet" "__init__") rfl)).2).1,
    i_BadWord := eqO_ok (ba (c.t.d.fact 29 (f := .meth "BadWord" "__init__") rfl)).1,
    ti_BadWord := beq_iff_eq.mp (ba (ba (c.t.d.fact 29 (f := .meth "BadWord" "__init__") rfl)).2).1,
    i_BadStage := eqO_ok (ba (c.t.d.fact 30 (f := .meth "BadStage" "__init__") rfl)).1,
    ti_BadStage := beq_iff_eq.mp (ba (ba (c.t.d.fact 30 (f := .meth "BadStage" "__init__") rfl)).2).1,
    i_BadRule := eqO_ok (ba (c.t.d.fact 31 (f := .meth "BadRule" "__init__") rfl)).1,
    ti_BadRule := beq_iff_eq.mp (ba (ba (c.t.d.fact 31 (f := .meth "BadRule" "__init__") rfl)).2).1,
    i_BadShape := eqO_ok (ba (c.t.d.fact 32 (f := .meth "BadShape" "__init__") rfl)).1,
    ti_BadShape := beq_iff_eq.mp (ba (ba (c.t.d.fact 32 (f := .meth "BadShape" "__init__") rfl)).2).1,
    i_BadTable := eqO_ok (ba (c.t.d.fact 33 (f := .meth "BadTable" "__init__") rfl)).1,
    ti_BadTable := beq_iff_eq.mp (ba (ba (c.t.d.fact 33 (f := .meth "BadTable" "__init__") rfl)).2).1,
    i_BadLot := eqO_ok (ba (c.t.d.fact 34 (f := .meth "BadLot" "__init__") rfl)).1,
    ti_BadLot := beq_iff_eq.mp (ba (ba (c.t.d.fact 34 (f := .meth "BadLot" "__init__") rfl)).2).1,
    i_BadLimit := eqO_ok (ba (c.t.d.fact 35 (f := .meth "BadLimit" "__init__") rfl)).1,
    ti_BadLimit := beq_iff_eq.mp (ba (ba (c.t.d.fact 35 (f := .meth "BadLimit" "__init__") rfl)).2).1,
    i_TooMany := eqO_ok (ba (c.t.d.fact 36 (f := .meth "TooMany" "__init__") rfl)).1,
    ti_TooMany := beq_iff_eq.mp (ba (ba (c.t.d.fact 36 (f := .meth "TooMany" "__init__") rfl)).2).1,
    i_OutsideStock := eqO_ok (ba (c.t.d.fact 37 (f := .meth "OutsideStock" "__init__") rfl)).1,
    ti_OutsideStock := beq_iff_eq.mp (ba (ba (c.t.d.fact 37 (f := .meth "OutsideStock" "__init__") rfl)).2).1,
    i_NoRule := eqO_ok (ba (c.t.d.fact 38 (f := .meth "NoRule" "__init__") rfl)).1,
    ti_NoRule := beq_iff_eq.mp (ba (ba (c.t.d.fact 38 (f := .meth "NoRule" "__init__") rfl)).2).1,
    i_NoEntry := eqO_ok (ba (c.t.d.fact 39 (f := .meth "NoEntry" "__init__") rfl)).1,
    ti_NoEntry := beq_iff_eq.mp (ba (ba (c.t.d.fact 39 (f := .meth "NoEntry" "__init__") rfl)).2).1,
    i_NoClass := eqO_ok (ba (c.t.d.fact 40 (f := .meth "NoClass" "__init__") rfl)).1,
    ti_NoClass := beq_iff_eq.mp (ba (ba (c.t.d.fact 40 (f := .meth "NoClass" "__init__") rfl)).2).1,
    i_NoHistory := eqO_ok (ba (c.t.d.fact 41 (f := .meth "NoHistory" "__init__") rfl)).1,
    ti_NoHistory := beq_iff_eq.mp (ba (ba (c.t.d.fact 41 (f := .meth "NoHistory" "__init__") rfl)).2).1,
    i_BadDeed := eqO_ok (ba (c.t.d.fact 42 (f := .meth "BadDeed" "__init__") rfl)).1,
    ti_BadDeed := beq_iff_eq.mp (ba (ba (c.t.d.fact 42 (f := .meth "BadDeed" "__init__") rfl)).2).1,
    i_NoPlan := eqO_ok (ba (c.t.d.fact 43 (f := .meth "NoPlan" "__init__") rfl)).1,
    ti_NoPlan := beq_iff_eq.mp (ba (ba (c.t.d.fact 43 (f := .meth "NoPlan" "__init__") rfl)).2).1,
    no_BadAlphabet_part := eqO_ok (c.t.d.fact 44 (f := .noat "BadAlphabet" "part") rfl),
    no_BadWord_word := eqO_ok (c.t.d.fact 45 (f := .noat "BadWord" "word") rfl),
    no_BadStage_what := eqO_ok (c.t.d.fact 46 (f := .noat "BadStage" "what") rfl),
    no_BadRule_stage := eqO_ok (c.t.d.fact 47 (f := .noat "BadRule" "stage") rfl),
    no_BadRule_what := eqO_ok (c.t.d.fact 48 (f := .noat "BadRule" "what") rfl),
    no_BadShape_place := eqO_ok (c.t.d.fact 49 (f := .noat "BadShape" "place") rfl),
    no_BadTable_place := eqO_ok (c.t.d.fact 50 (f := .noat "BadTable" "place") rfl),
    no_BadLot_number := eqO_ok (c.t.d.fact 51 (f := .noat "BadLot" "number") rfl),
    no_BadLimit_asked := eqO_ok (c.t.d.fact 52 (f := .noat "BadLimit" "asked") rfl),
    no_TooMany_number := eqO_ok (c.t.d.fact 53 (f := .noat "TooMany" "number") rfl),
    no_OutsideStock_word := eqO_ok (c.t.d.fact 54 (f := .noat "OutsideStock" "word") rfl),
    no_NoRule_fewest := eqO_ok (c.t.d.fact 55 (f := .noat "NoRule" "fewest") rfl),
    no_NoEntry_number := eqO_ok (c.t.d.fact 56 (f := .noat "NoEntry" "number") rfl),
    no_NoClass_number := eqO_ok (c.t.d.fact 57 (f := .noat "NoClass" "number") rfl),
    no_NoHistory_way := eqO_ok (c.t.d.fact 58 (f := .noat "NoHistory" "way") rfl),
    no_BadDeed_index := eqO_ok (c.t.d.fact 59 (f := .noat "BadDeed" "index") rfl),
    no_NoPlan_one := eqO_ok (c.t.d.fact 60 (f := .noat "NoPlan" "one") rfl),
    no_NoPlan_two := eqO_ok (c.t.d.fact 61 (f := .noat "NoPlan" "two") rfl),
    F_BadAlphabet_init := fn_at (c.t.d.def_ 0 (d := d_BadAlphabet_init) rfl),
    F_BadWord_init := fn_at (c.t.d.def_ 1 (d := d_BadWord_init) rfl),
    F_BadStage_init := fn_at (c.t.d.def_ 2 (d := d_BadStage_init) rfl),
    F_BadRule_init := fn_at (c.t.d.def_ 3 (d := d_BadRule_init) rfl),
    F_BadShape_init := fn_at (c.t.d.def_ 4 (d := d_BadShape_init) rfl),
    F_BadTable_init := fn_at (c.t.d.def_ 5 (d := d_BadTable_init) rfl),
    F_BadLot_init := fn_at (c.t.d.def_ 6 (d := d_BadLot_init) rfl),
    F_BadLimit_init := fn_at (c.t.d.def_ 7 (d := d_BadLimit_init) rfl),
    F_TooMany_init := fn_at (c.t.d.def_ 8 (d := d_TooMany_init) rfl),
    F_OutsideStock_init := fn_at (c.t.d.def_ 9 (d := d_OutsideStock_init) rfl),
    F_NoRule_init := fn_at (c.t.d.def_ 10 (d := d_NoRule_init) rfl),
    F_NoEntry_init := fn_at (c.t.d.def_ 11 (d := d_NoEntry_init) rfl),
    F_NoClass_init := fn_at (c.t.d.def_ 12 (d := d_NoClass_init) rfl),
    F_NoHistory_init := fn_at (c.t.d.def_ 13 (d := d_NoHistory_init) rfl),
    F_BadDeed_init := fn_at (c.t.d.def_ 14 (d := d_BadDeed_init) rfl),
    F_NoPlan_init := fn_at (c.t.d.def_ 15 (d := d_NoPlan_init) rfl),
    F_l_bag := fn_at (c.t.d.def_ 16 (d := d_l_bag) rfl),
    F_l_take := fn_at (c.t.d.def_ 17 (d := d_l_take) rfl),
    F_l_ranks := fn_at (c.t.d.def_ 18 (d := d_l_ranks) rfl),
    F_law := fn_at (c.t.d.def_ 19 (d := d_law) rfl),
    xc := fun i hi => xclsB_ok (List.all_eq_true.mp h1 i (List.mem_range.mpr hi)),
    bi := binitB_ok h2,
    e_Mixed := h3,
    kit := fun i hi j hj => of_decide_eq_true (List.all_eq_true.mp (List.all_eq_true.mp h4 i (List.mem_range.mpr hi)) j (List.mem_range.mpr hj)),
    kitC := fun i hi => of_decide_eq_true (List.all_eq_true.mp h5 i (List.mem_range.mpr hi)),
    kitV := fun i hi => of_decide_eq_true (List.all_eq_true.mp h6 i (List.mem_range.mpr hi)) }
end Cl
namespace Cl
open PySem PySem.Spec PyProof.Rows L2 He
local macro_rules | `(tactic| walk_at "zs") => `(tactic| repeat (first
  | with_reducible refine s_seq ?_
  | with_reducible refine s_asg ?_
  | with_reducible refine s_if ?_
  | with_reducible refine s_var (by with_unfolding_all exact rfl) ?_
  | with_reducible refine s_c ?_
  | with_reducible refine s_op ?_
  | with_reducible refine s_cons ?_
  | with_reducible refine s_nil ?_
  | with_reducible refine s_cb ?_
  | with_reducible refine s_call ?_
  | with_reducible refine s_ret ?_
  | with_reducible refine s_test ?_
  | with_reducible refine s_bl ?_
  | with_reducible refine s_not ?_
  | with_reducible refine s_name ?_
  | with_reducible refine s_sub ?_
  | with_reducible refine s_sl ?_
  | with_reducible refine s_part ?_
  | with_reducible refine s_nopart ?_
  | with_reducible refine s_int ?_
  | with_reducible refine s_drop ?_
  | with_reducible refine s_lst ?_
  | with_reducible refine s_tup ?_
  | with_reducible refine s_bm ?_
  | with_reducible refine s_next ?_
  | with_reducible refine s_xfv ?_
  | with_reducible refine s_tru ?_
  | with_reducible refine s_yes ?_
  | with_reducible refine iteT ?_
  | with_reducible refine iteF ?_
  | with_reducible refine s_or ?_
  | with_reducible refine s_and ?_
  | with_reducible refine s_addI ?_
  | with_reducible refine s_subI ?_
  | with_reducible refine s_ltI ?_
  | with_reducible refine s_leI ?_
  | with_reducible refine s_gtI ?_
  | with_reducible refine s_geI ?_
  | with_reducible refine s_intc ?_
  | with_reducible refine s_eq (by with_unfolding_all exact rfl) ?_
  | with_reducible refine s_ne (by with_unfolding_all exact rfl) ?_))
local macro_rules | `(tactic| walk_at "xf") => `(tactic| first | assumption | (refine XF.same (H := _) ?_ (by assumption); walk_at "xf"))
local macro_rules | `(tactic| walk_at "xa") => `(tactic| first | assumption | (refine XAt.same (H := _) ?_ (by assumption); walk_at "xa"))
local macro_rules | `(tactic| walk_at "sm") => `(tactic| first | exact Same.refl _ | assumption | (refine Same.trans (H1 := _) ?_ (by assumption); walk_at "sm"))
variable {K : PySem.W.Frag} {mg : Str → Option Value}
theorem len_l_ranks (vs : List V) (H : Hp) (Q : VK) (E : XK) (h : sp_l_ranks K vs H Q E) : vs.length = 1 := by
  obtain ⟨a, ns, rfl, _⟩ := h
  rfl
theorem len_law (vs : List V) (H : Hp) (Q : VK) (E : XK) (h : sp_law K vs H Q E) : vs.length = 1 := by
  obtain ⟨a, ns, rfl, _⟩ := h
  rfl
theorem pure_l_ranks (T : Facts K mg) (vs : List V) (H : Hp) (Q : VK) (E : XK) (h : sp_l_ranks K vs H Q E) : t_l_ranks K { nx := fun _ H' => Q .non H', rt := Q } (start N_l_ranks vs) H := by
  obtain ⟨a, i, rfl, hi, hX, k⟩ := h
  show t_l_ranks K _ [some (.ref a), none] H
  unfold t_l_ranks
  have is : ∀ (j : Nat) (H' : Hp) (Q' : VK), j < 17 → Same H H' → Q' (.bl (decide (i = j))) H' → zIsi K [.ref a, .ref (Cn K j)] H' Q' := fun j H' Q' hj s q =>
    Or.inl ⟨a, Cn K i, _, _, _, rfl, .own _, T.xc i hi, hX.same s, T.kit i hi j hj, q⟩
  walk_at "zs"
  refine is 0 H _ (by decide) (Same.refl _) ?_
  walk_at "zs"
  refine is 1 H _ (by decide) (Same.refl _) ?_
  walk_at "zs"
  refine is 2 H _ (by decide) (Same.refl _) ?_
  walk_at "zs"
  refine is 3 H _ (by decide) (Same.refl _) ?_
  walk_at "zs"
  refine ⟨by show 4 ≤ sizeLine; decide, fun p1 hp1 => ?_⟩
  have s1 : Same H (upd H p1 (.lst [.bl (decide (i = 0)), .bl (decide (i = 1)), .bl (decide (i = 2)), .bl (decide (i = 3))])) := same_upd hp1
  walk_at "zs"
  refine is 4 _ _ (by decide) s1 ?_
  walk_at "zs"
  refine is 5 _ _ (by decide) s1 ?_
  walk_at "zs"
  refine is 6 _ _ (by decide) s1 ?_
  walk_at "zs"
  refine is 7 _ _ (by decide) s1 ?_
  walk_at "zs"
  refine ⟨by show 4 ≤ sizeLine; decide, fun p2 hp2 => ?_⟩
  refine ⟨_, _, upd_old hp2 upd_same, upd_same, by show 8 ≤ sizeLine; decide, fun p3 hp3 => ?_⟩
  have s3 := (s1.trans (same_upd (o := .lst [.bl (decide (i = 4)), .bl (decide (i = 5)), .bl (decide (i = 6)), .bl (decide (i = 7))]) hp2)).trans (same_upd (o := .lst ([.bl (decide (i = 0)), .bl (decide (i = 1)), .bl (decide (i = 2)), .bl (decide (i = 3))] ++ [.bl (decide (i = 4)), .bl (decide (i = 5)), .bl (decide (i = 6)), .bl (decide (i = 7))])) hp3)
  have l3 := upd_same (H := upd (upd H p1 (.lst [.bl (decide (i = 0)), .bl (decide (i = 1)), .bl (decide (i = 2)), .bl (decide (i = 3))])) p2 (.lst [.bl (decide (i = 4)), .bl (decide (i = 5)), .bl (decide (i = 6)), .bl (decide (i = 7))])) (a := p3) (o := .lst ([.bl (decide (i = 0)), .bl (decide (i = 1)), .bl (decide (i = 2)), .bl (decide (i = 3))] ++ [.bl (decide (i = 4)), .bl (decide (i = 5)), .bl (decide (i = 6)), .bl (decide (i = 7))]))
  revert s3 l3
  generalize upd _ p3 _ = H3
  intro s3 l3
  walk_at "zs"
  refine is 8 _ _ (by decide) s3 ?_
  walk_at "zs"
  refine is 9 _ _ (by decide) s3 ?_
  walk_at "zs"
  refine is 10 _ _ (by decide) s3 ?_
  walk_at "zs"
  refine ⟨by show 3 ≤ sizeLine; decide, fun p4 hp4 => ?_⟩
  refine ⟨_, _, upd_old hp4 l3, upd_same, by show 11 ≤ sizeLine; decide, fun p5 hp5 => ?_⟩
  have s5 := (s3.trans (same_upd (o := .lst [.bl (decide (i = 8)), .bl (decide (i = 9)), .bl (decide (i = 10))]) hp4)).trans (same_upd (o := .lst (([.bl (decide (i = 0)), .bl (decide (i = 1)), .bl (decide (i = 2)), .bl (decide (i = 3))] ++ [.bl (decide (i = 4)), .bl (decide (i = 5)), .bl (decide (i = 6)), .bl (decide (i = 7))]) ++ [.bl (decide (i = 8)), .bl (decide (i = 9)), .bl (decide (i = 10))])) hp5)
  have l5 := upd_same (H := upd H3 p4 (.lst [.bl (decide (i = 8)), .bl (decide (i = 9)), .bl (decide (i = 10))])) (a := p5) (o := .lst (([.bl (decide (i = 0)), .bl (decide (i = 1)), .bl (decide (i = 2)), .bl (decide (i = 3))] ++ [.bl (decide (i = 4)), .bl (decide (i = 5)), .bl (decide (i = 6)), .bl (decide (i = 7))]) ++ [.bl (decide (i = 8)), .bl (decide (i = 9)), .bl (decide (i = 10))]))
  revert s5 l5
  generalize upd _ p5 _ = H5
  intro s5 l5
  walk_at "zs"
  refine is 11 _ _ (by decide) s5 ?_
  walk_at "zs"
  refine is 12 _ _ (by decide) s5 ?_
  walk_at "zs"
  refine is 13 _ _ (by decide) s5 ?_
  walk_at "zs"
  refine is 14 _ _ (by decide) s5 ?_
  walk_at "zs"
  refine ⟨by show 4 ≤ sizeLine; decide, fun p6 hp6 => ?_⟩
  refine ⟨_, _, upd_old hp6 l5, upd_same, by show 15 ≤ sizeLine; decide, fun p7 hp7 => ?_⟩
  have s7 := (s5.trans (same_upd (o := .lst [.bl (decide (i = 11)), .bl (decide (i = 12)), .bl (decide (i = 13)), .bl (decide (i = 14))]) hp6)).trans (same_upd (o := .lst ((([.bl (decide (i = 0)), .bl (decide (i = 1)), .bl (decide (i = 2)), .bl (decide (i = 3))] ++ [.bl (decide (i = 4)), .bl (decide (i = 5)), .bl (decide (i = 6)), .bl (decide (i = 7))]) ++ [.bl (decide (i = 8)), .bl (decide (i = 9)), .bl (decide (i = 10))]) ++ [.bl (decide (i = 11)), .bl (decide (i = 12)), .bl (decide (i = 13)), .bl (decide (i = 14))])) hp7)
  have l7 := upd_same (H := upd H5 p6 (.lst [.bl (decide (i = 11)), .bl (decide (i = 12)), .bl (decide (i = 13)), .bl (decide (i = 14))])) (a := p7) (o := .lst ((([.bl (decide (i = 0)), .bl (decide (i = 1)), .bl (decide (i = 2)), .bl (decide (i = 3))] ++ [.bl (decide (i = 4)), .bl (decide (i = 5)), .bl (decide (i = 6)), .bl (decide (i = 7))]) ++ [.bl (decide (i = 8)), .bl (decide (i = 9)), .bl (decide (i = 10))]) ++ [.bl (decide (i = 11)), .bl (decide (i = 12)), .bl (decide (i = 13)), .bl (decide (i = 14))]))
  revert s7 l7
  generalize upd _ p7 _ = H7
  intro s7 l7
  walk_at "zs"
  refine is 15 _ _ (by decide) s7 ?_
  walk_at "zs"
  refine is 16 _ _ (by decide) s7 ?_
  walk_at "zs"
  refine ⟨by show 2 ≤ sizeLine; decide, fun p8 hp8 => ?_⟩
  refine ⟨_, _, upd_old hp8 l7, upd_same, by show 17 ≤ sizeLine; decide, fun p9 hp9 => ?_⟩
  exact k p9 _ ((s7.trans (same_upd hp8)).trans (same_upd hp9)) upd_same
theorem pure_law (T : Facts K mg) (vs : List V) (H : Hp) (Q : VK) (E : XK) (h : sp_law K vs H Q E) : t_law K { nx := fun _ H' => Q .non H', rt := Q } (start N_law vs) H := by
  obtain ⟨a, ns, rfl, hS, hl, k⟩ := h
  show t_law K _ [some (.ref a), none, none, none, none, none, none, none, none, none] H
  unfold t_law
  walk_at "zs"
  refine ⟨a, ns, rfl, hS, fun b Hb bag sb nb => ?_⟩
  walk_at "zs"
  refine ⟨⟨by decide, by decide, by decide⟩, ?_⟩
  walk_at "zs"
  refine ⟨b, _, rfl, bag, by decide, by decide, fun r1 Hb1 _ _ b1 => ?_⟩
  walk_at "zs"
  refine ⟨⟨by decide, by decide, by decide⟩, ?_⟩
  walk_at "zs"
  refine ⟨⟨by decide, by decide, by decide⟩, ?_⟩
  walk_at "zs"
  refine ⟨b, _, rfl, b1.bag, by decide, by decide, fun oth Hb2 _ _ b2 => ?_⟩
  generalize r1 - 10 ^ (5 : Int).toNat = num
  walk_at "zs"
  refine ⟨b, _, rfl, b2.bag, by decide, by decide, fun r3 Hb3 l3 u3 b3 => ?_⟩
  refine ⟨l3, by omega, by show 1 ≤ 100; decide, ?_⟩
  walk_at "zs"
  refine ⟨b, _, rfl, b3.bag, by decide, by decide, fun r4 Hb4 l4 u4 b4 => ?_⟩
  walk_at "zs"
  refine ⟨by show 6 ≤ sizeLine; decide, ?_⟩
  have ht : asc (rep [45] r3.toNat ++ cut [97, 98, 32, 99, 48, 65] none (some r4)) := asc_app (asc_rep (by decide)) (asc_cut (by decide))
  have hsz : (rep [45] r3.toNat).length + (cut [97, 98, 32, 99, 48, 65] none (some r4)).length ≤ sizeLine := by
    have h1 := rep_len [45] r3.toNat
    have h2 := cut_len [97, 98, 32, 99, 48, 65] none (some r4)
    have h3 := sizeLine_eq
    simp only [List.length_cons, List.length_nil] at h1 h2
    omega
  refine s_addS hsz ?_
  revert ht
  generalize rep [45] r3.toNat ++ cut [97, 98, 32, 99, 48, 65] none (some r4) = txt
  intro ht
  clear hsz
  walk_at "zs"
  refine s_mkv1 rfl fun a0 H0 n0 s0 x0 => ?_
  walk_at "zs"
  refine s_mkv1 rfl fun a1 H1 n1 s1 x1 => ?_
  walk_at "zs"
  refine s_mkv1 rfl fun a2 H2 n2 s2 x2 => ?_
  walk_at "zs"
  refine s_mkv2 rfl rfl fun a3 H3 n3 s3 x3 => ?_
  walk_at "zs"
  refine s_mkv1 rfl fun a4 H4 n4 s4 x4 => ?_
  walk_at "zs"
  refine ⟨by show 5 ≤ sizeLine; decide, fun p1 hp1 => ?_⟩
  have t1 := same_upd (o := .lst [.ref a0, .ref a1, .ref a2, .ref a3, .ref a4]) hp1
  have m1 := upd_same (H := H4) (a := p1) (o := .lst [.ref a0, .ref a1, .ref a2, .ref a3, .ref a4])
  revert t1 m1
  generalize upd H4 p1 _ = G1
  intro t1 m1
  walk_at "zs"
  refine s_mkv1 rfl fun a5 H5 n5 s5 x5 => ?_
  walk_at "zs"
  refine fun a6 n6 => ?_
  have s6 := same_upd (o := ExO (.ref (ga K "Mixed")) a6) n6
  have x6 := upd_same (H := H5) (a := a6) (o := ExO (.ref (ga K "Mixed")) a6)
  revert s6 x6
  generalize upd H5 a6 _ = H6
  intro s6 x6
  have x6 : XAt H6 a6 (ga K "Mixed") := Or.inl x6
  walk_at "zs"
  refine s_mkv1 rfl fun a7 H7 n7 s7 x7 => ?_
  walk_at "zs"
  refine s_mkv1 rfl fun a8 H8 n8 s8 x8 => ?_
  walk_at "zs"
  refine s_mkv1 rfl fun a9 H9 n9 s9 x9 => ?_
  walk_at "zs"
  refine s_mkv1 rfl fun a10 H10 n10 s10 x10 => ?_
  walk_at "zs"
  refine ⟨by show 6 ≤ sizeLine; decide, fun p2 hp2 => ?_⟩
  have m1' : H10 p1 = some (.lst [.ref a0, .ref a1, .ref a2, .ref a3, .ref a4]) := s10 _ _ (s9 _ _ (s8 _ _ (s7 _ _ (s6 _ _ (s5 _ _ m1)))))
  refine ⟨_, _, upd_old hp2 m1', upd_same, by show 11 ≤ sizeLine; decide, fun p3 hp3 => ?_⟩
  have t3 := (same_upd (o := .lst [.ref a5, .ref a6, .ref a7, .ref a8, .ref a9, .ref a10]) hp2).trans (same_upd (o := .lst ([.ref a0, .ref a1, .ref a2, .ref a3, .ref a4] ++ [.ref a5, .ref a6, .ref a7, .ref a8, .ref a9, .ref a10])) hp3)
  have m3 := upd_same (H := upd H10 p2 (.lst [.ref a5, .ref a6, .ref a7, .ref a8, .ref a9, .ref a10])) (a := p3) (o := .lst ([.ref a0, .ref a1, .ref a2, .ref a3, .ref a4] ++ [.ref a5, .ref a6, .ref a7, .ref a8, .ref a9, .ref a10]))
  revert t3 m3
  generalize upd _ p3 _ = G3
  intro t3 m3
  walk_at "zs"
  refine s_mkv1 rfl fun a11 H11 n11 s11 x11 => ?_
  walk_at "zs"
  refine s_mkv1 rfl fun a12 H12 n12 s12 x12 => ?_
  walk_at "zs"
  refine s_mkv1 rfl fun a13 H13 n13 s13 x13 => ?_
  walk_at "zs"
  refine s_mkv1 rfl fun a14 H14 n14 s14 x14 => ?_
  walk_at "zs"
  refine s_mkv1 rfl fun a15 H15 n15 s15 x15 => ?_
  walk_at "zs"
  refine ⟨by show 5 ≤ sizeLine; decide, fun p4 hp4 => ?_⟩
  have m3' : H15 p3 = some (.lst ([.ref a0, .ref a1, .ref a2, .ref a3, .ref a4] ++ [.ref a5, .ref a6, .ref a7, .ref a8, .ref a9, .ref a10])) := s15 _ _ (s14 _ _ (s13 _ _ (s12 _ _ (s11 _ _ m3))))
  refine ⟨_, _, upd_old hp4 m3', upd_same, by show 16 ≤ sizeLine; decide, fun m hm => ?_⟩
  have t5 := (same_upd (o := .lst [.ref a11, .ref a12, .ref a13, .ref a14, .ref a15]) hp4).trans (same_upd (o := .lst (([.ref a0, .ref a1, .ref a2, .ref a3, .ref a4] ++ [.ref a5, .ref a6, .ref a7, .ref a8, .ref a9, .ref a10]) ++ [.ref a11, .ref a12, .ref a13, .ref a14, .ref a15])) hm)
  have nm : H15 m = none := (fresh_upd hm).1
  have m5 := upd_same (H := upd H15 p4 (.lst [.ref a11, .ref a12, .ref a13, .ref a14, .ref a15])) (a := m) (o := .lst (([.ref a0, .ref a1, .ref a2, .ref a3, .ref a4] ++ [.ref a5, .ref a6, .ref a7, .ref a8, .ref a9, .ref a10]) ++ [.ref a11, .ref a12, .ref a13, .ref a14, .ref a15]))
  revert t5 m5
  generalize upd _ m _ = G5
  intro t5 m5
  walk_at "zs"
  refine ⟨Or.inl ⟨rfl, _, Or.inl (Or.inl m5)⟩, ?_⟩
  walk_at "zs"
  refine s_mkv2 rfl rfl fun a16 H16 n16 s16 x16 => ?_
  walk_at "zs"
  refine ⟨_, s16 _ _ m5, by show 16 < sizeLine; decide, ?_⟩
  -- the heap behind the append
  have ap : ∀ {c : Addr} {o : HO}, H15 c = some o → (upd H16 m (.lst ((([.ref a0, .ref a1, .ref a2, .ref a3, .ref a4] ++ [.ref a5, .ref a6, .ref a7, .ref a8, .ref a9, .ref a10]) ++ [.ref a11, .ref a12, .ref a13, .ref a14, .ref a15]) ++ [.ref a16]))) c = some o := fun e =>
    upd_far (ne_of_none e nm) (s16 _ _ (t5 _ _ e))
  have x16' : XF (upd H16 m (.lst ((([.ref a0, .ref a1, .ref a2, .ref a3, .ref a4] ++ [.ref a5, .ref a6, .ref a7, .ref a8, .ref a9, .ref a10]) ++ [.ref a11, .ref a12, .ref a13, .ref a14, .ref a15]) ++ [.ref a16]))) a16 (ga K "NoPlan") [("two", .int oth), ("one", .int num)] := by
    obtain ⟨d, h1, h2⟩ := x16
    have hm16 := s16 _ _ m5
    refine ⟨d, upd_far (fun e => ?_) h1, upd_far (fun e => ?_) h2⟩
    · rw [e, hm16] at h1
      cases h1
    · rw [e, hm16] at h2
      cases h2
  have mf := upd_same (H := H16) (a := m) (o := .lst ((([.ref a0, .ref a1, .ref a2, .ref a3, .ref a4] ++ [.ref a5, .ref a6, .ref a7, .ref a8, .ref a9, .ref a10]) ++ [.ref a11, .ref a12, .ref a13, .ref a14, .ref a15]) ++ [.ref a16]))
  revert ap x16' mf
  generalize upd H16 m _ = Hf
  intro ap x16' mf
  have sf : Same H15 Hf := fun c o e => ap e
  clear ap x16 s16 t5 m5
  have y0 : XF Hf a0 (ga K "BadAlphabet") [("part", sv txt)] := by walk_at "xf"
  have y1 : XF Hf a1 (ga K "BadWord") [("word", sv txt)] := by walk_at "xf"
  have y2 : XF Hf a2 (ga K "BadStage") [("what", sv txt)] := by walk_at "xf"
  have y3 : XF Hf a3 (ga K "BadRule") [("what", sv txt), ("stage", .int num)] := by walk_at "xf"
  have y4 : XF Hf a4 (ga K "BadShape") [("place", .int num)] := by walk_at "xf"
  have y5 : XF Hf a5 (ga K "BadTable") [("place", .int num)] := by walk_at "xf"
  have y6 : XAt Hf a6 (ga K "Mixed") := by walk_at "xa"
  have y7 : XF Hf a7 (ga K "BadLot") [("number", .int num)] := by walk_at "xf"
  have y8 : XF Hf a8 (ga K "BadLimit") [("asked", .int num)] := by walk_at "xf"
  have y9 : XF Hf a9 (ga K "TooMany") [("number", .int num)] := by walk_at "xf"
  have y10 : XF Hf a10 (ga K "OutsideStock") [("word", sv txt)] := by walk_at "xf"
  have y11 : XF Hf a11 (ga K "NoRule") [("fewest", .int num)] := by walk_at "xf"
  have y12 : XF Hf a12 (ga K "NoEntry") [("number", .int num)] := by walk_at "xf"
  have y13 : XF Hf a13 (ga K "NoClass") [("number", .int num)] := by walk_at "xf"
  have y14 : XF Hf a14 (ga K "NoHistory") [("way", sv txt)] := by walk_at "xf"
  have y15 : XF Hf a15 (ga K "BadDeed") [("index", .int num)] := by walk_at "xf"
  clear x0 x1 x2 x3 x4 x5 x6 x7 x8 x9 x10 x11 x12 x13 x14 x15
  have hx : ∀ i, i < 17 → ∃ ai, ([a0, a1, a2, a3, a4, a5, a6, a7, a8, a9, a10, a11, a12, a13, a14, a15, a16] : List Addr)[i]? = some ai ∧ XAt Hf ai (Cn K i) := by
    intro i hi
    match i, hi with
    | 0, _ => exact ⟨_, rfl, y0.at⟩
    | 1, _ => exact ⟨_, rfl, y1.at⟩
    | 2, _ => exact ⟨_, rfl, y2.at⟩
    | 3, _ => exact ⟨_, rfl, y3.at⟩
    | 4, _ => exact ⟨_, rfl, y4.at⟩
    | 5, _ => exact ⟨_, rfl, y5.at⟩
    | 6, _ => exact ⟨_, rfl, y6⟩
    | 7, _ => exact ⟨_, rfl, y7.at⟩
    | 8, _ => exact ⟨_, rfl, y8.at⟩
    | 9, _ => exact ⟨_, rfl, y9.at⟩
    | 10, _ => exact ⟨_, rfl, y10.at⟩
    | 11, _ => exact ⟨_, rfl, y11.at⟩
    | 12, _ => exact ⟨_, rfl, y12.at⟩
    | 13, _ => exact ⟨_, rfl, y13.at⟩
    | 14, _ => exact ⟨_, rfl, y14.at⟩
    | 15, _ => exact ⟨_, rfl, y15.at⟩
    | 16, _ => exact ⟨_, rfl, x16'.at⟩
    | n + 17, h => omega
  have mf' : Hf m = some (.lst (([a0, a1, a2, a3, a4, a5, a6, a7, a8, a9, a10, a11, a12, a13, a14, a15, a16] : List Addr).map V.ref)) := mf
  have hfl : flat (sv txt) = true := asc_ok ht
  walk_at "zs"
  refine ⟨17, rfl, by decide, by decide, ?_⟩
  refine for_range (lo := 0) (n := 17) (fun i σ H' => ∃ v6 v7, σ = [some (.ref a), some (.ref b), some (.int num), some (.int oth), some (sv txt), some (.ref m), v6, v7, none, none] ∧ Same Hf H') ⟨none, none, rfl, Same.refl _⟩ ?_ ?_
  · rintro i σ H' hi ⟨v6, v7, rfl, sH⟩
    obtain ⟨ai, hai, hXi⟩ := hx i hi
    have eix : atI (([a0, a1, a2, a3, a4, a5, a6, a7, a8, a9, a10, a11, a12, a13, a14, a15, a16] : List Addr).map V.ref) (0 + (i : Int)) = some (.ref ai) := by
      rw [Int.zero_add]
      exact atI_nat (by rw [List.getElem?_map, hai]; rfl)
    walk_at "zs"
    refine s_ixL (sH _ _ mf') eix ?_
    walk_at "zs"
    refine ⟨ai, i, rfl, hi, hXi.same sH, fun p H1 s1 l1 => ?_⟩
    refine ⟨17, rfl, by decide, by decide, fun D hD => ?_⟩
    refine lc_range (lo := 0) (n := 17) (fun j Hj => (∀ c o, c ≠ D → H1 c = some o → Hj c = some o) ∧ Hj D = some (.lst ((List.range j).map fun k => V.bl (decide (i = k))))) ⟨fun c o hc e => upd_far hc e, upd_same⟩ ?_ ?_
    · rintro j Hj hj ⟨kp, lD⟩
      refine ⟨rfl, ?_⟩
      walk_at "zs"
      refine ⟨_, lD, ?_, fun c o hc e => upd_far hc (kp c o hc e), ?_⟩
      · rw [List.length_map, List.length_range, sizeLine_eq]
        omega
      · have e : decide ((0 + (j : Int)) = 0 + (i : Int)) = decide (i = j) := by
          rw [Bool.eq_iff_iff, decide_eq_true_iff, decide_eq_true_iff]
          omega
        rw [upd_same, List.range_succ, List.map_append, e]
        rfl
    · rintro Hj ⟨kp, lD⟩
      have sj : Same H1 Hj := fun c o e => kp c o (ne_of_none e hD) e
      refine s_neSame (sj _ _ l1) lD rfl ?_
      walk_at "zs"
      refine s_ixL (sj _ _ (s1 _ _ (sH _ _ mf'))) eix ?_
      walk_at "zs"
      refine Or.inl ⟨ai, Cn K i, _, _, _, rfl, .own _, T.xc i hi, ((hXi.same sH).same s1).same sj, T.kitC i hi, ?_⟩
      refine ⟨true, rfl, iteF ?_⟩
      walk_at "zs"
      refine s_ixL (sj _ _ (s1 _ _ (sH _ _ mf'))) eix ?_
      walk_at "zs"
      refine Or.inl ⟨ai, Cn K i, _, _, _, rfl, .ty _, T.xc i hi, ((hXi.same sH).same s1).same sj, T.kitV i hi, ?_⟩
      refine ⟨true, rfl, iteF ?_⟩
      exact ⟨_, _, rfl, (sH.trans s1).trans sj⟩
  · rintro σ H' ⟨v6, v7, rfl, sH⟩
    walk_at "zs"
    refine s_ixL (sH _ _ mf') rfl ?_
    refine s_xf (y0.same sH) T.x_BadAlphabet.f T.no_BadAlphabet_part rfl ?_
    walk_at "zs"
    refine s_ixL (sH _ _ mf') rfl ?_
    refine s_xf (y1.same sH) T.x_BadWord.f T.no_BadWord_word rfl ?_
    walk_at "zs"
    refine s_ixL (sH _ _ mf') rfl ?_
    refine s_xf (y2.same sH) T.x_BadStage.f T.no_BadStage_what rfl ?_
    walk_at "zs"
    refine s_ixL (sH _ _ mf') rfl ?_
    refine s_xf (y3.same sH) T.x_BadRule.f T.no_BadRule_stage rfl ?_
    walk_at "zs"
    refine s_ixL (sH _ _ mf') rfl ?_
    refine s_xf (y3.same sH) T.x_BadRule.f T.no_BadRule_what rfl ?_
    walk_at "zs"
    refine s_ixL (sH _ _ mf') rfl ?_
    refine s_xf (y4.same sH) T.x_BadShape.f T.no_BadShape_place rfl ?_
    walk_at "zs"
    refine s_ixL (sH _ _ mf') rfl ?_
    refine s_xf (y5.same sH) T.x_BadTable.f T.no_BadTable_place rfl ?_
    walk_at "zs"
    refine ⟨by show 7 ≤ sizeLine; decide, fun q0 hq0 => ?_⟩
    have w0 := same_upd (o := .lst [sv txt, sv txt, sv txt, .int num, sv txt, .int num, .int num]) hq0
    have c0 := upd_same (H := H') (a := q0) (o := .lst [sv txt, sv txt, sv txt, .int num, sv txt, .int num, .int num])
    revert w0 c0
    generalize upd _ q0 _ = J0
    intro w0 c0
    have z0 := sH.trans w0
    walk_at "zs"
    refine s_ixL (z0 _ _ mf') rfl ?_
    refine s_xf (y7.same z0) T.x_BadLot.f T.no_BadLot_number rfl ?_
    walk_at "zs"
    refine s_ixL (z0 _ _ mf') rfl ?_
    refine s_xf (y8.same z0) T.x_BadLimit.f T.no_BadLimit_asked rfl ?_
    walk_at "zs"
    refine s_ixL (z0 _ _ mf') rfl ?_
    refine s_xf (y9.same z0) T.x_TooMany.f T.no_TooMany_number rfl ?_
    walk_at "zs"
    refine s_ixL (z0 _ _ mf') rfl ?_
    refine s_xf (y10.same z0) T.x_OutsideStock.f T.no_OutsideStock_word rfl ?_
    walk_at "zs"
    refine s_ixL (z0 _ _ mf') rfl ?_
    refine s_xf (y11.same z0) T.x_NoRule.f T.no_NoRule_fewest rfl ?_
    walk_at "zs"
    refine s_ixL (z0 _ _ mf') rfl ?_
    refine s_xf (y12.same z0) T.x_NoEntry.f T.no_NoEntry_number rfl ?_
    walk_at "zs"
    refine ⟨by show 6 ≤ sizeLine; decide, fun q1 hq1 => ?_⟩
    refine ⟨_, _, upd_old hq1 c0, upd_same, by show 13 ≤ sizeLine; decide, fun r1 hr1 => ?_⟩
    have w1 := (same_upd (o := .lst [.int num, .int num, .int num, sv txt, .int num, .int num]) hq1).trans (same_upd (o := .lst ([sv txt, sv txt, sv txt, .int num, sv txt, .int num, .int num] ++ [.int num, .int num, .int num, sv txt, .int num, .int num])) hr1)
    have c1 := upd_same (H := upd J0 q1 (.lst [.int num, .int num, .int num, sv txt, .int num, .int num])) (a := r1) (o := .lst ([sv txt, sv txt, sv txt, .int num, sv txt, .int num, .int num] ++ [.int num, .int num, .int num, sv txt, .int num, .int num]))
    revert w1 c1
    generalize upd _ r1 _ = J1
    intro w1 c1
    have z1 := z0.trans w1
    walk_at "zs"
    refine s_ixL (z1 _ _ mf') rfl ?_
    refine s_xf (y13.same z1) T.x_NoClass.f T.no_NoClass_number rfl ?_
    walk_at "zs"
    refine s_ixL (z1 _ _ mf') rfl ?_
    refine s_xf (y14.same z1) T.x_NoHistory.f T.no_NoHistory_way rfl ?_
    walk_at "zs"
    refine s_ixL (z1 _ _ mf') rfl ?_
    refine s_xf (y15.same z1) T.x_BadDeed.f T.no_BadDeed_index rfl ?_
    walk_at "zs"
    refine s_ixL (z1 _ _ mf') rfl ?_
    refine s_xf (x16'.same z1) T.x_NoPlan.f T.no_NoPlan_one rfl ?_
    walk_at "zs"
    refine s_ixL (z1 _ _ mf') rfl ?_
    refine s_xf (x16'.same z1) T.x_NoPlan.f T.no_NoPlan_two rfl ?_
    walk_at "zs"
    refine ⟨by show 5 ≤ sizeLine; decide, fun q2 hq2 => ?_⟩
    refine ⟨_, _, upd_old hq2 c1, upd_same, by show 18 ≤ sizeLine; decide, fun r2 hr2 => ?_⟩
    have w2 := (same_upd (o := .lst [.int num, sv txt, .int num, .int num, .int oth]) hq2).trans (same_upd (o := .lst (([sv txt, sv txt, sv txt, .int num, sv txt, .int num, .int num] ++ [.int num, .int num, .int num, sv txt, .int num, .int num]) ++ [.int num, sv txt, .int num, .int num, .int oth])) hr2)
    have c2 := upd_same (H := upd J1 q2 (.lst [.int num, sv txt, .int num, .int num, .int oth])) (a := r2) (o := .lst (([sv txt, sv txt, sv txt, .int num, sv txt, .int num, .int num] ++ [.int num, .int num, .int num, sv txt, .int num, .int num]) ++ [.int num, sv txt, .int num, .int num, .int oth]))
    revert w2 c2
    generalize upd _ r2 _ = J2
    intro w2 c2
    have z2 := z1.trans w2
    walk_at "zs"
    refine ⟨by show 14 ≤ sizeLine; decide, fun q3 hq3 => ?_⟩
    have c3 := upd_old (o := .lst [sv txt, sv txt, sv txt, .int num, sv txt, .int num, .int num, .int num, .int num, .int num, sv txt, .int num, .int num, .int num]) hq3 c2
    have d3 := upd_same (H := J2) (a := q3) (o := .lst [sv txt, sv txt, sv txt, .int num, sv txt, .int num, .int num, .int num, .int num, .int num, sv txt, .int num, .int num, .int num])
    revert c3 d3
    generalize upd J2 q3 _ = J3
    intro c3 d3
    walk_at "zs"
    refine ⟨by show 4 ≤ sizeLine; decide, fun q4 hq4 => ?_⟩
    refine ⟨_, _, upd_old hq4 d3, upd_same, by show 18 ≤ sizeLine; decide, fun q5 hq5 => ?_⟩
    refine s_eqSame (xs := [sv txt, sv txt, sv txt, .int num, sv txt, .int num, .int num, .int num, .int num, .int num, sv txt, .int num, .int num, .int num, sv txt, .int num, .int num, .int oth]) (upd_old hq5 (upd_old hq4 c3)) upd_same ?_ (k _)
    simp only [List.all_cons, List.all_nil, hfl]
    rfl
end Cl
namespace Cl
open PySem PySem.Spec PyProof.Rows L2 He
section
variable {P : Program} {w : World} {K : PySem.W.Frag} {mg : Str → Option Value} {base : Heap}
theorem sc_BadAlphabet_init : FnScope N_BadAlphabet_init ["self", "part"] (defScope st_BadAlphabet_init) := ⟨rfl, rfl, rfl, by decide +kernel, rfl, by decide +kernel, by decide +kernel⟩
theorem bi_BadAlphabet_init (T : Facts K mg) : Binds K (fdOf K ("BadAlphabet", some "__init__")) ["self", "part"] [] := T.F_BadAlphabet_init.bindsN fun _ _ _ _ _ _ us hl => match us, hl with | [_, _], _ => rfl
theorem ok_BadAlphabet_init (T : Facts K mg) : FnOk P w K mg base (L2.CX P w) 1 (fAd K ("BadAlphabet", some "__init__")) (fdOf K ("BadAlphabet", some "__init__")) ["self", "part"] (sp_BadAlphabet_init K) := by
  refine T.F_BadAlphabet_init.ok sc_BadAlphabet_init (fun vs H Q E h => len_X1 vs H Q E h) (fun cdv A outer s H vs Q E hr h => ⟨t_BadAlphabet_init K, PSs.nox ?_, pure_X1 T.x_BadAlphabet.o T.no_BadAlphabet_part vs H Q E h⟩)
  exact pss_cons (ps_expr (pe_binit rfl T.g_ClipError T.bi.s T.bi.t T.bi.r T.bi.v (pa_cons (pv 0) (pa_cons (pe_sv (by decide +kernel)) pa_nil)))) (pss_one (ps_ost (pv 0) (pv 1)))
theorem sc_BadWord_init : FnScope N_BadWord_init ["self", "word"] (defScope st_BadWord_init) := ⟨rfl, rfl, rfl, by decide +kernel, rfl, by decide +kernel, by decide +kernel⟩
theorem bi_BadWord_init (T : Facts K mg) : Binds K (fdOf K ("BadWord", some "__init__")) ["self", "word"] [] := T.F_BadWord_init.bindsN fun _ _ _ _ _ _ us hl => match us, hl with | [_, _], _ => rfl
theorem ok_BadWord_init (T : Facts K mg) : FnOk P w K mg base (L2.CX P w) 1 (fAd K ("BadWord", some "__init__")) (fdOf K ("BadWord", some "__init__")) ["self", "word"] (sp_BadWord_init K) := by
  refine T.F_BadWord_init.ok sc_BadWord_init (fun vs H Q E h => len_X1 vs H Q E h) (fun cdv A outer s H vs Q E hr h => ⟨t_BadWord_init K, PSs.nox ?_, pure_X1 T.x_BadWord.o T.no_BadWord_word vs H Q E h⟩)
  exact pss_cons (ps_expr (pe_binit rfl T.g_ClipError T.bi.s T.bi.t T.bi.r T.bi.v (pa_cons (pv 0) (pa_cons (pe_sv (by decide +kernel)) pa_nil)))) (pss_one (ps_ost (pv 0) (pv 1)))
theorem sc_BadStage_init : FnScope N_BadStage_init ["self", "what"] (defScope st_BadStage_init) := ⟨rfl, rfl, rfl, by decide +kernel, rfl, by decide +kernel, by decide +kernel⟩
theorem bi_BadStage_init (T : Facts K mg) : Binds K (fdOf K ("BadStage", some "__init__")) ["self", "what"] [] := T.F_BadStage_init.bindsN fun _ _ _ _ _ _ us hl => match us, hl with | [_, _], _ => rfl
theorem ok_BadStage_init (T : Facts K mg) : FnOk P w K mg base (L2.CX P w) 1 (fAd K ("BadStage", some "__init__")) (fdOf K ("BadStage", some "__init__")) ["self", "what"] (sp_BadStage_init K) := by
  refine T.F_BadStage_init.ok sc_BadStage_init (fun vs H Q E h => len_X1 vs H Q E h) (fun cdv A outer s H vs Q E hr h => ⟨t_BadStage_init K, PSs.nox ?_, pure_X1 T.x_BadStage.o T.no_BadStage_what vs H Q E h⟩)
  exact pss_cons (ps_expr (pe_binit rfl T.g_ClipError T.bi.s T.bi.t T.bi.r T.bi.v (pa_cons (pv 0) (pa_cons (pe_sv (by decide +kernel)) pa_nil)))) (pss_one (ps_ost (pv 0) (pv 1)))
theorem sc_BadRule_init : FnScope N_BadRule_init ["self", "stage", "what"] (defScope st_BadRule_init) := ⟨rfl, rfl, rfl, by decide +kernel, rfl, by decide +kernel, by decide +kernel⟩
theorem bi_BadRule_init (T : Facts K mg) : Binds K (fdOf K ("BadRule", some "__init__")) ["self", "stage", "what"] [] := T.F_BadRule_init.bindsN fun _ _ _ _ _ _ us hl => match us, hl with | [_, _, _], _ => rfl
theorem ok_BadRule_init (T : Facts K mg) : FnOk P w K mg base (L2.CX P w) 1 (fAd K ("BadRule", some "__init__")) (fdOf K ("BadRule", some "__init__")) ["self", "stage", "what"] (sp_BadRule_init K) := by
  refine T.F_BadRule_init.ok sc_BadRule_init (fun vs H Q E h => len_X2 vs H Q E h) (fun cdv A outer s H vs Q E hr h => ⟨t_BadRule_init K, PSs.nox ?_, pure_X2 T.x_BadRule.o T.no_BadRule_stage T.no_BadRule_what vs H Q E h⟩)
  exact pss_cons (ps_expr (pe_binit rfl T.g_ClipError T.bi.s T.bi.t T.bi.r T.bi.v (pa_cons (pv 0) (pa_cons (pe_sv (by decide +kernel)) pa_nil)))) (pss_cons (ps_ost (pv 0) (pv 1)) (pss_one (ps_ost (pv 0) (pv 2))))
theorem sc_BadShape_init : FnScope N_BadShape_init ["self", "place"] (defScope st_BadShape_init) := ⟨rfl, rfl, rfl, by decide +kernel, rfl, by decide +kernel, by decide +kernel⟩
theorem bi_BadShape_init (T : Facts K mg) : Binds K (fdOf K ("BadShape", some "__init__")) ["self", "place"] [] := T.F_BadShape_init.bindsN fun _ _ _ _ _ _ us hl => match us, hl with | [_, _], _ => rfl
theorem ok_BadShape_init (T : Facts K mg) : FnOk P w K mg base (L2.CX P w) 1 (fAd K ("BadShape", some "__init__")) (fdOf K ("BadShape", some "__init__")) ["self", "place"] (sp_BadShape_init K) := by
  refine T.F_BadShape_init.ok sc_BadShape_init (fun vs H Q E h => len_X1 vs H Q E h) (fun cdv A outer s H vs Q E hr h => ⟨t_BadShape_init K, PSs.nox ?_, pure_X1 T.x_BadShape.o T.no_BadShape_place vs H Q E h⟩)
  exact pss_cons (ps_expr (pe_binit rfl T.g_ClipError T.bi.s T.bi.t T.bi.r T.bi.v (pa_cons (pv 0) (pa_cons (pe_sv (by decide +kernel)) pa_nil)))) (pss_one (ps_ost (pv 0) (pv 1)))
theorem sc_BadTable_init : FnScope N_BadTable_init ["self", "place"] (defScope st_BadTable_init) := ⟨rfl, rfl, rfl, by decide +kernel, rfl, by decide +kernel, by decide +kernel⟩
theorem bi_BadTable_init (T : Facts K mg) : Binds K (fdOf K ("BadTable", some "__init__")) ["self", "place"] [] := T.F_BadTable_init.bindsN fun _ _ _ _ _ _ us hl => match us, hl with | [_, _], _ => rfl
theorem ok_BadTable_init (T : Facts K mg) : FnOk P w K mg base (L2.CX P w) 1 (fAd K ("BadTable", some "__init__")) (fdOf K ("BadTable", some "__init__")) ["self", "place"] (sp_BadTable_init K) := by
  refine T.F_BadTable_init.ok sc_BadTable_init (fun vs H Q E h => len_X1 vs H Q E h) (fun cdv A outer s H vs Q E hr h => ⟨t_BadTable_init K, PSs.nox ?_, pure_X1 T.x_BadTable.o T.no_BadTable_place vs H Q E h⟩)
  exact pss_cons (ps_expr (pe_binit rfl T.g_ClipError T.bi.s T.bi.t T.bi.r T.bi.v (pa_cons (pv 0) (pa_cons (pe_sv (by decide +kernel)) pa_nil)))) (pss_one (ps_ost (pv 0) (pv 1)))
theorem sc_BadLot_init : FnScope N_BadLot_init ["self", "number"] (defScope st_BadLot_init) := ⟨rfl, rfl, rfl, by decide +kernel, rfl, by decide +kernel, by decide +kernel⟩
theorem bi_BadLot_init (T : Facts K mg) : Binds K (fdOf K ("BadLot", some "__init__")) ["self", "number"] [] := T.F_BadLot_init.bindsN fun _ _ _ _ _ _ us hl => match us, hl with | [_, _], _ => rfl
theorem ok_BadLot_init (T : Facts K mg) : FnOk P w K mg base (L2.CX P w) 1 (fAd K ("BadLot", some "__init__")) (fdOf K ("BadLot", some "__init__")) ["self", "number"] (sp_BadLot_init K) := by
  refine T.F_BadLot_init.ok sc_BadLot_init (fun vs H Q E h => len_X1 vs H Q E h) (fun cdv A outer s H vs Q E hr h => ⟨t_BadLot_init K, PSs.nox ?_, pure_X1 T.x_BadLot.o T.no_BadLot_number vs H Q E h⟩)
  exact pss_cons (ps_expr (pe_binit rfl T.g_ClipError T.bi.s T.bi.t T.bi.r T.bi.v (pa_cons (pv 0) (pa_cons (pe_sv (by decide +kernel)) pa_nil)))) (pss_one (ps_ost (pv 0) (pv 1)))
theorem sc_BadLimit_init : FnScope N_BadLimit_init ["self", "limit"] (defScope st_BadLimit_init) := ⟨rfl, rfl, rfl, by decide +kernel, rfl, by decide +kernel, by decide +kernel⟩
theorem bi_BadLimit_init (T : Facts K mg) : Binds K (fdOf K ("BadLimit", some "__init__")) ["self", "limit"] [] := T.F_BadLimit_init.bindsN fun _ _ _ _ _ _ us hl => match us, hl with | [_, _], _ => rfl
theorem ok_BadLimit_init (T : Facts K mg) : FnOk P w K mg base (L2.CX P w) 1 (fAd K ("BadLimit", some "__init__")) (fdOf K ("BadLimit", some "__init__")) ["self", "limit"] (sp_BadLimit_init K) := by
  refine T.F_BadLimit_init.ok sc_BadLimit_init (fun vs H Q E h => len_X1 vs H Q E h) (fun cdv A outer s H vs Q E hr h => ⟨t_BadLimit_init K, PSs.nox ?_, pure_X1 T.x_BadLimit.o T.no_BadLimit_asked vs H Q E h⟩)
  exact pss_cons (ps_expr (pe_binit rfl T.g_ClipError T.bi.s T.bi.t T.bi.r T.bi.v (pa_cons (pv 0) (pa_cons (pe_sv (by decide +kernel)) pa_nil)))) (pss_one (ps_ost (pv 0) (pv 1)))
theorem sc_TooMany_init : FnScope N_TooMany_init ["self", "number"] (defScope st_TooMany_init) := ⟨rfl, rfl, rfl, by decide +kernel, rfl, by decide +kernel, by decide +kernel⟩
theorem bi_TooMany_init (T : Facts K mg) : Binds K (fdOf K ("TooMany", some "__init__")) ["self", "number"] [] := T.F_TooMany_init.bindsN fun _ _ _ _ _ _ us hl => match us, hl with | [_, _], _ => rfl
theorem ok_TooMany_init (T : Facts K mg) : FnOk P w K mg base (L2.CX P w) 1 (fAd K ("TooMany", some "__init__")) (fdOf K ("TooMany", some "__init__")) ["self", "number"] (sp_TooMany_init K) := by
  refine T.F_TooMany_init.ok sc_TooMany_init (fun vs H Q E h => len_X1 vs H Q E h) (fun cdv A outer s H vs Q E hr h => ⟨t_TooMany_init K, PSs.nox ?_, pure_X1 T.x_TooMany.o T.no_TooMany_number vs H Q E h⟩)
  exact pss_cons (ps_expr (pe_binit rfl T.g_ClipError T.bi.s T.bi.t T.bi.r T.bi.v (pa_cons (pv 0) (pa_cons (pe_sv (by decide +kernel)) pa_nil)))) (pss_one (ps_ost (pv 0) (pv 1)))
theorem sc_OutsideStock_init : FnScope N_OutsideStock_init ["self", "word"] (defScope st_OutsideStock_init) := ⟨rfl, rfl, rfl, by decide +kernel, rfl, by decide +kernel, by decide +kernel⟩
theorem bi_OutsideStock_init (T : Facts K mg) : Binds K (fdOf K ("OutsideStock", some "__init__")) ["self", "word"] [] := T.F_OutsideStock_init.bindsN fun _ _ _ _ _ _ us hl => match us, hl with | [_, _], _ => rfl
theorem ok_OutsideStock_init (T : Facts K mg) : FnOk P w K mg base (L2.CX P w) 1 (fAd K ("OutsideStock", some "__init__")) (fdOf K ("OutsideStock", some "__init__")) ["self", "word"] (sp_OutsideStock_init K) := by
  refine T.F_OutsideStock_init.ok sc_OutsideStock_init (fun vs H Q E h => len_X1 vs H Q E h) (fun cdv A outer s H vs Q E hr h => ⟨t_OutsideStock_init K, PSs.nox ?_, pure_X1 T.x_OutsideStock.o T.no_OutsideStock_word vs H Q E h⟩)
  exact pss_cons (ps_expr (pe_binit rfl T.g_ClipError T.bi.s T.bi.t T.bi.r T.bi.v (pa_cons (pv 0) (pa_cons (pe_sv (by decide +kernel)) pa_nil)))) (pss_one (ps_ost (pv 0) (pv 1)))
theorem sc_NoRule_init : FnScope N_NoRule_init ["self", "fewest"] (defScope st_NoRule_init) := ⟨rfl, rfl, rfl, by decide +kernel, rfl, by decide +kernel, by decide +kernel⟩
theorem bi_NoRule_init (T : Facts K mg) : Binds K (fdOf K ("NoRule", some "__init__")) ["self", "fewest"] [] := T.F_NoRule_init.bindsN fun _ _ _ _ _ _ us hl => match us, hl with | [_, _], _ => rfl
theorem ok_NoRule_init (T : Facts K mg) : FnOk P w K mg base (L2.CX P w) 1 (fAd K ("NoRule", some "__init__")) (fdOf K ("NoRule", some "__init__")) ["self", "fewest"] (sp_NoRule_init K) := by
  refine T.F_NoRule_init.ok sc_NoRule_init (fun vs H Q E h => len_X1 vs H Q E h) (fun cdv A outer s H vs Q E hr h => ⟨t_NoRule_init K, PSs.nox ?_, pure_X1 T.x_NoRule.o T.no_NoRule_fewest vs H Q E h⟩)
  exact pss_cons (ps_expr (pe_binit rfl T.g_ClipError T.bi.s T.bi.t T.bi.r T.bi.v (pa_cons (pv 0) (pa_cons (pe_sv (by decide +kernel)) pa_nil)))) (pss_one (ps_ost (pv 0) (pv 1)))
theorem sc_NoEntry_init : FnScope N_NoEntry_init ["self", "number"] (defScope st_NoEntry_init) := ⟨rfl, rfl, rfl, by decide +kernel, rfl, by decide +kernel, by decide +kernel⟩
theorem bi_NoEntry_init (T : Facts K mg) : Binds K (fdOf K ("NoEntry", some "__init__")) ["self", "number"] [] := T.F_NoEntry_init.bindsN fun _ _ _ _ _ _ us hl => match us, hl with | [_, _], _ => rfl
theorem ok_NoEntry_init (T : Facts K mg) : FnOk P w K mg base (L2.CX P w) 1 (fAd K ("NoEntry", some "__init__")) (fdOf K ("NoEntry", some "__init__")) ["self", "number"] (sp_NoEntry_init K) := by
  refine T.F_NoEntry_init.ok sc_NoEntry_init (fun vs H Q E h => len_X1 vs H Q E h) (fun cdv A outer s H vs Q E hr h => ⟨t_NoEntry_init K, PSs.nox ?_, pure_X1 T.x_NoEntry.o T.no_NoEntry_number vs H Q E h⟩)
  exact pss_cons (ps_expr (pe_binit rfl T.g_ClipError T.bi.s T.bi.t T.bi.r T.bi.v (pa_cons (pv 0) (pa_cons (pe_sv (by decide +kernel)) pa_nil)))) (pss_one (ps_ost (pv 0) (pv 1)))
theorem sc_NoClass_init : FnScope N_NoClass_init ["self", "number"] (defScope st_NoClass_init) := ⟨rfl, rfl, rfl, by decide +kernel, rfl, by decide +kernel, by decide +kernel⟩
theorem bi_NoClass_init (T : Facts K mg) : Binds K (fdOf K ("NoClass", some "__init__")) ["self", "number"] [] := T.F_NoClass_init.bindsN fun _ _ _ _ _ _ us hl => match us, hl with | [_, _], _ => rfl
theorem ok_NoClass_init (T : Facts K mg) : FnOk P w K mg base (L2.CX P w) 1 (fAd K ("NoClass", some "__init__")) (fdOf K ("NoClass", some "__init__")) ["self", "number"] (sp_NoClass_init K) := by
  refine T.F_NoClass_init.ok sc_NoClass_init (fun vs H Q E h => len_X1 vs H Q E h) (fun cdv A outer s H vs Q E hr h => ⟨t_NoClass_init K, PSs.nox ?_, pure_X1 T.x_NoClass.o T.no_NoClass_number vs H Q E h⟩)
  exact pss_cons (ps_expr (pe_binit rfl T.g_ClipError T.bi.s T.bi.t T.bi.r T.bi.v (pa_cons (pv 0) (pa_cons (pe_sv (by decide +kernel)) pa_nil)))) (pss_one (ps_ost (pv 0) (pv 1)))
theorem sc_NoHistory_init : FnScope N_NoHistory_init ["self", "way"] (defScope st_NoHistory_init) := ⟨rfl, rfl, rfl, by decide +kernel, rfl, by decide +kernel, by decide +kernel⟩
theorem bi_NoHistory_init (T : Facts K mg) : Binds K (fdOf K ("NoHistory", some "__init__")) ["self", "way"] [] := T.F_NoHistory_init.bindsN fun _ _ _ _ _ _ us hl => match us, hl with | [_, _], _ => rfl
theorem ok_NoHistory_init (T : Facts K mg) : FnOk P w K mg base (L2.CX P w) 1 (fAd K ("NoHistory", some "__init__")) (fdOf K ("NoHistory", some "__init__")) ["self", "way"] (sp_NoHistory_init K) := by
  refine T.F_NoHistory_init.ok sc_NoHistory_init (fun vs H Q E h => len_X1 vs H Q E h) (fun cdv A outer s H vs Q E hr h => ⟨t_NoHistory_init K, PSs.nox ?_, pure_X1 T.x_NoHistory.o T.no_NoHistory_way vs H Q E h⟩)
  exact pss_cons (ps_expr (pe_binit rfl T.g_ClipError T.bi.s T.bi.t T.bi.r T.bi.v (pa_cons (pv 0) (pa_cons (pe_sv (by decide +kernel)) pa_nil)))) (pss_one (ps_ost (pv 0) (pv 1)))
theorem sc_BadDeed_init : FnScope N_BadDeed_init ["self", "index"] (defScope st_BadDeed_init) := ⟨rfl, rfl, rfl, by decide +kernel, rfl, by decide +kernel, by decide +kernel⟩
theorem bi_BadDeed_init (T : Facts K mg) : Binds K (fdOf K ("BadDeed", some "__init__")) ["self", "index"] [] := T.F_BadDeed_init.bindsN fun _ _ _ _ _ _ us hl => match us, hl with | [_, _], _ => rfl
theorem ok_BadDeed_init (T : Facts K mg) : FnOk P w K mg base (L2.CX P w) 1 (fAd K ("BadDeed", some "__init__")) (fdOf K ("BadDeed", some "__init__")) ["self", "index"] (sp_BadDeed_init K) := by
  refine T.F_BadDeed_init.ok sc_BadDeed_init (fun vs H Q E h => len_X1 vs H Q E h) (fun cdv A outer s H vs Q E hr h => ⟨t_BadDeed_init K, PSs.nox ?_, pure_X1 T.x_BadDeed.o T.no_BadDeed_index vs H Q E h⟩)
  exact pss_cons (ps_expr (pe_binit rfl T.g_ClipError T.bi.s T.bi.t T.bi.r T.bi.v (pa_cons (pv 0) (pa_cons (pe_sv (by decide +kernel)) pa_nil)))) (pss_one (ps_ost (pv 0) (pv 1)))
theorem sc_NoPlan_init : FnScope N_NoPlan_init ["self", "one", "two"] (defScope st_NoPlan_init) := ⟨rfl, rfl, rfl, by decide +kernel, rfl, by decide +kernel, by decide +kernel⟩
theorem bi_NoPlan_init (T : Facts K mg) : Binds K (fdOf K ("NoPlan", some "__init__")) ["self", "one", "two"] [] := T.F_NoPlan_init.bindsN fun _ _ _ _ _ _ us hl => match us, hl with | [_, _, _], _ => rfl
theorem ok_NoPlan_init (T : Facts K mg) : FnOk P w K mg base (L2.CX P w) 1 (fAd K ("NoPlan", some "__init__")) (fdOf K ("NoPlan", some "__init__")) ["self", "one", "two"] (sp_NoPlan_init K) := by
  refine T.F_NoPlan_init.ok sc_NoPlan_init (fun vs H Q E h => len_X2 vs H Q E h) (fun cdv A outer s H vs Q E hr h => ⟨t_NoPlan_init K, PSs.nox ?_, pure_X2 T.x_NoPlan.o T.no_NoPlan_one T.no_NoPlan_two vs H Q E h⟩)
  exact pss_cons (ps_expr (pe_binit rfl T.g_ClipError T.bi.s T.bi.t T.bi.r T.bi.v (pa_cons (pv 0) (pa_cons (pe_sv (by decide +kernel)) pa_nil)))) (pss_cons (ps_ost (pv 0) (pv 1)) (pss_one (ps_ost (pv 0) (pv 2))))
theorem sc_l_bag : FnScope N_l_bag ["_law_script"] (defScope st_l_bag) := ⟨rfl, rfl, rfl, by decide +kernel, rfl, by decide +kernel, by decide +kernel⟩
theorem bi_l_bag (T : Facts K mg) : Binds K (fdOf K ("_law_bag", none)) ["_law_script"] [] := T.F_l_bag.bindsN fun _ _ _ _ _ _ us hl => match us, hl with | [_], _ => rfl
theorem ok_l_bag (T : Facts K mg) : FnOk P w K mg base (L2.CX P w) 1 (fAd K ("_law_bag", none)) (fdOf K ("_law_bag", none)) ["_law_script"] (sp_l_bag K) := by
  refine T.F_l_bag.ok sc_l_bag (fun vs H Q E h => len_l_bag vs H Q E h) (fun cdv A outer s H vs Q E hr h => ⟨t_l_bag K, PSs.nox ?_, pure_l_bag vs H Q E h⟩)
  exact pss_one (ps_ret (pe_lst (pa_cons (pe_callTy cz_list rfl T.n_list (by decide +kernel) (pa_cons (pe_slice sz_sl (pv 0) po_none (po_some pe_int)) pa_nil)) (pa_cons pe_int (pa_cons pe_int (pa_cons pe_int pa_nil))))))
theorem sc_l_take : FnScope N_l_take ["_law_bag_here", "_law_size"] (defScope st_l_take) := ⟨rfl, rfl, rfl, by decide +kernel, rfl, by decide +kernel, by decide +kernel⟩
theorem bi_l_take (T : Facts K mg) : Binds K (fdOf K ("_law_take", none)) ["_law_bag_here", "_law_size"] [] := T.F_l_take.bindsN fun _ _ _ _ _ _ us hl => match us, hl with | [_, _], _ => rfl
theorem ok_l_take (T : Facts K mg) : FnOk P w K mg base (L2.CX P w) 1 (fAd K ("_law_take", none)) (fdOf K ("_law_take", none)) ["_law_bag_here", "_law_size"] (sp_l_take K) := by
  refine T.F_l_take.ok sc_l_take (fun vs H Q E h => len_l_take vs H Q E h) (fun cdv A outer s H vs Q E hr h => ⟨t_l_take K, PSs.nox ?_, pure_l_take vs H Q E h⟩)
  exact pss_cons (ps_if (pt_cmpR oz_gt (pe_ix iz_ix (pv 0) pe_int (fun _ _ => rfl)) pe_int (nomark _)) (pss_cons (ps_set (i := 2) sc_l_take.nd rfl (by first | exact Or.inl rfl | exact Or.inr rfl) (pe_callTy cz_int rfl T.n_int (by decide +kernel) (pa_cons (pe_ix iz_ix (pv 0) pe_int (fun _ _ => rfl)) pa_nil))) (pss_cons (ps_asg (pe_op oz_div (pv 2) (pv 1)) (pg_sub (pv 0) pe_int set_list)) (pss_one (ps_ret (pe_op oz_mod (pe_callTy cz_int rfl T.n_int (by decide +kernel) (pa_cons (pv 2) pa_nil)) (pv 1)))))) pss_nil) (pss_cons (ps_set (i := 3) sc_l_take.nd rfl (by first | exact Or.inl rfl | exact Or.inr rfl) pe_int) (pss_cons (ps_if (pt_cmpR oz_lt (pe_ix iz_ix (pv 0) pe_int (fun _ _ => rfl)) (pe_callB cz_len rfl T.n_len (by decide +kernel) (pa_cons (pe_ix iz_ix (pv 0) pe_int (fun _ _ => rfl)) pa_nil)) (nomark _)) (pss_one (ps_set (i := 3) sc_l_take.nd rfl (by first | exact Or.inl rfl | exact Or.inr rfl) (pe_ix iz_ix (pe_ix iz_ix (pv 0) pe_int (fun _ _ => rfl)) (pe_ix iz_ix (pv 0) pe_int (fun _ _ => rfl)) (fun _ _ => rfl)))) pss_nil) (pss_cons (ps_asg (pe_op oz_add (pe_ix iz_ix (pv 0) pe_int (fun _ _ => rfl)) pe_int) (pg_sub (pv 0) pe_int set_list)) (pss_cons (ps_if (pt_cmpR oz_ge (pv 3) (pe_op oz_pow pe_int pe_int) (nomark _)) (pss_cons (ps_asg (pe_op oz_div (pv 3) (pv 1)) (pg_sub (pv 0) pe_int set_list)) (pss_one (ps_ret (pe_op oz_mod (pe_callTy cz_int rfl T.n_int (by decide +kernel) (pa_cons (pv 3) pa_nil)) (pv 1))))) pss_nil) (pss_cons (ps_asg (pe_op oz_mod (pe_callTy cz_int rfl T.n_int (by decide +kernel) (pa_cons (pe_op oz_add (pe_op oz_add (pe_op oz_mul (pe_ix iz_ix (pv 0) pe_int (fun _ _ => rfl)) pe_int) (pe_op oz_mul (pv 3) pe_int)) (pe_op oz_mul (pe_ix iz_ix (pv 0) pe_int (fun _ _ => rfl)) pe_int)) pa_nil)) pe_int) (pg_sub (pv 0) pe_int set_list)) (pss_one (ps_ret (pe_op oz_mod (pe_op oz_div (pe_callTy cz_int rfl T.n_int (by decide +kernel) (pa_cons (pe_ix iz_ix (pv 0) pe_int (fun _ _ => rfl)) pa_nil)) pe_int) (pv 1)))))))))
theorem sc_l_ranks : FnScope N_l_ranks ["_law_e"] (defScope st_l_ranks) := ⟨rfl, rfl, rfl, by decide +kernel, rfl, by decide +kernel, by decide +kernel⟩
theorem bi_l_ranks (T : Facts K mg) : Binds K (fdOf K ("_law_ranks", none)) ["_law_e"] [] := T.F_l_ranks.bindsN fun _ _ _ _ _ _ us hl => match us, hl with | [_], _ => rfl
theorem ok_l_ranks (T : Facts K mg) : FnOk P w K mg base (L2.CX P w) 1 (fAd K ("_law_ranks", none)) (fdOf K ("_law_ranks", none)) ["_law_e"] (sp_l_ranks K) := by
  refine T.F_l_ranks.ok sc_l_ranks (fun vs H Q E h => len_l_ranks vs H Q E h) (fun cdv A outer s H vs Q E hr h => ⟨t_l_ranks K, PSs.nox ?_, pure_l_ranks T vs H Q E h⟩)
  exact pss_cons (ps_set (i := 1) sc_l_ranks.nd rfl (by first | exact Or.inl rfl | exact Or.inr rfl) (pe_lst (pa_cons (pe_callB cz_isi rfl T.n_isinstance (by decide +kernel) (pa_cons (pv 0) (pa_cons (pe_glob rfl T.g_BadAlphabet rfl) pa_nil))) (pa_cons (pe_callB cz_isi rfl T.n_isinstance (by decide +kernel) (pa_cons (pv 0) (pa_cons (pe_glob rfl T.g_BadWord rfl) pa_nil))) (pa_cons (pe_callB cz_isi rfl T.n_isinstance (by decide +kernel) (pa_cons (pv 0) (pa_cons (pe_glob rfl T.g_BadStage rfl) pa_nil))) (pa_cons (pe_callB cz_isi rfl T.n_isinstance (by decide +kernel) (pa_cons (pv 0) (pa_cons (pe_glob rfl T.g_BadRule rfl) pa_nil))) pa_nil)))))) (pss_cons (ps_set (i := 1) sc_l_ranks.nd rfl (by first | exact Or.inl rfl | exact Or.inr rfl) (pe_op oz_add (pv 1) (pe_lst (pa_cons (pe_callB cz_isi rfl T.n_isinstance (by decide +kernel) (pa_cons (pv 0) (pa_cons (pe_glob rfl T.g_BadShape rfl) pa_nil))) (pa_cons (pe_callB cz_isi rfl T.n_isinstance (by decide +kernel) (pa_cons (pv 0) (pa_cons (pe_glob rfl T.g_BadTable rfl) pa_nil))) (pa_cons (pe_callB cz_isi rfl T.n_isinstance (by decide +kernel) (pa_cons (pv 0) (pa_cons (pe_glob rfl T.g_Mixed rfl) pa_nil))) (pa_cons (pe_callB cz_isi rfl T.n_isinstance (by decide +kernel) (pa_cons (pv 0) (pa_cons (pe_glob rfl T.g_BadLot rfl) pa_nil))) pa_nil))))))) (pss_cons (ps_set (i := 1) sc_l_ranks.nd rfl (by first | exact Or.inl rfl | exact Or.inr rfl) (pe_op oz_add (pv 1) (pe_lst (pa_cons (pe_callB cz_isi rfl T.n_isinstance (by decide +kernel) (pa_cons (pv 0) (pa_cons (pe_glob rfl T.g_BadLimit rfl) pa_nil))) (pa_cons (pe_callB cz_isi rfl T.n_isinstance (by decide +kernel) (pa_cons (pv 0) (pa_cons (pe_glob rfl T.g_TooMany rfl) pa_nil))) (pa_cons (pe_callB cz_isi rfl T.n_isinstance (by decide +kernel) (pa_cons (pv 0) (pa_cons (pe_glob rfl T.g_OutsideStock rfl) pa_nil))) pa_nil)))))) (pss_cons (ps_set (i := 1) sc_l_ranks.nd rfl (by first | exact Or.inl rfl | exact Or.inr rfl) (pe_op oz_add (pv 1) (pe_lst (pa_cons (pe_callB cz_isi rfl T.n_isinstance (by decide +kernel) (pa_cons (pv 0) (pa_cons (pe_glob rfl T.g_NoRule rfl) pa_nil))) (pa_cons (pe_callB cz_isi rfl T.n_isinstance (by decide +kernel) (pa_cons (pv 0) (pa_cons (pe_glob rfl T.g_NoEntry rfl) pa_nil))) (pa_cons (pe_callB cz_isi rfl T.n_isinstance (by decide +kernel) (pa_cons (pv 0) (pa_cons (pe_glob rfl T.g_NoClass rfl) pa_nil))) (pa_cons (pe_callB cz_isi rfl T.n_isinstance (by decide +kernel) (pa_cons (pv 0) (pa_cons (pe_glob rfl T.g_NoHistory rfl) pa_nil))) pa_nil))))))) (pss_one (ps_ret (pe_op oz_add (pv 1) (pe_lst (pa_cons (pe_callB cz_isi rfl T.n_isinstance (by decide +kernel) (pa_cons (pv 0) (pa_cons (pe_glob rfl T.g_BadDeed rfl) pa_nil))) (pa_cons (pe_callB cz_isi rfl T.n_isinstance (by decide +kernel) (pa_cons (pv 0) (pa_cons (pe_glob rfl T.g_NoPlan rfl) pa_nil))) pa_nil)))))))))
theorem sc_law : FnScope N_law ["_law_script"] (defScope st_law) := ⟨rfl, rfl, rfl, by decide +kernel, rfl, by decide +kernel, by decide +kernel⟩
theorem bi_law (T : Facts K mg) : Binds K (fdOf K ("law", none)) ["_law_script"] [] := T.F_law.bindsN fun _ _ _ _ _ _ us hl => match us, hl with | [_], _ => rfl
theorem ok_law (T : Facts K mg) : FnOk P w K mg base CX0 3 (fAd K ("law", none)) (fdOf K ("law", none)) ["_law_script"] (sp_law K) := by
  refine T.F_law.ok sc_law (fun vs H Q E h => len_law vs H Q E h) (fun cdv A outer s H vs Q E hr h => ⟨t_law K, PSs.nox ?_, pure_law T vs H Q E h⟩)
  exact pss_cons (ps_set (i := 1) sc_law.nd rfl (by first | exact Or.inl rfl | exact Or.inr rfl) (pe_call (ok_l_bag T) (hr.mono (by decide)) rfl T.g__law_bag T.F_l_bag.kp (bi_l_bag T) .nil passL (pa_cons (pv 0) pa_nil))) (pss_cons (ps_set (i := 2) sc_law.nd rfl (by first | exact Or.inl rfl | exact Or.inr rfl) (pe_op oz_sub (pe_call (ok_l_take T) (hr.mono (by decide)) rfl T.g__law_take T.F_l_take.kp (bi_l_take T) .nil passL (pa_cons (pv 1) (pa_cons (pe_op oz_pow pe_int pe_int) pa_nil))) (pe_op oz_pow pe_int pe_int))) (pss_cons (ps_set (i := 3) sc_law.nd rfl (by first | exact Or.inl rfl | exact Or.inr rfl) (pe_call (ok_l_take T) (hr.mono (by decide)) rfl T.g__law_take T.F_l_take.kp (bi_l_take T) .nil passL (pa_cons (pv 1) (pa_cons (pe_op oz_pow pe_int pe_int) pa_nil)))) (pss_cons (ps_set (i := 4) sc_law.nd rfl (by first | exact Or.inl rfl | exact Or.inr rfl) (pe_op oz_add (pe_op oz_mul (pe_sv (by decide +kernel)) (pe_call (ok_l_take T) (hr.mono (by decide)) rfl T.g__law_take T.F_l_take.kp (bi_l_take T) .nil passL (pa_cons (pv 1) (pa_cons pe_int pa_nil)))) (pe_slice sz_sl (pe_sv (by decide +kernel)) po_none (po_some (pe_call (ok_l_take T) (hr.mono (by decide)) rfl T.g__law_take T.F_l_take.kp (bi_l_take T) .nil passL (pa_cons (pv 1) (pa_cons pe_int pa_nil))))))) (pss_cons (ps_set (i := 5) sc_law.nd rfl (by first | exact Or.inl rfl | exact Or.inr rfl) (pe_lst (pa_cons (pe_mkv T.x_BadAlphabet.o T.i_BadAlphabet T.ti_BadAlphabet (ok_BadAlphabet_init T) (hr.mono (by decide)) (bi_BadAlphabet_init T) .nil passL rfl T.g_BadAlphabet (pa_cons (pv 4) pa_nil)) (pa_cons (pe_mkv T.x_BadWord.o T.i_BadWord T.ti_BadWord (ok_BadWord_init T) (hr.mono (by decide)) (bi_BadWord_init T) .nil passL rfl T.g_BadWord (pa_cons (pv 4) pa_nil)) (pa_cons (pe_mkv T.x_BadStage.o T.i_BadStage T.ti_BadStage (ok_BadStage_init T) (hr.mono (by decide)) (bi_BadStage_init T) .nil passL rfl T.g_BadStage (pa_cons (pv 4) pa_nil)) (pa_cons (pe_mkv T.x_BadRule.o T.i_BadRule T.ti_BadRule (ok_BadRule_init T) (hr.mono (by decide)) (bi_BadRule_init T) .nil passL rfl T.g_BadRule (pa_cons (pv 2) (pa_cons (pv 4) pa_nil))) (pa_cons (pe_mkv T.x_BadShape.o T.i_BadShape T.ti_BadShape (ok_BadShape_init T) (hr.mono (by decide)) (bi_BadShape_init T) .nil passL rfl T.g_BadShape (pa_cons (pv 2) pa_nil)) pa_nil))))))) (pss_cons (ps_set (i := 5) sc_law.nd rfl (by first | exact Or.inl rfl | exact Or.inr rfl) (pe_op oz_add (pv 5) (pe_lst (pa_cons (pe_mkv T.x_BadTable.o T.i_BadTable T.ti_BadTable (ok_BadTable_init T) (hr.mono (by decide)) (bi_BadTable_init T) .nil passL rfl T.g_BadTable (pa_cons (pv 2) pa_nil)) (pa_cons (pe_exc0 F.excBase_ValueError T.e_Mixed T.g_Mixed T.x_Mixed.o.kC rfl) (pa_cons (pe_mkv T.x_BadLot.o T.i_BadLot T.ti_BadLot (ok_BadLot_init T) (hr.mono (by decide)) (bi_BadLot_init T) .nil passL rfl T.g_BadLot (pa_cons (pv 2) pa_nil)) (pa_cons (pe_mkv T.x_BadLimit.o T.i_BadLimit T.ti_BadLimit (ok_BadLimit_init T) (hr.mono (by decide)) (bi_BadLimit_init T) .nil passL rfl T.g_BadLimit (pa_cons (pv 2) pa_nil)) (pa_cons (pe_mkv T.x_TooMany.o T.i_TooMany T.ti_TooMany (ok_TooMany_init T) (hr.mono (by decide)) (bi_TooMany_init T) .nil passL rfl T.g_TooMany (pa_cons (pv 2) pa_nil)) (pa_cons (pe_mkv T.x_OutsideStock.o T.i_OutsideStock T.ti_OutsideStock (ok_OutsideStock_init T) (hr.mono (by decide)) (bi_OutsideStock_init T) .nil passL rfl T.g_OutsideStock (pa_cons (pv 4) pa_nil)) pa_nil))))))))) (pss_cons (ps_set (i := 5) sc_law.nd rfl (by first | exact Or.inl rfl | exact Or.inr rfl) (pe_op oz_add (pv 5) (pe_lst (pa_cons (pe_mkv T.x_NoRule.o T.i_NoRule T.ti_NoRule (ok_NoRule_init T) (hr.mono (by decide)) (bi_NoRule_init T) .nil passL rfl T.g_NoRule (pa_cons (pv 2) pa_nil)) (pa_cons (pe_mkv T.x_NoEntry.o T.i_NoEntry T.ti_NoEntry (ok_NoEntry_init T) (hr.mono (by decide)) (bi_NoEntry_init T) .nil passL rfl T.g_NoEntry (pa_cons (pv 2) pa_nil)) (pa_cons (pe_mkv T.x_NoClass.o T.i_NoClass T.ti_NoClass (ok_NoClass_init T) (hr.mono (by decide)) (bi_NoClass_init T) .nil passL rfl T.g_NoClass (pa_cons (pv 2) pa_nil)) (pa_cons (pe_mkv T.x_NoHistory.o T.i_NoHistory T.ti_NoHistory (ok_NoHistory_init T) (hr.mono (by decide)) (bi_NoHistory_init T) .nil passL rfl T.g_NoHistory (pa_cons (pv 4) pa_nil)) (pa_cons (pe_mkv T.x_BadDeed.o T.i_BadDeed T.ti_BadDeed (ok_BadDeed_init T) (hr.mono (by decide)) (bi_BadDeed_init T) .nil passL rfl T.g_BadDeed (pa_cons (pv 2) pa_nil)) pa_nil)))))))) (pss_cons (ps_expr (pe_bm PySem.F.plainAttrs_list PySem.F.slot_list_append PySem.F.type_list_append mz_app (pv 5) (pa_cons (pe_mkv T.x_NoPlan.o T.i_NoPlan T.ti_NoPlan (ok_NoPlan_init T) (hr.mono (by decide)) (bi_NoPlan_init T) .nil passL rfl T.g_NoPlan (pa_cons (pv 2) (pa_cons (pv 3) pa_nil))) pa_nil))) (pss_cons (ps_for PassesOwn.never rfl (pi_range1 rfl T.n_range (pa_cons pe_int pa_nil)) (pg_name (i := 6) sc_law.nd rfl (by first | exact Or.inl rfl | exact Or.inr rfl)) (pss_cons (ps_if (pt_cmpR (oz_ne (hu64 hr)) (pe_call (ok_l_ranks T) (hr.mono (by decide)) rfl T.g__law_ranks T.F_l_ranks.kp (bi_l_ranks T) .nil passL (pa_cons (pe_ix iz_ix (pv 5) (pv 6) (fun _ _ => rfl)) pa_nil)) (pe_lc (own := [("_law_k", 7)]) (g := (gName 7)) (tt := tYes) rfl sc_law.nd (pi_range1 rfl T.n_range (pa_cons pe_int pa_nil)) (blkOk_by (N := N_law) (sc := defScope st_law) (by decide +kernel)) (fun _ _ _ _ _ => pg_name (i := 7) sc_law.nd rfl (by first | exact Or.inl rfl | exact Or.inr rfl)) (fun _ _ _ _ _ => pts_nil) (fun _ _ _ _ _ => pe_cmpR (oz_eq (hu64 hr)) (pv 7) (pv 6) (nomark _))) (nomark _)) (pss_one (ps_ret pe_bl)) pss_nil) (pss_one (ps_if (PW.pt (pw_or (pt_not (pt_truth (pe_callB cz_isi rfl T.n_isinstance (by decide +kernel) (pa_cons (pe_ix iz_ix (pv 5) (pv 6) (fun _ _ => rfl)) (pa_cons (pe_glob rfl T.g_ClipError rfl) pa_nil))) (fun _ => rfl))) (pw_or1 (pt_not (pt_truth (pe_callB cz_isi rfl T.n_isinstance (by decide +kernel) (pa_cons (pe_ix iz_ix (pv 5) (pv 6) (fun _ _ => rfl)) (pa_cons (pe_bltn rfl T.n_ValueError (by decide +kernel) rfl) pa_nil))) (fun _ => rfl)))))) (pss_one (ps_ret pe_bl)) pss_nil)))) (pss_cons (ps_set (i := 8) sc_law.nd rfl (by first | exact Or.inl rfl | exact Or.inr rfl) (pe_lst (pa_cons (pe_xfv (pe_ix iz_ix (pv 5) pe_int (fun _ _ => rfl))) (pa_cons (pe_xfv (pe_ix iz_ix (pv 5) pe_int (fun _ _ => rfl))) (pa_cons (pe_xfv (pe_ix iz_ix (pv 5) pe_int (fun _ _ => rfl))) (pa_cons (pe_xfv (pe_ix iz_ix (pv 5) pe_int (fun _ _ => rfl))) (pa_cons (pe_xfv (pe_ix iz_ix (pv 5) pe_int (fun _ _ => rfl))) (pa_cons (pe_xfv (pe_ix iz_ix (pv 5) pe_int (fun _ _ => rfl))) (pa_cons (pe_xfv (pe_ix iz_ix (pv 5) pe_int (fun _ _ => rfl))) pa_nil))))))))) (pss_cons (ps_set (i := 8) sc_law.nd rfl (by first | exact Or.inl rfl | exact Or.inr rfl) (pe_op oz_add (pv 8) (pe_lst (pa_cons (pe_xfv (pe_ix iz_ix (pv 5) pe_int (fun _ _ => rfl))) (pa_cons (pe_xfv (pe_ix iz_ix (pv 5) pe_int (fun _ _ => rfl))) (pa_cons (pe_xfv (pe_ix iz_ix (pv 5) pe_int (fun _ _ => rfl))) (pa_cons (pe_xfv (pe_ix iz_ix (pv 5) pe_int (fun _ _ => rfl))) (pa_cons (pe_xfv (pe_ix iz_ix (pv 5) pe_int (fun _ _ => rfl))) (pa_cons (pe_xfv (pe_ix iz_ix (pv 5) pe_int (fun _ _ => rfl))) pa_nil))))))))) (pss_cons (ps_set (i := 8) sc_law.nd rfl (by first | exact Or.inl rfl | exact Or.inr rfl) (pe_op oz_add (pv 8) (pe_lst (pa_cons (pe_xfv (pe_ix iz_ix (pv 5) pe_int (fun _ _ => rfl))) (pa_cons (pe_xfv (pe_ix iz_ix (pv 5) pe_int (fun _ _ => rfl))) (pa_cons (pe_xfv (pe_ix iz_ix (pv 5) pe_int (fun _ _ => rfl))) (pa_cons (pe_xfv (pe_ix iz_ix (pv 5) pe_int (fun _ _ => rfl))) (pa_cons (pe_xfv (pe_ix iz_ix (pv 5) pe_int (fun _ _ => rfl))) pa_nil)))))))) (pss_cons (ps_set (i := 9) sc_law.nd rfl (by first | exact Or.inl rfl | exact Or.inr rfl) (pe_lst (pa_cons (pv 4) (pa_cons (pv 4) (pa_cons (pv 4) (pa_cons (pv 2) (pa_cons (pv 4) (pa_cons (pv 2) (pa_cons (pv 2) (pa_cons (pv 2) (pa_cons (pv 2) (pa_cons (pv 2) (pa_cons (pv 4) (pa_cons (pv 2) (pa_cons (pv 2) (pa_cons (pv 2) pa_nil)))))))))))))))) (pss_one (ps_ret (pe_cmpR (oz_eq (hu64 hr)) (pv 8) (pe_op oz_add (pv 9) (pe_lst (pa_cons (pv 4) (pa_cons (pv 2) (pa_cons (pv 2) (pa_cons (pv 3) pa_nil)))))) (nomark _))))))))))))))))
end
end Cl
namespace Cl
open PySem PySem.Spec PyProof.Rows L2 He
abbrev R : PySem.W.OpenRow := PySem.W.OpenLaw.row PySem.Challenge.rw_cliplore_k81_errors_and_attributes
def loose : List PySem.Str := (["ClipError", "BadAlphabet", "BadWord", "BadStage", "BadRule", "BadShape", "BadTable", "Mixed", "BadLot", "BadLimit", "TooMany", "OutsideStock", "NoRule", "NoEntry", "NoClass", "NoHistory", "BadDeed", "NoPlan", "_law_bag", "_law_take", "_law_ranks"] : List PySem.Str)
noncomputable abbrev hk : PySem.W.Hook := hookC 6 fa fnd [] ex
noncomputable def ob (s : PySem.W.SharedT) : AlT × Bool := obsC 6 fa fnd [] ex (HandSHeadRun.getT s)
theorem ob_eq (s : PySem.W.SharedT) : ob s = hk.obs s.abs := obsC_eq (HandSHeadRun.getT_eq s)
set_option maxHeartbeats 0 in
theorem run (w : World) : HandSHeadRun.RunEq R (PySem.W.view R.prog [23]) hk ob 8000 loose w := by
  intro os
  kernel_rfl
end Cl
namespace Cl
open PySem PySem.Spec PyProof.Rows L2 He
theorem law_ok {P : Program} {w : World} {K : PySem.W.Frag} {h : Heap} {mg : Str → Option Value} {f : Addr} (X : K.In h) (G : h.Ns mainGlobals mg) (hfa : mg ("law" : Str) = some (.ref f)) (c : SaysC fa fnd [] ex w K) :
    ∃ fd : FuncData, (∀ (s : Shared) (v : Value), BindsTo s fd ⟨[v], []⟩ [("_law_script", v)]) ∧ ∀ base : Heap, K.In base → base.Ns mainGlobals mg → FnOk P w K mg base CX0 3 f fd ["_law_script"] (sp_law K) := by
  have T := facts_of X G c
  have e := hfa.symm.trans T.g_law
  cases e
  have b := FunD.bindsA (ps := ["_law_script"]) T.F_law fun _ _ _ _ _ _ us hl => match us, hl with | [_], _ => rfl
  exact ⟨_, fun s v => b s [v] rfl, fun base _ _ => ok_law T⟩
end Cl
open PySem PySem.W PySem.Calls PyProof.Rows
set_option maxHeartbeats 0 in
theorem PySem.Challenge.cw_cliplore_k81_errors_and_attributes_holds : PySem.Challenge.rw_cliplore_k81_errors_and_attributes.Holds := by
  w_on; o_law
  refine HandSHeadRun.head_any (r := OpenLaw.row PySem.Challenge.rw_cliplore_k81_errors_and_attributes) (q := view (OpenLaw.row PySem.Challenge.rw_cliplore_k81_errors_and_attributes).prog [23]) (H := Cl.hk) (ob := Cl.ob) (M := 8000) (loose := Cl.loose) (d := HandSHeadRun.topDef (OpenLaw.row PySem.Challenge.rw_cliplore_k81_errors_and_attributes).prog 23) (kwd := []) Cl.ob_eq
    (by kernel_rfl) (fun s => by kernel_rfl) Cl.run (by kernel_rfl) (by kernel_rfl) (by kernel_rfl) (by rfl) (by first | assumption | decide +kernel) (by decide +kernel) ⟨rfl, rfl, rfl, rfl, rfl, by decide +kernel⟩ ?hw ?hc
  case hw => w_witness2
  case hc =>
    refine L2.walk_ofE (l := PySem.Challenge.rw_cliplore_k81_errors_and_attributes) (n := 63) (k := 3) (x := "_law_script") (CX := L2.CX0) rfl (by decide) (by kernel_rfl) ⟨rfl, by decide, by decide⟩ ?F (fun _ _ _ _ z => z)
    intro w mg f h Y G hmg0
    obtain ⟨K, KX, c⟩ := Y
    have hmg : mg ("law" : PySem.Str) = some (.ref f) := by
      have e : (HandSHeadRun.topDef (OpenLaw.row PySem.Challenge.rw_cliplore_k81_errors_and_attributes).prog 23).name = ("law" : PySem.Str) := by kernel_rfl
      rw [← e]
      exact hmg0
    obtain ⟨fd, hb, hF⟩ := Cl.law_ok (P := (PySem.Challenge.rw_cliplore_k81_errors_and_attributes).prog) (w := w) KX G hmg c
    exact ⟨K, fd, Cl.sp_law K, KX, hb, fun H a ns hl _ hS => ⟨a, ns, rfl, hS, hl, fun _ => rfl⟩, hF⟩
