import PyProof.Rows.All
import Wide.All
import OpenK.AllK
import Wide.FinOn
import KE.KExcIs
import HandS.ForMost
import HandS.ForExc
import HandS.ExcInit
import HandS.ExcField
import HandS.ExcIs
import HandS.ExcValue
import HandS.IsInst
import HandS.ClsMeth
import HandS.Defaults
import HandS.Steps
import HandS.Style
import PyProof.ListStr
import HandS.Head0
import HandS.Head1
import HandS.Head2
import HandS.HeadEnd
import HandS.HeadHook4
import PyProof.CollectStr
import PyProof.StrWalks
import PyProof.Rows.SetFrom
import PyProof.Rows.SortStr
import HandS.SetKeys
import HandS.More
import HandS.Set
import HandS.SetTxt0
import HandS.Strs
import PyProof.Rows.StrRev
import HandS.ReplaceList
import HandS.Walk
import HandS.Codes
import HandS.OwnEq
import HandS.Dict
import PySem.Challenge.RW_cliplore_k01_alphabet_and_sets
set_option Elab.async false
set_option linter.all false
set_option maxRecDepth 100000
set_option maxHeartbeats 4000000
/-! Own layer, part 1: the program's errors as values. -/
namespace Cl
open PySem PySem.Spec PyProof.Rows L2
/-- what the written part says of an error class C of the program -/
structure XCls (K : PySem.W.Frag) (C : Addr) : Prop where
  o : OexC K C
  f : XfC K C
  cl : (PySem.W.clsIn K C).isSome = true
  kl : PySem.W.findIn K (.ref C) "__class__" = some (some (.builtin "object.__class__"))
  sg : PySem.W.specialIn K (.builtin "object.__class__") "__get__" = some (some (.builtin "getset_descriptor.__get__"))
  tk : PySem.W.takesIn K (.builtin "object.__class__") = some true
  mo : PySem.W.mroIn K C (.type "object") = some true
section
variable {X : Cx} {e : Expr} {es : List Expr} {te : TE} {ta : TA} {f x : Str} {p p1 p2 pos : Pos}
/-- B.__init__(self, ..), B an error class of the program without an __init__ of its own -/
theorem pe_binit {B : Addr} {pl : Sem Bool} (hg : Gl X x) (hm : X.mg x = some (.ref B)) (hs : PySem.W.specialIn X.K (.ref B) "__getattribute__" = some (some (.builtin "type.__getattribute__"))) (ht : PySem.W.typeIn X.K (.ref B) = some (.type "type")) (hr : PySem.W.readsIn X.K B (.type "type") = true)
    (hv : PySem.W.findCls X.K (.ref B) (.type "type") "__init__" = some (.val (.builtin "ValueError.__init__"))) (ha : PA X (e :: es) ta)
    (hc : eval (.Call (.Attribute (.Name x p1) "__init__" p2) (e :: es) [] pos) X.env = (do
      let ov ← eval (.Name x p1) X.env
      standAt p2.atName
      let (f, first) ← holding [ov] (getMethod ov "__init__" pl)
      callWith pos f first (backTo pos (starEach (e :: es) X.env)) (backToKw pos (keywordEach [] X.env))) := by rfl)
    (hd : (x == ("__debug__" : Str)) = false := by decide)
    (he : starEach (e :: es) X.env = (false, eval e X.env) :: starEach es X.env := by rfl) (hq : (backTo pos (starEach es X.env)).any (·.1) = false := by rfl) :
    PE X (.Call (.Attribute (.Name x p1) "__init__" p2) (e :: es) [] pos) (tVeI X.K ta) := by
  constructor
  intro pins s σ H Q I h
  refine PySem.W.methodCall_KW (ld_glob I hg hm ?_ hd) hc
  obtain ⟨m, fr⟩ := I.fr
  refine PySem.W.method_of_cls fr I.ok.mod.kin hs (PySem.W.cls_val fr I.ok.mod.kin ht hr hv (by decide +kernel) ?_)
  refine PyProof.Rows.callWith_method1 (thn (ha.run pos pins _ σ H _ (I.tok _) h) ?_) he hq
  rintro us s1 ⟨vs, H1, I1, r1, a, C, ws, ev, hl, T, ea, q⟩
  subst ev
  cases r1 with
  | @cons _ u0 _ ur ra rr =>
    obtain rfl : u0 = Value.ref a := ra
    refine oinit_ok T I1 ea ?_ (fun s' J => ⟨.non, H1, J, rfl, q⟩)
    rw [← Paired.length rr, sizeLine_eq]
    omega
/-- C(e, ..) as a value: a new error, its __init__ keeping sp -/
def tMkV (C : Addr) (sp : Sp) (dvs : List V) (ta : TA) : TE := fun σ H Q => ta σ H fun vs H1 => vs.length ≤ 1000 ∧ ∀ a, H1 a = none → sp (.ref a :: (vs ++ dvs)) (upd H1 a (exo a C none))
  (fun v H2 => v = .non ∧ Q (.ref a) H2) (fun _ _ _ => False)
theorem pe_mkv {CX : CXT} {C fI : Addr} {k : Nat} {fd : FuncData} {ps : List Str} {sp : Sp} {ds : List Value} {dvs : List V} (T : OexC X.K C) (iC : PySem.W.findIn X.K (.ref C) "__init__" = some (some (.ref fI))) (tI : PySem.W.typeIn X.K (.ref fI) = some (.type "function"))
    (F1 : FnOk X.prog X.w X.K X.mg X.base CX k fI fd ps sp) (hr : Room (k + 1) X.A) (hb : Binds X.K fd ps ds) (hd : Vals dvs ds) (hx : Passes CX X (fun _ _ _ => False)) (hg : Gl X x) (hm : X.mg x = some (.ref C)) (ha : PA X (e :: es) ta)
    (hdb : (x == ("__debug__" : Str)) = false := by decide) (he : starEach (e :: es) X.env = (false, eval e X.env) :: starEach es X.env := by rfl) (hq : (backTo pos (starEach es X.env)).any (·.1) = false := by rfl) :
    PE X (.Call (.Name x p) (e :: es) [] pos) (tMkV C sp dvs ta) := by
  constructor
  intro pins s σ H Q I h
  obtain ⟨nm, q, N, bs, bm, sn, sub, ab, col, dd, k0, k1, k2, k3, k5, hC, hbm⟩ := T.cls
  refine wpAny_Call_Name_kw (ld_glob I hg hm ?_ hdb)
  refine PySem.W.callWith_K (h₀ := X.base) I.ok.mod.kin T.kC (thn (ha.run pos pins s σ H _ I h) ?_) he hq
  rintro us s1 ⟨vs, H1, I1, r1, hz, q1⟩
  refine ⟨I1.kIn, ?_⟩
  show wpAny _ _ (call (.ref C) us) _ _ _
  obtain ⟨hp, g, dr, tk, os⟩ := s1
  let a := hp.objs.size + 1
  have hsz : hp.objs.size ≤ a := Nat.le_succ _
  have hn : H1 a = none := I1.hok.fresh hsz
  have hQ := q1 a hn
  let h2 := (hp.push (PySem.W.kdv_tup us)).push (PySem.HandSPX.excO C hp.objs.size)
  have kk : ∀ b o, hp.get? b = some o → h2.get? b = some o := fun b o z => Heap.get?_push_of_some _ (Heap.get?_push_of_some _ z)
  have hget : h2.get? a = some (PySem.HandSPX.excO C hp.objs.size) := by
    show ((hp.push (PySem.W.kdv_tup us)).push (PySem.HandSPX.excO C hp.objs.size)).get? (hp.objs.size + 1) = _
    heap_get
  have I2 : Inv X pins σ (upd H1 a (exo a C none)) ⟨h2, g, dr, tk, os⟩ := I1.laid (t' := tk) (a := a) (o := exo a C none) (h' := h2) kk hsz (exo_ok hget)
  have r2 : Vals (V.ref a :: (vs ++ dvs)) (Value.ref a :: (us ++ ds)) := .cons rfl (r1.append hd)
  have hl : (Value.ref a :: us ++ ds).length = ps.length := by
    have z := r2.length
    rw [F1.len _ _ _ _ hQ] at z
    exact z.symm
  have hus : us.length ≤ sizeLine := by
    rw [← Paired.length r1, sizeLine_eq]
    omega
  refine wpAny_call (PySem.HandSPX.call_own F.excBase_ValueError (fun Y => PySem.HandSPX.refsVE_contains Y bm hbm) (I1.kIn _ _ hC) (PySem.W.looks_findIn I1.kIn iC) (fun self => PySem.W.bind_fn I1.kIn self tI) hus ?_)
  refine codeAny_mono (F1.run _ X.stack _ _ ⟨Value.ref a :: us, []⟩ (Value.ref a :: (us ++ ds)) _ _ (fun _ _ _ => False) (hr.make C us []) (I2.env0.make C us []) (hb _ (Value.ref a :: us) I2.kIn hl) r2 hQ) ?_
  intro r s' hq'
  cases r with
  | error er => exact hx pins σ _ _ er s' I2 hq'
  | ok fl =>
    cases fl with
    | ret u =>
      obtain ⟨v, H2, J, rv, ev, q2⟩ := I2.after hq'
      subst ev
      exact ⟨rv, .ref a, H2, J, rfl, q2⟩
    | next => exact False.elim hq'
    | brk => exact False.elim hq'
    | cont => exact False.elim hq'
/-- an error at a: with a dict at d of the fields fs, or bare -/
def XAt (H : Hp) (a C : Addr) : Prop := H a = some (ExO (.ref C) a) ∨ ∃ d fs, H a = some (exo a C (some d)) ∧ H d = some (exd d fs)
/-- isinstance(e, c) -/
def rIsX (K : PySem.W.Frag) : List V → Hp → VK → Prop := fun xs H Q => ∃ (a C : Addr) (c : V) (u : Value) (b : Bool), xs = [.ref a, c] ∧ ClsV c u ∧ XCls K C ∧ XAt H a C ∧ PySem.W.kitOne K (.ref C) u = some b ∧ Q (.bl b) H
theorem call_isX : CallR X (.builtin "isinstance") (rIsX X.K) := by
  intro pins s σ H xs us Q I r h
  obtain ⟨a, C, c, u, b, rfl, k, T, hX, hk, q⟩ := h
  obtain ⟨u1, u2, rfl, r1, r2⟩ := vals2 r
  obtain rfl := k.eq r2
  obtain rfl : u1 = Value.ref a := r1
  have J : ∃ ox od, PySem.W.InstAt s.heap a ox C od := by
    rcases hX with h | ⟨d, fs, h1, h2⟩
    · obtain ⟨⟨oe, vs, ho, hz, hd, _⟩, _⟩ := I.hok a _ h
      refine ⟨oe, none, ho, hz.1, ?_, ?_⟩
      · unfold PySem.W.notCls
        rw [hd]
      · rw [hz.2]
        trivial
    · obtain ⟨t1, ho⟩ := exo_at I.hok h1
      obtain ⟨mA, hns, _⟩ := exd_at I.hok h2
      obtain ⟨od, hod, _⟩ := lookIn_ns hns
      exact ⟨_, some od, ho, rfl, rfl, hod⟩
  obtain ⟨ox, od, J⟩ := J
  exact PySem.W.kia_one (PySem.W.kitx_exc T.cl T.f.ga T.f.gg T.f.exC T.kl T.sg T.tk T.mo) I.kIn J hk (fun z => nomatch z) fun tk => ⟨.bl b, H, I.tok tk, rfl, q⟩
/-- e.f of an error with its dict -/
def tXfv (K : PySem.W.Frag) (f : Str) (te : TE) : TE := fun σ H Q => te σ H fun x H1 => ∃ (a C d : Addr) (fs : List (Str × V)) (v : V), x = .ref a ∧ XfC K C ∧ PySem.W.findIn K (.ref C) f = some none ∧ H1 a = some (exo a C (some d)) ∧ H1 d = some (exd d fs) ∧ fs.lookup f = some v ∧ Q v H1
theorem pe_xfv (he : PE X e te) (hb : attributeBase e f X.env (eval e X.env) = eval e X.env := by rfl) : PE X (.Attribute e f pos) (tXfv X.K f te) := by
  constructor
  intro pins s σ H Q I h
  refine attr_of hb (thn (he.run pins s σ H _ I h) ?_)
  rintro u s1 ⟨x, H1, I1, rx, a, C, d, fs, v, rfl, T, hno, h1, h2, l, q⟩
  obtain rfl : u = Value.ref a := rx
  obtain ⟨t1, ho⟩ := exo_at I1.hok h1
  obtain ⟨mA, hns, hrel⟩ := exd_at I1.hok h2
  obtain ⟨od, hod, hl⟩ := lookIn_ns hns
  obtain ⟨w', hu, ru⟩ := RelO.some_of (v := v) (o := mA f) (by rw [← l]; exact hrel f)
  have J : PySem.W.InstAt s1.heap a _ C (some od) := ⟨ho, rfl, rfl, hod⟩
  exact HandSPX.exc_get I1.kIn J T.ga T.gg T.exC (PySem.W.findObj_own T.hdC hno rfl (by rw [hl, hu])) (handed_of ru) ⟨v, H1, I1.tok _, ru, q⟩
/-- C() of an error class without an __init__ of its own -/
theorem pe_exc0 {C : Addr} {bmB : List Value} {B newId initId : String} (F : ExcBaseFacts B newId initId bmB) (q : PySem.W.excIn X.K C bmB newId = true) (gC : X.mg x = some (.ref C)) (kC : PySem.W.keepIn X.K (.ref C) = true) (hg : Gl X x)
    (hdb : (x == ("__debug__" : Str)) = false := by decide) : PE X (.Call (.Name x p) [] [] pos) (fun σ H Q => ∀ a, H a = none → Q (.ref a) (upd H a (ExO (.ref C) a))) := by
  constructor
  intro pins s σ H Q I h
  refine wpAny_Call_Name_kw (ld_glob I hg gC ?_ hdb)
  refine PySem.W.callWith_K0 I.kIn kC ?_
  obtain ⟨bm, N, nm, qn, bs, hdct, sn, sub, ab, col, dd, k0, k1, k2, k3, k5, mN, hC, hN, hni, T⟩ := exc_obj I.kIn q
  refine wpAny_call_exc_subT F T hC hN hni (fun h' a hm => ?_) (by show 0 ≤ sizeLine; omega)
  have hn : H a = none := I.hok.gone hm.new
  obtain ⟨t, ht, _, _⟩ := hm.there
  exact ⟨.ref a, upd H a (ExO (.ref C) a), I.laidN hm.keeps hm.new hn (exO_ok ht ⟨rfl, rfl⟩ rfl rfl rfl (show 4 < 6 by decide)), rfl, h a hn⟩
end
end Cl
/-! Own layer, part 2: operators by the kind of the values. -/
namespace Cl
open PySem PySem.Spec PyProof.Rows L2
/-- a text by its codes -/
abbrev S (l : List Nat) : Str := ⟨⟨l⟩⟩
abbrev sv (l : List Nat) : V := .str ⟨⟨l⟩⟩
theorem S_app (a b : List Nat) : S a ++ S b = S (a ++ b) := by
  show (⟨(⟨a⟩ : Array Nat) ++ ⟨b⟩⟩ : Str) = _
  simp
theorem S_len (a : List Nat) : (S a).length = a.length := rfl
def rep (a : List Nat) (k : Nat) : List Nat := (List.replicate k a).flatten
/-- z[lo:hi] -/
def cut {α : Type} (z : List α) (lo hi : Option Int) : List α := (z.drop (HT.sIx z.length 0 lo)).take (HT.sIx z.length z.length hi - HT.sIx z.length 0 lo)
section
variable {X : Cx} {p pos : Pos}
theorem pe_sv {x : Str} {l : List Nat} {j : Nat} (h : x = S l) : PE X (.Constant (.str x) j pos) (tC (sv l)) := by
  subst h
  exact pe_str
/-! ### + - * // % ** -/
def zAdd : R2 := fun x y H Q => match x, y with
  | .int i, .int j => Q (.int (i + j)) H
  | .str ⟨⟨a⟩⟩, .str ⟨⟨b⟩⟩ => a.length + b.length ≤ sizeLine ∧ Q (sv (a ++ b)) H
  | .ref l, .ref b => ∃ xs zs, H l = some (.lst xs) ∧ H b = some (.lst zs) ∧ xs.length + zs.length ≤ sizeLine ∧ ∀ p, H p = none → Q (.ref p) (upd H p (.lst (xs ++ zs)))
  | _, _ => False
theorem oz_add : OpR X (binaryOp .Add) zAdd := by
  intro pins s σ H x y v u Q I rx ry h
  cases x with
  | int i =>
    cases y with
    | int j => exact op_add pins s σ H _ _ v u Q I rx ry ⟨i, j, rfl, rfl, h⟩
    | _ => exact (show False from h).elim
  | str a =>
    cases y with
    | str b =>
      obtain ⟨⟨a⟩⟩ := a
      obtain ⟨⟨b⟩⟩ := b
      obtain ⟨hz, q⟩ : a.length + b.length ≤ sizeLine ∧ Q (sv (a ++ b)) H := h
      exact op_add_str pins s σ H _ _ v u Q I rx ry ⟨_, _, rfl, rfl, hz, by rw [S_app]; exact q⟩
    | _ => exact (show False from h).elim
  | ref l =>
    cases y with
    | ref b =>
      obtain ⟨xs, zs, h1, h2, h3, q⟩ := h
      exact op_cat pins s σ H _ _ v u Q I rx ry ⟨l, b, xs, zs, rfl, rfl, h1, h2, h3, q⟩
    | _ => exact (show False from h).elim
  | _ => exact (show False from h).elim
def zSub : R2 := fun x y H Q => match x, y with
  | .int i, .int j => Q (.int (i - j)) H
  | _, _ => False
theorem oz_sub : OpR X (binaryOp .Sub) zSub := by
  intro pins s σ H x y v u Q I rx ry h
  cases x with
  | int i =>
    cases y with
    | int j => exact op_sub pins s σ H _ _ v u Q I rx ry ⟨i, j, rfl, rfl, h⟩
    | _ => exact (show False from h).elim
  | _ => exact (show False from h).elim
theorem mul_txt (a : List Nat) (k : Int) : Txt.mul (S a) k = S (rep a k.toNat) := by
  unfold Txt.mul
  by_cases h1 : k < 1
  · rw [if_pos h1]
    have : k.toNat = 0 := by omega
    rw [this]
    rfl
  · rw [if_neg h1]
    split
    · rename_i h
      rw [Bool.or_eq_true] at h
      rcases h with h | h
      · have : k = 1 := by simpa using h
        subst this
        show S a = S (List.replicate 1 a).flatten
        simp
      · have : a = [] := by
          have : a.length = 0 := by simpa [S_len] using h
          exact List.length_eq_zero_iff.mp this
        subst this
        show S [] = S (List.replicate k.toNat []).flatten
        simp
    · show (⟨(List.replicate k.toNat (⟨a⟩ : Array Nat)).foldl (· ++ ·) #[]⟩ : Str) = S (rep a k.toNat)
      have : ∀ (n : Nat) (b : List Nat), (List.replicate n (⟨a⟩ : Array Nat)).foldl (· ++ ·) (⟨b⟩ : Array Nat) = ⟨b ++ (List.replicate n a).flatten⟩ := by
        intro n
        induction n with
        | zero => intro b; simp
        | succ n ih =>
          intro b
          rw [List.replicate_succ, List.foldl_cons]
          have e : (⟨b⟩ : Array Nat) ++ ⟨a⟩ = ⟨b ++ a⟩ := by simp
          rw [e, ih, List.replicate_succ, List.flatten_cons, List.append_assoc]
      have e := this k.toNat []
      rw [show (#[] : Array Nat) = ⟨[]⟩ from rfl, e]
      rfl
def zMul : R2 := fun x y H Q => match x, y with
  | .int i, .int j => CMul i j ∧ Q (.int (i * j)) H
  | .str ⟨⟨a⟩⟩, .int k => 0 ≤ k ∧ k ≤ 100000 ∧ a.length ≤ 100 ∧ Q (sv (rep a k.toNat)) H
  | .ref l, .int k => ∃ xs, H l = some (.lst xs) ∧ -(2 ^ 63) ≤ k ∧ k < 2 ^ 63 ∧ xs.length * k.toNat ≤ sizeLine ∧ ∀ p, H p = none → Q (.ref p) (upd H p (.lst (List.replicate k.toNat xs).flatten))
  | _, _ => False
theorem oz_mul : OpR X (binaryOp .Mult) zMul := by
  intro pins s σ H x y v u Q I rx ry h
  cases x with
  | int i =>
    cases y with
    | int j =>
      obtain ⟨hc, q⟩ := h
      exact op_mul pins s σ H _ _ v u Q I rx ry ⟨i, j, rfl, rfl, hc, q⟩
    | _ => exact (show False from h).elim
  | str a =>
    cases y with
    | int k =>
      obtain ⟨⟨a⟩⟩ := a
      obtain ⟨h0, h1, h2, q⟩ : 0 ≤ k ∧ k ≤ 100000 ∧ a.length ≤ 100 ∧ Q (sv (rep a k.toNat)) H := h
      obtain ⟨t, rfl⟩ := rx
      obtain ⟨t', rfl⟩ := ry
      have ok : MulOk (S a) k := by
        refine ⟨?_, fun h _ => ?_, fun h _ => ?_⟩
        · simp only [Bool.or_eq_false_iff, decide_eq_false_iff_not]
          omega
        · rw [S_len]
          have : (2 ^ 63 - 1 : Int) / 100000 ≤ (2 ^ 63 - 1) / k := by
            rw [Int.le_ediv_iff_mul_le (by omega)]
            have : (2 ^ 63 - 1 : Int) / 100000 * k ≤ (2 ^ 63 - 1 : Int) / 100000 * 100000 := Int.mul_le_mul_of_nonneg_left h1 (by decide)
            omega
          omega
        · rw [S_len]
          have e : a.length * k.toNat ≤ 100 * 100000 := Nat.mul_le_mul h2 (by omega)
          unfold PySem.Builtin.Str.tooLong
          have := sizeLine_eq
          simp only [decide_eq_false_iff_not]
          omega
      refine SB.mul ok fun t' tk => ?_
      rw [mul_txt]
      exact ⟨sv (rep a k.toNat), H, I.tok _, ⟨_, rfl⟩, q⟩
    | _ => exact (show False from h).elim
  | ref l =>
    cases y with
    | int k =>
      obtain ⟨xs, h1, h2, h3, h4, q⟩ := h
      exact op_rep pins s σ H _ _ v u Q I rx ry ⟨l, k, xs, rfl, rfl, h1, h2, h3, h4, q⟩
    | _ => exact (show False from h).elim
  | _ => exact (show False from h).elim
def zDiv : R2 := fun x y H Q => match x, y with
  | .int i, .int j => CDiv i j ∧ Q (.int (i / j)) H
  | _, _ => False
theorem oz_div : OpR X (binaryOp .FloorDiv) zDiv := by
  intro pins s σ H x y v u Q I rx ry h
  cases x with
  | int i =>
    cases y with
    | int j => exact op_fdiv pins s σ H _ _ v u Q I rx ry ⟨i, j, rfl, rfl, h.1, h.2⟩
    | _ => exact (show False from h).elim
  | _ => exact (show False from h).elim
def zMod : R2 := fun x y H Q => match x, y with
  | .int i, .int j => 0 < j ∧ Q (.int (i % j)) H
  | _, _ => False
theorem oz_mod : OpR X (binaryOp .Mod) zMod := by
  intro pins s σ H x y v u Q I rx ry h
  cases x with
  | int i =>
    cases y with
    | int j => exact op_mod pins s σ H _ _ v u Q I rx ry ⟨i, j, rfl, rfl, h.1, h.2⟩
    | _ => exact (show False from h).elim
  | _ => exact (show False from h).elim
def zPow : R2 := fun x y H Q => match x, y with
  | .int i, .int j => CPow i j ∧ Q (.int (i ^ j.toNat)) H
  | _, _ => False
theorem oz_pow : OpR X (binaryOp .Pow) zPow := by
  intro pins s σ H x y v u Q I rx ry h
  cases x with
  | int i =>
    cases y with
    | int j => exact op_pow pins s σ H _ _ v u Q I rx ry ⟨i, j, rfl, rfl, h.1, h.2⟩
    | _ => exact (show False from h).elim
  | _ => exact (show False from h).elim
/-! ### < <= > >= -/
def zLt : R2 := fun x y H Q => match x, y with
  | .int i, .int j => Q (.bl (decide (i < j))) H
  | _, _ => False
def zLe : R2 := fun x y H Q => match x, y with
  | .int i, .int j => Q (.bl (decide (i ≤ j))) H
  | _, _ => False
def zGt : R2 := fun x y H Q => match x, y with
  | .int i, .int j => Q (.bl (decide (j < i))) H
  | _, _ => False
def zGe : R2 := fun x y H Q => match x, y with
  | .int i, .int j => Q (.bl (decide (j ≤ i))) H
  | _, _ => False
theorem oz_lt : OpR X (compareOp .Lt) zLt := by
  intro pins s σ H x y v u Q I rx ry h
  cases x with
  | int i =>
    cases y with
    | int j => exact op_lt pins s σ H _ _ v u Q I rx ry ⟨i, j, rfl, rfl, h⟩
    | _ => exact (show False from h).elim
  | _ => exact (show False from h).elim
theorem oz_le : OpR X (compareOp .LtE) zLe := by
  intro pins s σ H x y v u Q I rx ry h
  cases x with
  | int i =>
    cases y with
    | int j => exact op_le pins s σ H _ _ v u Q I rx ry ⟨i, j, rfl, rfl, h⟩
    | _ => exact (show False from h).elim
  | _ => exact (show False from h).elim
theorem oz_gt : OpR X (compareOp .Gt) zGt := by
  intro pins s σ H x y v u Q I rx ry h
  cases x with
  | int i =>
    cases y with
    | int j => exact op_gt pins s σ H _ _ v u Q I rx ry ⟨i, j, rfl, rfl, h⟩
    | _ => exact (show False from h).elim
  | _ => exact (show False from h).elim
theorem oz_ge : OpR X (compareOp .GtE) zGe := by
  intro pins s σ H x y v u Q I rx ry h
  cases x with
  | int i =>
    cases y with
    | int j => exact op_ge pins s σ H _ _ v u Q I rx ry ⟨i, j, rfl, rfl, h⟩
    | _ => exact (show False from h).elim
  | _ => exact (show False from h).elim
/-! ### == != -/
/-- the answer of x == y for plain values; none: not by this rule -/
def eqB : V → V → Option Bool
  | .non, .non => some true
  | .non, .int _ | .int _, .non | .non, .bl _ | .bl _, .non | .non, .str _ | .str _, .non | .int _, .str _ | .str _, .int _ | .bl _, .str _ | .str _, .bl _ => some false
  | .int i, .int j => some (decide (i = j))
  | .bl i, .bl j => some (decide (i = j))
  | .str ⟨⟨a⟩⟩, .str ⟨⟨b⟩⟩ => some (decide (a = b))
  | _, _ => none
theorem eqB_scal {x y : V} {b : Bool} (h : eqB x y = some b) : scal x y = true ∧ decide (x = y) = b := by
  cases x <;> cases y <;> first
    | (refine ⟨rfl, ?_⟩; have := Option.some.inj h; subst this; simp; done)
    | (refine ⟨rfl, ?_⟩; have := Option.some.inj h; subst this; rw [Bool.eq_iff_iff]; simp; done)
    | (rename_i a b; obtain ⟨⟨a⟩⟩ := a; obtain ⟨⟨b⟩⟩ := b; refine ⟨rfl, ?_⟩; have := Option.some.inj h; subst this; rw [Bool.eq_iff_iff]; simp; done)
    | (cases h; done)
def zEq (K : PySem.W.Frag) : R2 := fun x y H Q => match eqB x y with
  | some b => Q (.bl b) H
  | none => ∃ d e, Dp K H x d ∧ Dp K H y e ∧ SeqAt.shaped d = true ∧ SeqAt.shaped e = true ∧ Q (.bl (PyData.eqv d e)) H
def zNe (K : PySem.W.Frag) : R2 := fun x y H Q => match eqB x y with
  | some b => Q (.bl (!b)) H
  | none => ∃ d e, Dp K H x d ∧ Dp K H y e ∧ SeqAt.shaped d = true ∧ SeqAt.shaped e = true ∧ Q (.bl (!PyData.eqv d e)) H
theorem oz_eq (hu : X.A.units + 64 < cLine) : OpR X (compareOp .Eq) (zEq X.K) := by
  intro pins s σ H x y v u Q I rx ry h
  unfold zEq at h
  split at h
  · rename_i b e
    obtain ⟨h1, h2⟩ := eqB_scal e
    exact op_eq pins s σ H _ _ v u Q I rx ry ⟨h1, by rw [h2]; exact h⟩
  · exact op_eqD hu pins s σ H _ _ v u Q I rx ry h
theorem oz_ne (hu : X.A.units + 64 < cLine) : OpR X (compareOp .NotEq) (zNe X.K) := by
  intro pins s σ H x y v u Q I rx ry h
  unfold zNe at h
  split at h
  · rename_i b e
    obtain ⟨h1, h2⟩ := eqB_scal e
    exact op_ne pins s σ H _ _ v u Q I rx ry ⟨h1, by rw [h2]; exact h⟩
  · exact op_neD hu pins s σ H _ _ v u Q I rx ry h
theorem hu64 {A : Around} {k : Nat} (hr : Room k A) : A.units + 64 < cLine := hr.units
/-! ### is, is not -/
def zIs : R2 := fun x y H Q => match x, y with
  | .bl a, .bl b => Q (.bl (decide (a = b))) H
  | x, .non => Q (.bl (decide (x = .non))) H
  | _, _ => False
def zIsNot : R2 := fun x y H Q => match x, y with
  | .bl a, .bl b => Q (.bl (!decide (a = b))) H
  | x, .non => Q (.bl (!decide (x = .non))) H
  | _, _ => False
theorem oz_is : OpR X (compareOp .Is) zIs := by
  intro pins s σ H x y v u Q I rx ry h
  cases y with
  | non =>
    cases x <;> exact op_isN pins s σ H _ _ v u Q I rx ry ⟨rfl, h⟩
  | bl b =>
    cases x with
    | bl a => exact op_isBl pins s σ H _ _ v u Q I rx ry ⟨a, b, rfl, rfl, h⟩
    | _ => exact (show False from h).elim
  | _ => cases x <;> exact (show False from h).elim
theorem oz_isnot : OpR X (compareOp .IsNot) zIsNot := by
  intro pins s σ H x y v u Q I rx ry h
  cases y with
  | non =>
    cases x <;> exact op_notN pins s σ H _ _ v u Q I rx ry ⟨rfl, h⟩
  | bl b =>
    cases x with
    | bl a => exact op_notBl pins s σ H _ _ v u Q I rx ry ⟨a, b, rfl, rfl, h⟩
    | _ => exact (show False from h).elim
  | _ => cases x <;> exact (show False from h).elim
/-! ### a[i], a[lo:hi] -/
def zIx (K : PySem.W.Frag) : R2 := fun x y H Q => match x, y with
  | .ref p, .int i => ∃ xs v, (SqL K H p xs ∨ SqT K H p xs) ∧ atI xs i = some v ∧ Q v H
  | .str ⟨⟨z⟩⟩, .int i => ∃ c, z.length ≤ sizeLine ∧ atI z i = some c ∧ Q (sv [c]) H
  | _, _ => False
theorem iz_ix : IxR X (zIx X.K) := by
  intro value slice pins s σ H x y v u Q I rx ry h hs
  cases x with
  | ref p =>
    cases y with
    | int i =>
      obtain ⟨xs, z, h1, h2, q⟩ := h
      rcases h1 with h1 | h1
      · exact ix_list value slice pins s σ H _ _ v u Q I rx ry ⟨p, xs, i, z, rfl, rfl, h1, h2, q⟩ hs
      · exact ix_tup value slice pins s σ H _ _ v u Q I rx ry ⟨p, xs, i, z, rfl, rfl, h1, h2, q⟩ hs
    | _ => exact (show False from h).elim
  | str z =>
    cases y with
    | int i =>
      obtain ⟨⟨z⟩⟩ := z
      obtain ⟨c, h1, h2, q⟩ : ∃ c, z.length ≤ sizeLine ∧ atI z i = some c ∧ Q (sv [c]) H := h
      exact ix_str value slice pins s σ H _ _ v u Q I rx ry ⟨S z, i, c, rfl, rfl, h1, h2, q⟩ hs
    | _ => exact (show False from h).elim
  | _ => exact (show False from h).elim
def zSl (K : PySem.W.Frag) : V → Option Int → Option Int → Hp → VK → Prop := fun x lo hi H Q => match x with
  | .str ⟨⟨z⟩⟩ => z.length ≤ sizeLine ∧ Q (sv (cut z lo hi)) H
  | .ref a => ∃ xs, SqL K H a xs ∧ ∀ p, H p = none → Q (.ref p) (upd H p (.lst (cut xs lo hi)))
  | _ => False
theorem sz_sl : SlR X (zSl X.K) := by
  intro pins s σ H x v vl vu lo hi sl Q I rx hs pl pu h
  cases x with
  | str z =>
    obtain ⟨⟨z⟩⟩ := z
    obtain ⟨hz, q⟩ : z.length ≤ sizeLine ∧ Q (sv (cut z lo hi)) H := h
    exact sl_str pins s σ H _ v vl vu lo hi sl Q I rx hs pl pu ⟨S z, rfl, hz, q⟩
  | ref a =>
    obtain ⟨xs, h1, q⟩ := h
    exact sl_list pins s σ H _ v vl vu lo hi sl Q I rx hs pl pu ⟨a, xs, rfl, h1, q⟩
  | _ => exact (show False from h).elim
/-! ### calls -/
def zLen (K : PySem.W.Frag) : List V → Hp → VK → Prop := fun xs H Q => ∃ x n, xs = [x] ∧ LenV K x H n ∧ Q (.int n) H
theorem cz_len : CallR X (.builtin "len") (zLen X.K) := call_len
def zInt : List V → Hp → VK → Prop := fun xs H Q => match xs with
  | [.int i] => Q (.int i) H
  | _ => False
theorem cz_int : CallR X (.type "int") zInt := by
  intro pins s σ H xs us Q I r h
  match xs, h with
  | [.int i], h => exact call_int1 pins s σ H _ us Q I r (Or.inl ⟨i, rfl, h⟩)
/-- list(x): of a list, a tuple, a text -/
def zList (K : PySem.W.Frag) : List V → Hp → VK → Prop := fun xs H Q => match xs with
  | [.ref p] => ∃ ys, (SqL K H p ys ∨ SqT K H p ys) ∧ ∀ l, H l = none → Q (.ref l) (upd H l (.lst ys))
  | _ => False
theorem cz_list : CallR X (.type "list") (zList X.K) := by
  intro pins s σ H xs us Q I r h
  match xs, h with
  | [.ref p], ⟨ys, h1, q⟩ => exact call_list_of pins s σ H _ us Q I r ⟨p, ys, rfl, h1, q⟩
def zIsi (K : PySem.W.Frag) : List V → Hp → VK → Prop := fun xs H Q => rIsX K xs H Q ∨ rIsi K xs H Q
theorem cz_isi : CallR X (.builtin "isinstance") (zIsi X.K) := CallR.or call_isX call_isi
end
end Cl
/-! Own layer, part 3: facts of the written part, and steps. -/
namespace Cl
open PySem PySem.Spec PyProof.Rows L2 He
def fdOf (K : PySem.W.Frag) (p : Str × Option Str) : FuncData := match K.lookup (fAd K p) with
  | some ⟨_, _, .func fd, _⟩ => fd
  | _ => default
theorem fn_at {K : PySem.W.Frag} {x q : Str} {a : Arguments} {b : List Stmt} {sc : Scope} {dvs : List V} {kws : List (Str × V)} {p : Str × Option Str} (h : ∃ fd, FunD K x q a b sc dvs kws (fAd K p) fd) : FunD K x q a b sc dvs kws (fAd K p) (fdOf K p) := by
  obtain ⟨fd, F⟩ := h
  have e : fdOf K p = fd := by
    obtain ⟨oc, od, dV, kV, doc, pm, an, cdv, ct, osl, rfl, lk, _⟩ := F.ex
    unfold fdOf
    rw [lk]
  rw [e]
  exact F
/-! ### an error class, by a look -/
def oexB (K : PySem.W.Frag) (C : Addr) : Bool := match K.lookup C with
  | some ⟨.type "type", _, .cls cd, sl⟩ => (match cd.mro, sl.toList with
    | .ref D :: bm, [_, _, _, _, some (.builtin n), _] => decide (D = C) && (decide (n = "ValueError.__new__") && (!cd.hasDel && (cd.hasDict && PySem.HandSPX.refsVE bm)))
    | _, _ => false)
  | _ => false
theorem oexB_ok {K : PySem.W.Frag} {C : Addr} (h : oexB K C = true) : ∃ nm q N bs bm sn sub ab col dd k0 k1 k2 k3 k5, K.lookup C = some (excClassObj nm q C N bs bm true sn sub ab col dd k0 k1 k2 k3 k5 "ValueError.__new__") ∧ PySem.HandSPX.refsVE bm = true := by
  unfold oexB at h
  split at h
  · rename_i dd cd sl ho
    split at h
    · rename_i D bm k0 k1 k2 k3 n k5 hm hs
      obtain ⟨h1, h⟩ := ba h
      obtain ⟨h2, h⟩ := ba h
      obtain ⟨h3, h⟩ := ba h
      obtain ⟨h4, h5⟩ := ba h
      obtain rfl := of_decide_eq_true h1
      obtain rfl := of_decide_eq_true h2
      obtain ⟨nm, bs, mro, ns, qn, hd, sn, sub, ab, col, del⟩ := cd
      obtain ⟨l⟩ := sl
      dsimp only at hm hs h3 h4
      subst hm hs h4
      have hdel : del = false := by simpa using h3
      subst hdel
      exact ⟨nm, qn, ns, bs, bm, sn, sub, ab, col, dd, k0, k1, k2, k3, k5, ho, h5⟩
    · cases h
  · cases h
def xclsB (K : PySem.W.Frag) (C : Addr) : Bool := oexB K C && (decide (PySem.W.findIn K (.ref C) "__setattr__" = some (some (.builtin "object.__setattr__"))) && (decide (PySem.W.typeIn K (.ref C) = some (.type "type")) && (PySem.W.keepIn K (.ref C) &&
  (xfB K C && ((PySem.W.clsIn K C).isSome && (decide (PySem.W.findIn K (.ref C) "__class__" = some (some (.builtin "object.__class__"))) && (decide (PySem.W.specialIn K (.builtin "object.__class__") "__get__" = some (some (.builtin "getset_descriptor.__get__"))) &&
  (decide (PySem.W.takesIn K (.builtin "object.__class__") = some true) && decide (PySem.W.mroIn K C (.type "object") = some true)))))))))
theorem xclsB_ok {K : PySem.W.Frag} {C : Addr} (h : xclsB K C = true) : XCls K C := by
  obtain ⟨h1, h⟩ := ba h
  obtain ⟨h2, h⟩ := ba h
  obtain ⟨h3, h⟩ := ba h
  obtain ⟨h4, h⟩ := ba h
  obtain ⟨h5, h⟩ := ba h
  obtain ⟨h6, h⟩ := ba h
  obtain ⟨h7, h⟩ := ba h
  obtain ⟨h8, h⟩ := ba h
  obtain ⟨h9, h10⟩ := ba h
  have f := xfB_ok h5
  exact ⟨⟨oexB_ok h1, of_decide_eq_true h2, f.exC, of_decide_eq_true h3, h4⟩, f, h6, of_decide_eq_true h7, of_decide_eq_true h8, of_decide_eq_true h9, of_decide_eq_true h10⟩
/-- B hands its subclasses ValueError's own __init__ -/
structure BInit (K : PySem.W.Frag) (B : Addr) : Prop where
  s : PySem.W.specialIn K (.ref B) "__getattribute__" = some (some (.builtin "type.__getattribute__"))
  t : PySem.W.typeIn K (.ref B) = some (.type "type")
  r : PySem.W.readsIn K B (.type "type") = true
  v : PySem.W.findCls K (.ref B) (.type "type") "__init__" = some (.val (.builtin "ValueError.__init__"))
def binitB (K : PySem.W.Frag) (B : Addr) : Bool := decide (PySem.W.specialIn K (.ref B) "__getattribute__" = some (some (.builtin "type.__getattribute__"))) && (decide (PySem.W.typeIn K (.ref B) = some (.type "type")) && (PySem.W.readsIn K B (.type "type") &&
  (match PySem.W.findCls K (.ref B) (.type "type") "__init__" with
    | some (.val (.builtin n)) => decide (n = "ValueError.__init__")
    | _ => false)))
theorem binitB_ok {K : PySem.W.Frag} {B : Addr} (h : binitB K B = true) : BInit K B := by
  obtain ⟨h1, h⟩ := ba h
  obtain ⟨h2, h⟩ := ba h
  obtain ⟨h3, h4⟩ := ba h
  refine ⟨of_decide_eq_true h1, of_decide_eq_true h2, h3, ?_⟩
  split at h4
  · rename_i n e
    rw [e, of_decide_eq_true h4]
  · cases h4
/-! ### the head's facts: the module's names and what they reach, and the statics -/
noncomputable def asC (g : Addr → Option Obj) (n : Nat) : List Addr := asD g n ++ [PySem.cStatics]
noncomputable def obsC (n : Nat) (fa : List Fa) (fn : List DefD) (ts : List Tab) (ex : PySem.W.Frag → Bool) (g : Addr → Option Obj) : AlT × Bool := (obsT fa fn ts (frG g (asC g n)), ex (frG g (asC g n)))
structure SaysC (fa : List Fa) (fn : List DefD) (ts : List Tab) (ex : PySem.W.Frag → Bool) (w : World) (K : PySem.W.Frag) : Prop where
  t : SaysT fa fn ts w K
  more : ex K = true
noncomputable def hookC (n : Nat) (fa : List Fa) (fn : List DefD) (ts : List Tab) (ex : PySem.W.Frag → Bool) : PySem.W.Hook where
  α := AlT × Bool
  obs := fun s => obsC n fa fn ts ex s.heap.get?
  val := fun w => (valT fn ts w, true)
  says := fun w h => ∃ K : PySem.W.Frag, K.In h ∧ SaysC fa fn ts ex w K
  of := fun _ _ e => ⟨_, frG_in, ⟨congrArg Prod.fst e, congrArg Prod.snd e⟩⟩
  keeps := fun _ _ _ ⟨K, hK, c⟩ k => ⟨K, PySem.W.Frag.In.keeps hK k, c⟩
theorem obsC_eq {n : Nat} {fa : List Fa} {fn : List DefD} {ts : List Tab} {ex : PySem.W.Frag → Bool} {g : Addr → Option Obj} {s : Shared} (h : ∀ a, g a = s.heap.get? a) : obsC n fa fn ts ex g = (hookC n fa fn ts ex).obs s := by
  have e : g = s.heap.get? := funext h
  subst e
  rfl
/-! ### steps -/
section
variable {t u : TS} {te ta tb : TE} {tt tu : TT} {tr : TA} {D : Ends} {σ σ' : L2.St} {H : Hp} {Q : VK} {QB : Bool → Hp → Prop} {QA : List V → Hp → Prop} {g : TG} {i : Nat} {v : V} {r : R2} {K : PySem.W.Frag} {xs : List V} {p : Addr}
theorem s_seq (h : t { D with nx := u D } σ H) : tSeq t u D σ H := h
theorem s_asg (h : te σ H fun x H1 => g x σ H1 D.nx) : tAsg te g D σ H := h
theorem s_ret (h : te σ H D.rt) : tRet te D σ H := h
theorem s_drop (h : te σ H fun _ H1 => D.nx σ H1) : tDrop te D σ H := h
theorem s_next (h : D.nx σ H) : tNext D σ H := h
theorem s_if (h : tt σ H fun b H1 => if b = true then t D σ H1 else u D σ H1) : tIfS tt t u D σ H := h
theorem s_var (e : σ[i]? = some (some v)) (h : Q v H) : tVar i σ H Q := ⟨v, e, h⟩
theorem s_c (h : Q v H) : tC v σ H Q := h
theorem s_op (h : ta σ H fun x H1 => tb σ H1 fun y H2 => r x y H2 Q) : tOp r ta tb σ H Q := h
theorem s_nil (h : QA [] H) : tNil σ H QA := h
theorem s_cons (h : te σ H fun x H1 => tr σ H1 fun xs H2 => QA (x :: xs) H2) : tCons te tr σ H QA := h
theorem s_cb {rr : List V → Hp → VK → Prop} (h : tr σ H fun vs H1 => rr vs H1 Q) : tCB rr tr σ H Q := h
theorem s_call {sp : Sp} {dvs : List V} {E : XK} (h : tr σ H fun vs H1 => sp (vs ++ dvs) H1 Q E) : tCall sp dvs E tr σ H Q := h
theorem s_test (h : te σ H fun x H1 => ∃ k, x = .bl k ∧ QB k H1) : tTest te σ H QB := h
theorem s_tb (h : te σ H fun x H1 => ∃ k, x = .bl k ∧ QB k H1) : tB te σ H QB := h
theorem s_bl {b : Bool} {QP : Bool → Prop} (h : QP b) : ∃ k, V.bl b = .bl k ∧ QP k := ⟨b, rfl, h⟩
theorem s_not (h : tt σ H fun c H1 => QB (!c) H1) : tNot tt σ H QB := h
theorem s_and (h : tt σ H fun c H1 => if c = true then tu σ H1 QB else QB false H1) : tAnd tt tu σ H QB := h
theorem s_or (h : tt σ H fun c H1 => if c = true then QB true H1 else tu σ H1 QB) : tOr tt tu σ H QB := h
theorem s_ife (h : tt σ H fun c H1 => if c = true then ta σ H1 Q else tb σ H1 Q) : tIf tt ta tb σ H Q := h
theorem s_name {QS : L2.St → Hp → Prop} (h : QS (σ.set i (some v)) H) : gName i v σ H QS := h
theorem s_sub {to ti : TE} {ts : TSet} {QS : L2.St → Hp → Prop} (h : to σ H fun o H1 => ti σ H1 fun i H2 => ts o i v H2 fun H3 => QS σ H3) : gSub to ti ts v σ H QS := h
theorem s_sl {rr : V → Option Int → Option Int → Hp → VK → Prop} {tl th : TO} (h : te σ H fun x H1 => tl σ H1 fun l H2 => th σ H2 fun u H3 => rr x l u H3 Q) : tSl rr te tl th σ H Q := h
theorem s_nopart {QO : Option Int → Hp → Prop} (h : QO none H) : tNoPart σ H QO := h
theorem s_part {QO : Option Int → Hp → Prop} (h : te σ H fun x H1 => ∃ i, x = .int i ∧ QO (some i) H1) : tPart te σ H QO := h
theorem s_int {QI : Int → Prop} {i : Int} (h : QI i) : ∃ k, V.int i = .int k ∧ QI k := ⟨i, rfl, h⟩
theorem s_lst (h : tr σ H fun xs H1 => xs.length ≤ sizeLine ∧ ∀ p, H1 p = none → Q (.ref p) (upd H1 p (.lst xs))) : tLst tr σ H Q := h
theorem s_tup (h : tr σ H fun xs H1 => xs.length ≤ sizeLine ∧ ∀ p, H1 p = none → Q (.ref p) (upd H1 p (.tup xs))) : tTup tr σ H Q := h
theorem s_bm {T : String} {rr : V → List V → Hp → VK → Prop} (h : te σ H fun x H1 => tyV K T x H1 ∧ tr σ H1 fun xs H2 => rr x xs H2 Q) : tBM K T rr te tr σ H Q := h
/-- a new object, the heap named anew -/
theorem same_upd {o : HO} (hp : H p = none) : Same H (upd H p o) := fun b u e => by
  rw [upd_ne (ne_of_none e hp)]
  exact e
end
end Cl
/-! Own layer, part 4: methods, the bag of the laws. -/
namespace Cl
open PySem PySem.Spec PyProof.Rows L2 He
section
variable {X : Cx}
def zApp : V → List V → Hp → VK → Prop := fun x vs H Q => match x, vs with
  | .ref l, [y] => ∃ xs, H l = some (.lst xs) ∧ xs.length < sizeLine ∧ Q .non (upd H l (.lst (xs ++ [y])))
  | _, _ => False
theorem mz_app : MtR X "list.append" zApp := by
  intro pins s σ H x vs v us Q I rx rv h
  match x, vs, h with
  | .ref l, [y], ⟨xs, h1, h2, q⟩ => exact mt_append pins s σ H _ _ v us Q I rx rv ⟨l, xs, y, rfl, rfl, h1, h2, q⟩
end
/-- the truth of a value, as a test -/
def tTru (K : PySem.W.Frag) (ta : TE) : TT := fun σ H Q => ta σ H fun x H' => ∃ k, TruV K x H' k ∧ Q k H'
/-! ### heaps -/
theorem upd_old {H : Hp} {p a : Addr} {o u : HO} (hp : H p = none) (h : H a = some u) : upd H p o a = some u := by
  rw [upd_ne (ne_of_none h hp)]
  exact h
theorem upd_far {H : Hp} {p a : Addr} {o u : HO} (hp : a ≠ p) (h : H a = some u) : upd H p o a = some u := by
  rw [upd_ne hp]
  exact h
theorem sq_of {K : PySem.W.Frag} {H : Hp} {a : Addr} {xs : List V} (h : H a = some (.lst xs)) : SqL K H a xs := Or.inl (Or.inl h)
theorem sm_at {H H' : Hp} {a : Addr} {o : HO} (s : Same H H') (h : H a = some o) : H' a = some o := s a o h
theorem fresh_ne {H : Hp} {a p : Addr} {o : HO} (h : H a = some o) (hp : H p = none) : p ≠ a := fun e => by
  rw [e, h] at hp
  cases hp
theorem fresh_upd {H : Hp} {p q : Addr} {o : HO} (h : upd H p o q = none) : H q = none ∧ q ≠ p := by
  by_cases e : q = p
  · rw [e, upd_same] at h
    cases h
  · rw [upd_ne e] at h
    exact ⟨h, e⟩
/-! ### steps over values -/
section
variable {H : Hp} {Q : VK} {K : PySem.W.Frag} {xs : List V} {v : V} {p : Addr} {i : Int} {n : Nat}
theorem s_addI {i j : Int} (h : Q (.int (i + j)) H) : zAdd (.int i) (.int j) H Q := h
theorem s_subI {i j : Int} (h : Q (.int (i - j)) H) : zSub (.int i) (.int j) H Q := h
theorem s_ltI {i j : Int} (h : Q (.bl (decide (i < j))) H) : zLt (.int i) (.int j) H Q := h
theorem s_leI {i j : Int} (h : Q (.bl (decide (i ≤ j))) H) : zLe (.int i) (.int j) H Q := h
theorem s_gtI {i j : Int} (h : Q (.bl (decide (j < i))) H) : zGt (.int i) (.int j) H Q := h
theorem s_geI {i j : Int} (h : Q (.bl (decide (j ≤ i))) H) : zGe (.int i) (.int j) H Q := h
theorem s_intc {i : Int} (h : Q (.int i) H) : zInt [.int i] H Q := h
theorem s_eq {x y : V} {b : Bool} (e : eqB x y = some b) (h : Q (.bl b) H) : zEq K x y H Q := by
  unfold zEq
  rw [e]
  exact h
theorem s_ne {x y : V} {b : Bool} (e : eqB x y = some b) (h : Q (.bl (!b)) H) : zNe K x y H Q := by
  unfold zNe
  rw [e]
  exact h
theorem s_addS {a b : List Nat} (hz : a.length + b.length ≤ sizeLine) (h : Q (sv (a ++ b)) H) : zAdd (sv a) (sv b) H Q := ⟨hz, h⟩
theorem s_ixL (h : H p = some (.lst xs)) (e : atI xs i = some v) (q : Q v H) : zIx K (.ref p) (.int i) H Q := ⟨xs, v, Or.inl (sq_of h), e, q⟩
theorem s_lenL (h : H p = some (.lst xs)) (q : Q (.int xs.length) H) : zLen K [.ref p] H Q := ⟨_, _, rfl, Or.inl ⟨xs, sq_of h, rfl⟩, q⟩
theorem s_lenS {z : List Nat} (h : z.length ≤ sizeLine) (q : Q (.int z.length) H) : zLen K [sv z] H Q := ⟨_, _, rfl, ⟨h, rfl⟩, q⟩
end
/-! ### the bag: its cells, the place, what is left of a great number, the seed -/
abbrev BagC (H : Hp) (b c : Addr) : Prop := ∃ (ns : List Int) (pos rest seed : Int), H b = some (.lst [.ref c, .int pos, .int rest, .int seed]) ∧ H c = some (.lst (ns.map V.int)) ∧ c ≠ b ∧ 0 ≤ pos
def Bag (H : Hp) (b : Addr) : Prop := ∃ c, BagC H b c
theorem BagC.same {H H' : Hp} {b c : Addr} (h : BagC H b c) (s : Same H H') : BagC H' b c := by
  obtain ⟨ns, pos, rest, seed, h1, h2, h3, h4⟩ := h
  exact ⟨ns, pos, rest, seed, s _ _ h1, s _ _ h2, h3, h4⟩
/-- an object that is neither the bag nor its cells may change -/
theorem BagC.far {H : Hp} {b c D : Addr} {o : HO} (h : BagC H b c) (h1 : D ≠ b) (h2 : D ≠ c) : BagC (upd H D o) b c := by
  obtain ⟨ns, pos, rest, seed, g1, g2, g3, g4⟩ := h
  exact ⟨ns, pos, rest, seed, by rw [upd_ne (Ne.symm h1)]; exact g1, by rw [upd_ne (Ne.symm h2)]; exact g2, g3, g4⟩
theorem BagC.ne {H : Hp} {b c D : Addr} (h : BagC H b c) (hD : H D = none) : D ≠ b ∧ D ≠ c := by
  obtain ⟨ns, pos, rest, seed, g1, g2, g3, g4⟩ := h
  exact ⟨(ne_of_none g1 hD).symm, (ne_of_none g2 hD).symm⟩
/-- all is kept but the bag, which is a bag -/
structure Bst (b : Addr) (H H' : Hp) : Prop where
  keep : ∀ a o, a ≠ b → H a = some o → H' a = some o
  bag : Bag H' b
  cell : ∀ c, BagC H b c → BagC H' b c
theorem Bag.some {H : Hp} {b : Addr} (h : Bag H b) : ∃ o, H b = some o := by
  obtain ⟨c, ns, pos, rest, seed, h, _⟩ := h
  exact ⟨_, h⟩
theorem Bst.refl {b : Addr} {H : Hp} (h : Bag H b) : Bst b H H := ⟨fun _ _ _ z => z, h, fun _ z => z⟩
theorem Bst.trans {b : Addr} {H H1 H2 : Hp} (a : Bst b H H1) (c : Bst b H1 H2) : Bst b H H2 := ⟨fun x o hx h => c.keep x o hx (a.keep x o hx h), c.bag, fun d z => c.cell d (a.cell d z)⟩
theorem Bst.fresh {b : Addr} {H H' : Hp} (a : Bst b H H') {p : Addr} (h : H' p = none) : H p = none := by
  cases e : H p with
  | none => rfl
  | some o =>
    by_cases hb : p = b
    · obtain ⟨u, hu⟩ := a.bag.some
      rw [hb, hu] at h
      cases h
    · rw [a.keep p o hb e] at h
      cases h
theorem Bag.same {H H' : Hp} {b : Addr} (h : Bag H b) (s : Same H H') : Bag H' b := by
  obtain ⟨c, ns, pos, rest, seed, h1, h2, h3, h4⟩ := h
  exact ⟨c, ns, pos, rest, seed, s _ _ h1, s _ _ h2, h3, h4⟩
theorem Bst.of_same {H H' : Hp} {b : Addr} (h : Bag H b) (s : Same H H') : Bst b H H' := ⟨fun a o _ z => s a o z, h.same s, fun _ z => BagC.same z s⟩
def sp_l_bag (K : PySem.W.Frag) : Sp := fun vs H Q _ => ∃ (a : Addr) (ns : List Int), vs = [.ref a] ∧ SqL K H a (ns.map V.int) ∧ ∀ b H', Bag H' b → Same H H' → H b = none → Q (.ref b) H'
def sp_l_take (K : PySem.W.Frag) : Sp := fun vs H Q _ => ∃ (b : Addr) (n : Int), vs = [.ref b, .int n] ∧ Bag H b ∧ 0 < n ∧ n < 1073741824 ∧ ∀ (r : Int) H', 0 ≤ r → r < n → Bst b H H' → Q (.int r) H'
theorem len_l_bag {K : PySem.W.Frag} (vs : List V) (H : Hp) (Q : VK) (E : XK) (h : sp_l_bag K vs H Q E) : vs.length = 1 := by
  obtain ⟨a, ns, rfl, _⟩ := h
  rfl
theorem len_l_take {K : PySem.W.Frag} (vs : List V) (H : Hp) (Q : VK) (E : XK) (h : sp_l_take K vs H Q E) : vs.length = 2 := by
  obtain ⟨a, ns, rfl, _⟩ := h
  rfl
/-! ### errors: __init__ with one field, with two -/
def spX1 (C : Addr) (f : Str) : Sp := fun vs H Q _ => ∃ (a : Addr) (v : V), vs = [.ref a, v] ∧ H a = some (exo a C none) ∧ ∀ d, H d = none → d ≠ a → Q .non (upd (upd H d (exd d [(f, v)])) a (exo a C (some d)))
def spX2 (C : Addr) (f g : Str) : Sp := fun vs H Q _ => ∃ (a : Addr) (v u : V), vs = [.ref a, v, u] ∧ H a = some (exo a C none) ∧ ∀ d, H d = none → d ≠ a → Q .non (upd (upd (upd H d (exd d [(f, v)])) a (exo a C (some d))) d (exd d [(g, u), (f, v)]))
theorem len_X1 {C : Addr} {f : Str} (vs : List V) (H : Hp) (Q : VK) (E : XK) (h : spX1 C f vs H Q E) : vs.length = 2 := by
  obtain ⟨a, v, rfl, _⟩ := h
  rfl
theorem len_X2 {C : Addr} {f g : Str} (vs : List V) (H : Hp) (Q : VK) (E : XK) (h : spX2 C f g vs H Q E) : vs.length = 3 := by
  obtain ⟨a, v, u, rfl, _⟩ := h
  rfl
/-- an error of the class C at a, with its fields -/
def XF (H : Hp) (a C : Addr) (fs : List (Str × V)) : Prop := ∃ d, H a = some (exo a C (some d)) ∧ H d = some (exd d fs)
theorem XF.same {H H' : Hp} {a C : Addr} {fs : List (Str × V)} (h : XF H a C fs) (s : Same H H') : XF H' a C fs := by
  obtain ⟨d, h1, h2⟩ := h
  exact ⟨d, s _ _ h1, s _ _ h2⟩
theorem XF.at {H : Hp} {a C : Addr} {fs : List (Str × V)} (h : XF H a C fs) : XAt H a C := by
  obtain ⟨d, h1, h2⟩ := h
  exact Or.inr ⟨d, fs, h1, h2⟩
theorem XAt.same {H H' : Hp} {a C : Addr} (h : XAt H a C) (s : Same H H') : XAt H' a C := by
  rcases h with h | ⟨d, fs, h1, h2⟩
  · exact Or.inl (s _ _ h)
  · exact Or.inr ⟨d, fs, s _ _ h1, s _ _ h2⟩
theorem same_mk {H : Hp} {a d C : Addr} {o1 o2 : HO} {x : HO} (ha : H a = none) (hd : upd H a x d = none) : Same H (upd (upd (upd H a x) d o1) a o2) := fun b u e => by
  obtain ⟨h1, _⟩ := fresh_upd hd
  rw [upd_ne (ne_of_none e ha), upd_ne (ne_of_none e h1), upd_ne (ne_of_none e ha)]
  exact e
/-- C(v) -/
theorem s_mk1 {C : Addr} {f : Str} {v : V} {H : Hp} {Q : VK} (h : ∀ a H', H a = none → Same H H' → XF H' a C [(f, v)] → Q (.ref a) H') :
    [v].length ≤ 1000 ∧ ∀ a, H a = none → spX1 C f (.ref a :: ([v] ++ [])) (upd H a (exo a C none)) (fun w H2 => w = .non ∧ Q (.ref a) H2) (fun _ _ _ => False) := by
  refine ⟨by show 1 ≤ 1000; decide, fun a ha => ⟨a, v, rfl, upd_same, fun d hd ne => ⟨rfl, h a _ ha (same_mk (C := C) ha hd) ⟨d, upd_same, ?_⟩⟩⟩⟩
  rw [upd_ne ne, upd_same]
/-- C(v, u) -/
theorem s_mk2 {C : Addr} {f g : Str} {v u : V} {H : Hp} {Q : VK} (h : ∀ a H', H a = none → Same H H' → XF H' a C [(g, u), (f, v)] → Q (.ref a) H') :
    [v, u].length ≤ 1000 ∧ ∀ a, H a = none → spX2 C f g (.ref a :: ([v, u] ++ [])) (upd H a (exo a C none)) (fun w H2 => w = .non ∧ Q (.ref a) H2) (fun _ _ _ => False) := by
  refine ⟨by show 2 ≤ 1000; decide, fun a ha => ⟨a, v, u, rfl, upd_same, fun d hd ne => ⟨rfl, h a _ ha ?_ ⟨d, ?_, upd_same⟩⟩⟩⟩
  · intro b o e
    obtain ⟨h1, _⟩ := fresh_upd hd
    rw [upd_ne (ne_of_none e h1)]
    exact same_mk (C := C) ha hd b o e
  · rw [upd_ne (Ne.symm ne), upd_same]
/-- the bodies of such an __init__ -/
theorem pure_X1 {K : PySem.W.Frag} {C : Addr} {f : Str} {l : List Nat} (T : OexC K C) (no : PySem.W.findIn K (.ref C) f = some none) {x y : Str} (vs : List V) (H : Hp) (Q : VK) (E : XK) (h : spX1 C f vs H Q E) :
    tSeq (tDrop (tVeI K (tCons (tVar 0) (tCons (tC (sv l)) tNil)))) (tOst K f (tVar 0) (tVar 1)) { nx := fun _ H' => Q .non H', rt := Q } (start [x, y] vs) H := by
  obtain ⟨a, v, rfl, ha, k⟩ := h
  refine ⟨_, rfl, a, C, _, rfl, by show 1 ≤ 1000; decide, T, ha, ?_⟩
  exact ⟨_, rfl, _, rfl, a, C, rfl, T, no, Or.inl ⟨ha, fun d hd ne => k d hd ne⟩⟩
theorem pure_X2 {K : PySem.W.Frag} {C : Addr} {f g : Str} {l : List Nat} (T : OexC K C) (no : PySem.W.findIn K (.ref C) f = some none) (no2 : PySem.W.findIn K (.ref C) g = some none) {x y z : Str} (vs : List V) (H : Hp) (Q : VK) (E : XK) (h : spX2 C f g vs H Q E) :
    tSeq (tDrop (tVeI K (tCons (tVar 0) (tCons (tC (sv l)) tNil)))) (tSeq (tOst K f (tVar 0) (tVar 1)) (tOst K g (tVar 0) (tVar 2))) { nx := fun _ H' => Q .non H', rt := Q } (start [x, y, z] vs) H := by
  obtain ⟨a, v, u, rfl, ha, k⟩ := h
  refine ⟨_, rfl, a, C, _, rfl, by show 1 ≤ 1000; decide, T, ha, ?_⟩
  refine ⟨_, rfl, _, rfl, a, C, rfl, T, no, Or.inl ⟨ha, fun d hd ne => ?_⟩⟩
  exact ⟨_, rfl, _, rfl, a, C, rfl, T, no2, Or.inr ⟨d, _, upd_same, by rw [upd_ne ne, upd_same], by show 1 ≤ 900; decide, k d hd ne⟩⟩
theorem cut_map {α β : Type} (f : α → β) (z : List α) (lo hi : Option Int) : cut (z.map f) lo hi = (cut z lo hi).map f := by
  unfold cut
  rw [List.map_take, List.map_drop, List.length_map]
end Cl
/-! Own layer, part 5: == of flat lists. -/
namespace Cl
open PySem PySem.Spec PyProof.Rows L2 He
/-- a plain value as data -/
def dat : V → PyData
  | .non => .none
  | .bl b => .bool b
  | .int i => .int i
  | .str x => .str x
  | _ => .none
def flat : V → Bool
  | .non | .bl _ | .int _ => true
  | .str x => PyData.strOk x
  | _ => false
section
variable {K : PySem.W.Frag} {H : Hp}
theorem flat_dp {v : V} (h : flat v = true) : Dp K H v (dat v) := by
  cases v <;> first | (constructor; done) | cases h
theorem flat_lay {v : V} (h : flat v = true) : PyData.canLay0 (dat v) = true := by
  cases v <;> first | rfl | exact h | cases h
theorem flat_all : ∀ {xs : List V}, xs.all flat = true → DpAll K H xs (xs.map dat) ∧ PyData.canLayAll0 (xs.map dat) = true ∧ PyData.depthAll (xs.map dat) = 0
  | [], _ => ⟨.nil, rfl, rfl⟩
  | v :: xs, h => by
    obtain ⟨h1, h2⟩ : flat v = true ∧ xs.all flat = true := by simpa using h
    obtain ⟨a, b, c⟩ := flat_all h2
    refine ⟨.cons (flat_dp h1) a, ?_, ?_⟩
    · show (PyData.canLay0 (dat v) && PyData.canLayAll0 (xs.map dat)) = true
      rw [flat_lay h1, b]
      rfl
    · show max (PyData.depth (dat v)) (PyData.depthAll (xs.map dat)) = 0
      rw [c]
      cases v <;> first | rfl | cases h1
theorem flat_shaped {xs : List V} (h : xs.all flat = true) : SeqAt.shaped (.list (xs.map dat)) = true := by
  obtain ⟨_, b, c⟩ := flat_all (K := []) (H := fun _ => none) h
  unfold SeqAt.shaped
  show (PyData.canLayAll0 (xs.map dat) && decide (PyData.depthAll (xs.map dat) + 1 ≤ 64)) = true
  rw [b, c]
  rfl
/-- two lists of the same plain values are equal -/
theorem s_eqSame {xs : List V} {p q : Addr} {Q : VK} (h1 : H p = some (.lst xs)) (h2 : H q = some (.lst xs)) (hf : xs.all flat = true) (k : Q (.bl true) H) : zEq K (.ref p) (.ref q) H Q := by
  show ∃ d e, Dp K H (.ref p) d ∧ Dp K H (.ref q) e ∧ SeqAt.shaped d = true ∧ SeqAt.shaped e = true ∧ Q (.bl (PyData.eqv d e)) H
  refine ⟨.list (xs.map dat), .list (xs.map dat), .lst (sq_of h1) (flat_all hf).1, .lst (sq_of h2) (flat_all hf).1, flat_shaped hf, flat_shaped hf, ?_⟩
  rw [SeqAt.eqv_refl _ (by show PyData.canLayAll0 (xs.map dat) = true; exact (flat_all (K := K) (H := H) hf).2.1)]
  exact k
theorem s_neSame {xs : List V} {p q : Addr} {Q : VK} (h1 : H p = some (.lst xs)) (h2 : H q = some (.lst xs)) (hf : xs.all flat = true) (k : Q (.bl false) H) : zNe K (.ref p) (.ref q) H Q := by
  show ∃ d e, Dp K H (.ref p) d ∧ Dp K H (.ref q) e ∧ SeqAt.shaped d = true ∧ SeqAt.shaped e = true ∧ Q (.bl (!PyData.eqv d e)) H
  refine ⟨.list (xs.map dat), .list (xs.map dat), .lst (sq_of h1) (flat_all hf).1, .lst (sq_of h2) (flat_all hf).1, flat_shaped hf, flat_shaped hf, ?_⟩
  rw [SeqAt.eqv_refl _ (by show PyData.canLayAll0 (xs.map dat) = true; exact (flat_all (K := K) (H := H) hf).2.1)]
  exact k
/-! ### errors read -/
theorem s_xfv {f : Str} {te : TE} {σ : L2.St} {Q : VK} (h : te σ H fun x H1 => ∃ (a C d : Addr) (fs : List (Str × V)) (v : V), x = .ref a ∧ XfC K C ∧ PySem.W.findIn K (.ref C) f = some none ∧ H1 a = some (exo a C (some d)) ∧ H1 d = some (exd d fs) ∧ fs.lookup f = some v ∧ Q v H1) : tXfv K f te σ H Q := h
theorem s_xf {a C : Addr} {fs : List (Str × V)} {f : Str} {v : V} {QP : V → Prop} (y : XF H a C fs) (T : XfC K C) (no : PySem.W.findIn K (.ref C) f = some none) (l : fs.lookup f = some v) (q : QP v) :
    ∃ (a' C' d : Addr) (fs' : List (Str × V)) (v' : V), V.ref a = .ref a' ∧ XfC K C' ∧ PySem.W.findIn K (.ref C') f = some none ∧ H a' = some (exo a' C' (some d)) ∧ H d = some (exd d fs') ∧ fs'.lookup f = some v' ∧ QP v' := by
  obtain ⟨d, h1, h2⟩ := y
  exact ⟨a, C, d, fs, v, rfl, T, no, h1, h2, l, q⟩
theorem s_tru {te : TE} {σ : L2.St} {QB : Bool → Hp → Prop} (h : te σ H fun x H' => ∃ k, TruV K x H' k ∧ QB k H') : tTru K te σ H QB := h
theorem s_yes {σ : L2.St} {QB : Bool → Hp → Prop} (h : QB true H) : tYes σ H QB := h
/-! ### errors made -/
theorem s_mkv1 {C : Addr} {f : Str} {i : Nat} {v : V} {σ : L2.St} {Q : VK} (e : σ[i]? = some (some v)) (h : ∀ a H', H a = none → Same H H' → XF H' a C [(f, v)] → Q (.ref a) H') : tMkV C (spX1 C f) [] (tCons (tVar i) tNil) σ H Q := ⟨v, e, s_mk1 h⟩
theorem s_mkv2 {C : Addr} {f g : Str} {i j : Nat} {v u : V} {σ : L2.St} {Q : VK} (e : σ[i]? = some (some v)) (e2 : σ[j]? = some (some u)) (h : ∀ a H', H a = none → Same H H' → XF H' a C [(g, u), (f, v)] → Q (.ref a) H') : tMkV C (spX2 C f g) [] (tCons (tVar i) (tCons (tVar j) tNil)) σ H Q := ⟨v, e, u, e2, s_mk2 h⟩
end
/-! ### texts of small signs -/
abbrev asc (l : List Nat) : Prop := ∀ c ∈ l, c < 128
theorem asc_ok {l : List Nat} (h : asc l) : flat (sv l) = true := by
  show ((⟨l⟩ : Array Nat).all (· < 0x110000)) = true
  rw [Array.all_eq_true']
  intro c hc
  have := h c (by simpa using hc)
  simp
  omega
theorem asc_app {a b : List Nat} (h1 : asc a) (h2 : asc b) : asc (a ++ b) := fun c hc => by
  rcases List.mem_append.mp hc with h | h
  · exact h1 c h
  · exact h2 c h
theorem asc_cut {a : List Nat} {lo hi : Option Int} (h : asc a) : asc (cut a lo hi) := fun c hc => h c (List.mem_of_mem_drop (List.mem_of_mem_take hc))
theorem asc_rep {a : List Nat} {k : Nat} (h : asc a) : asc (rep a k) := fun c hc => by
  unfold rep at hc
  obtain ⟨l, h1, h2⟩ := List.mem_flatten.mp hc
  rw [List.eq_of_mem_replicate h1] at h2
  exact h c h2
theorem rep_len (a : List Nat) (k : Nat) : (rep a k).length = k * a.length := by
  unfold rep
  simp
theorem cut_len {α : Type} (a : List α) (lo hi : Option Int) : (cut a lo hi).length ≤ a.length := by
  unfold cut
  rw [List.length_take, List.length_drop]
  omega
end Cl
/-! Own layer, part 6: list, sorted, set of a text. -/
namespace Cl
open PySem PySem.Spec PyProof.Rows L2 He
/-- the signs of a text, each as a text -/
abbrev sgs (z : List Nat) : List V := z.map fun c => sv [c]
theorem sgs_eq (z : List Nat) : sgs z = (z.map fun c => S [c]).map V.str := by
  rw [List.map_map]
  rfl
theorem signs_vals {z : List Nat} {acc : Array Value} (h : ItemsOf (SignAt (S z)) acc (S z).cps.size) : Vals (sgs z) acc.toList := by
  refine vals_of_idx _ _ ?_ fun j u hj => ?_
  · rw [List.length_map, Array.length_toList, h.1]
    rfl
  · obtain ⟨c, t, hc, rfl⟩ := h.2 j u (by rw [← Array.getElem?_toList]; exact hj)
    have hz : z[j]? = some c := by simpa using hc
    exact ⟨sv [c], by rw [List.getElem?_map, hz]; rfl, ⟨t, rfl⟩⟩
theorem signs_strs {z : List Nat} {acc : Array Value} (h : ItemsOf (SignAt (S z)) acc (S z).cps.size) : StrsAre acc.toList (z.map fun c => S [c]) := by
  refine L2.strs_at ?_ fun j v hj => ?_
  · rw [List.length_map, Array.length_toList, h.1]
    rfl
  · obtain ⟨c, t, hc, rfl⟩ := h.2 j v (by rw [← Array.getElem?_toList]; exact hj)
    have hz : z[j]? = some c := by simpa using hc
    exact ⟨S [c], t, by rw [List.getElem?_map, hz]; rfl, rfl⟩
section
variable {X : Cx}
/-- list(x): of a list, a tuple, a text -/
def zListT (K : PySem.W.Frag) : List V → Hp → VK → Prop := fun xs H Q => match xs with
  | [.ref p] => ∃ ys, (SqL K H p ys ∨ SqT K H p ys) ∧ ∀ l, H l = none → Q (.ref l) (upd H l (.lst ys))
  | [.str ⟨⟨z⟩⟩] => z.length ≤ sizeLine ∧ ∀ l, H l = none → Q (.ref l) (upd H l (.lst (sgs z)))
  | _ => False
theorem cz_listT (hc : X.calm = true) : CallR X (.type "list") (zListT X.K) := by
  intro pins s σ H xs us Q I r h
  match xs, h with
  | [.ref p], ⟨ys, h1, q⟩ => exact call_list_of pins s σ H _ us Q I r ⟨p, ys, rfl, h1, q⟩
  | [.str ⟨⟨z⟩⟩], ⟨hz, q⟩ =>
    obtain ⟨u, rfl, t, rfl⟩ := vals1 r
    refine call_list_str (I.ok.hd hc) _ t (fun h' tk acc c' hk e hi => ?_) hz
    refine ⟨.ref s.heap.objs.size, upd H s.heap.objs.size (.lst (sgs z)), I.laid hk (Nat.le_refl _) ⟨by rw [List.length_map]; exact hz, acc.toList, c', signs_vals hi, by rw [Array.toArray_toList]; exact e⟩, rfl, q _ (I.hok.fresh (Nat.le_refl _))⟩
/-- sorted(x): of a list of texts, of a text -/
def zSorted (K : PySem.W.Frag) : List V → Hp → VK → Prop := fun xs H Q => match xs with
  | [.ref a] => ∃ ys : List Str, SqL K H a (ys.map V.str) ∧ ys.length < 64 ∧ ∀ (zs : List Str) (p : Addr), zs.Perm ys → sortedS zs = true → H p = none → Q (.ref p) (upd H p (.lst (zs.map V.str)))
  | [.str ⟨⟨z⟩⟩] => z.length < 64 ∧ ∀ (zs : List Str) (p : Addr), zs.Perm (z.map fun c => S [c]) → sortedS zs = true → H p = none → Q (.ref p) (upd H p (.lst (zs.map V.str)))
  | _ => False
theorem cz_sorted (hc : X.calm = true) : CallR X (.builtin "sorted") (zSorted X.K) := by
  intro pins s σ H xs us Q I r h
  match xs, h with
  | [.ref a], ⟨ys, h1, h2, q⟩ => exact cr_sortedS pins s σ H _ us Q I r ⟨a, ys, rfl, h1, h2, q⟩
  | [.str ⟨⟨z⟩⟩], ⟨h64, q⟩ =>
    obtain ⟨u, rfl, t, rfl⟩ := vals1 r
    refine Calls.call_function_entry PyProof.Rows.kind_sorted PyProof.Rows.plain_sorted PyProof.Rows.entry_sorted (PyProof.Rows.args_sorted1 _) ?_
    unfold Builtin.«sorted»
    refine wpAny_bind (m := checkCount "sorted" 1 1 _) (wpAny_pure ?_)
    refine wpAny_bind (wpAny_collect_str (A := X.A.in1) (I.ok.hd hc) (S z) t (fun s1 acc hk hg hd ho hacc => ?_) (by show z.length ≤ sizeLine; rw [sizeLine_eq]; omega))
    have hS := signs_strs hacc
    have hal : acc.toList.length = z.length := by rw [Array.length_toList, hacc.1]; rfl
    obtain ⟨hp, g1, d1, tk, o1⟩ := s1
    have eg : g1 = s.gens := hg
    have eo : o1 = s.os := ho
    have ed : d1 = s.drawn := hd
    subst eg eo ed
    have I1 : Inv X pins σ H { s with heap := hp, toks := tk } := I.kept hk
    refine wpAny_bind (wpAny_newList ?_ (by rw [hal, sizeLine_eq]; omega))
    have hoL : (hp.push (seqObj "list" acc.toList.toArray 0)).get? hp.objs.size = some (seqObj "list" acc.toList.toArray 0) := Heap.get?_push_size _ rfl
    show wpAny _ _ _ _ _ { s with heap := hp.push (seqObj "list" acc.toList.toArray 0), toks := tk }
    refine wpAny_bind (wpAny_holding (wpAny_call_entry PyProof.Rows.slot_list_sort ⟨_, hoL, rfl⟩ PyProof.Rows.entry_list_sort (list_sort_treeK strKind_oneLt (s := { s with heap := hp.push (seqObj "list" acc.toList.toArray 0), toks := tk }) hoL hS.keysOf
      (fun v₁ v₂ rest e => keyKind_strs (by rw [← e]; exact hS)) (by rw [hal]; exact h64) fun st' hpm hs => ⟨_, rfl, ?_⟩) (PyProof.Rows.args_list_sort _)))
    obtain ⟨zs, k1, k2, k3⟩ := sorted_out_str hS hpm hs
    obtain ⟨e', he'⟩ := PyProof.Rows.sortedHeap_at (vs := acc.toList) (out := (arrOf st').map (·.2)) hoL
    have hlen : (zs.map V.str).length ≤ sizeLine := by
      rw [List.length_map, k2.length_eq, List.length_map, sizeLine_eq]
      omega
    refine wpAny_pure ⟨_, rfl, .ref hp.objs.size, upd H hp.objs.size (.lst (zs.map V.str)), I1.laid (t' := tk) (fun b u e => ?_) (Nat.le_refl _)
      (show ObjOk X.prog X.w _ _ _ (.lst (zs.map V.str)) from ⟨hlen, ((arrOf st').map (·.2)).toList, e', vals_of_strs k1, by rw [Array.toArray_toList]; exact he'⟩), rfl, q zs _ k2 k3 (I1.hok.fresh (Nat.le_refl _))⟩
    have hb : b < hp.objs.size := Heap.lt_size e
    rw [PyProof.Rows.sortedHeap_old (Nat.ne_of_lt hb) (by rw [size_push']; exact Nat.lt_succ_of_lt hb)]
    exact Heap.get?_push_of_some _ e
end
end Cl
/-! Own layer, part 7: the set of a text's signs: made, its len, sorted. -/
namespace Cl
open PySem PySem.Spec PyProof.Rows L2 He PySem.Froz
/-- the payload D holds just the texts l; it can be walked -/
structure TxR (P : Program) (w : World) (D : SD) (l : List Str) : Prop where
  ok : TxOk P w D l
  ris : Ris D.2.2.place.toList
  led : w.params.followText "set-order" = true ∨ D.2.2.led = true
theorem tail_ris {ep : Nat} {es : Array (Int × Value)} {t : SetTable} {d : Bool} (h : Ris t.place.toList) : Ris (tailTx ep es t d).2.2.place.toList := by
  unfold tailTx
  split
  · exact relayAll_ris t es _
  · exact h
theorem tail_led {ep : Nat} {es : Array (Int × Value)} {t : SetTable} {d : Bool} : (tailTx ep es t d).2.2.led = t.led := by
  unfold tailTx
  split
  · exact relayAll_led t es _
  · rfl
section
variable {P : Program} {w : World} {A : Around} {E : Value → Shared → Prop} {s : Shared}
theorem TxR.add {D : SD} {l : List Str} {k : Str} (u : Tok) (T : TxR P w D l) : TxR P w (addTx (hashStr w k) (.str k u) D) (k :: l) := by
  refine ⟨add_ok u T.ok, ?_, ?_⟩
  · unfold addTx
    refine tail_ris ?_
    split
    · exact layNew_ris _ _ _ _ T.ris
    · exact layNew_ris _ _ _ _ T.ris
  · refine T.led.imp id fun h => ?_
    unfold addTx
    rw [tail_led]
    split
    · show (layNew D.2.2 D.1 (hashStr w k) (.str k u)).2.1.led = true
      rw [layNew_led]
      exact h
    · rw [layNew_led]
      exact h
/-- a text that is in is not added -/
theorem add_old {a : Addr} {D : SD} {l : List Str} {k : Str} {u : Tok} {Q : Bool → Shared → Prop} (ho : s.heap.get? a = some (sObj "set" D)) (F : TxOk P w D l) (hk : k ∈ l) (hb : l.length < scanBound) (h : Q false s) :
    wpAny (model P w) A (setAddHashed a (.str k u) (hashStr w k)) Q E s := by
  obtain ⟨es, ep, t⟩ := D
  have hb0 : es.size < scanBound := by rw [show es.size = l.length from F.sz]; exact hb
  have hsome : ∃ j, List.findIdx? (fun e => (strKind P w).is k e.2) es.toList = some j := by
    cases q : List.findIdx? (fun e => (strKind P w).is k e.2) es.toList with
    | some j => exact ⟨j, rfl⟩
    | none =>
      obtain ⟨e, he, hp⟩ := (F.mem k).mp hk
      have z := List.findIdx?_eq_none_iff.mp q e he
      rw [hp] at z
      cases z
  obtain ⟨j, hj⟩ := hsome
  unfold setAddHashed setAddHashedIn
  refine wpAny_holding (wpAny_bind (wpAny_setState_of ho rfl F.fit ?_))
  dsimp only
  rw [byScan_of rfl hb0 F.el]
  simp only [↓reduceIte]
  unfold setAddByScan
  refine wpAny_bind (wpAny_bind (wpAny_rule (wpAny_bind (wpAny_setScan_of (knd := strKind P w) (k := k) (Froz.is_str k u) ho rfl F.fit F.el ?_))))
  rw [hj]
  dsimp only
  exact wpAny_pure (wpAny_pure h)
end
section
variable {P : Program} {w : World} {A : Around} {R : Result → Shared → Prop} {I : Addr} {fp wr : List Addr} {G : Array GenState → Array GenState → Prop} {n : Nat} {Pv : Nat → Value → Prop} {St : Nat → Shared → Prop}
/-- the rest of a walk over texts goes into the set -/
theorem set_loop (W : WalksS P w A.in1 I fp wr G n Pv St) (a : Addr) (ha : a ∉ fp) (val : Nat → Str) (hval : ∀ i v, Pv i v → ∃ t, v = .str (val i) t) (hb : n + 1 < scanBound) : ∀ (k i : Nat) (s : Shared) (D : SD) (l : List Str), n - i = k → i ≤ n → St i s →
    s.heap.get? a = some (sObj "set" D) → TxR P w D l → l.Nodup → l.length ≤ i →
    (∀ s' D' l', Moved (a :: wr) G s s' → s'.heap.get? a = some (sObj "set" D') → TxR P w D' l' → l'.Nodup → (∀ x, x ∈ l' ↔ x ∈ l ∨ ∃ j, i ≤ j ∧ j < n ∧ x = val j) → l'.length ≤ n → R (.ok (.ret .none)) s') →
    codeAny (model P w) A (.builtin "set.update.loop" ⟨[.ref a, .ref I], []⟩) R s := by
  have haw : a ∉ wr := fun h => ha (W.sub _ h)
  have up : ∀ b ∈ wr, b ∈ a :: wr := fun b h => List.mem_cons_of_mem _ h
  intro k
  induction k with
  | zero =>
    intro i s D l hk hi st ho T nd hl hR
    obtain rfl : i = n := by omega
    refine codeAny_builtin PyProof.Rows.F.entry_set_update_loop ?_
    rw [Around.under_plainId PyProof.Rows.F.plain_set_update_loop _]
    refine wpAny_bind (W.done s _ _ st fun s' hm => wpAny_pure (hR s' D l (hm.mono up) (hm.heap a _ haw ho) T nd (fun x => ⟨Or.inl, fun h => ?_⟩) hl))
    rcases h with h | ⟨j, h1, h2, _⟩
    · exact h
    · omega
  | succ k ih =>
    intro i s D l hk hi st ho T nd hl hR
    have hlt : i < n := by omega
    refine codeAny_builtin PyProof.Rows.F.entry_set_update_loop ?_
    rw [Around.under_plainId PyProof.Rows.F.plain_set_update_loop _]
    refine wpAny_bind (W.item i s _ _ hlt st fun v s1 hv st1 hm => ?_)
    obtain ⟨t, rfl⟩ := hval i v hv
    have ho1 := hm.heap a _ haw ho
    refine wpAny_bind (wpAny_holding ?_)
    unfold setAdd
    refine wpAny_holding (wpAny_bind ((strKind P w).pyHash (k := val i) (Froz.is_str _ _) ?_))
    have go : ∀ (h2 : Heap) (D2 : SD) (l2 : List Str), (∀ b o, b ≠ a → s1.heap.get? b = some o → h2.get? b = some o) → h2.get? a = some (sObj "set" D2) → TxR P w D2 l2 → l2.Nodup → l2.length ≤ i + 1 → (∀ x, x ∈ l2 ↔ x ∈ l ∨ x = val i) →
        codeAny (model P w) A (.builtin "set.update.loop" ⟨[.ref a, .ref I], []⟩) R { s1 with heap := h2, toks := s1.toks + 1 } := fun h2 D2 l2 kp ho2 T2 nd2 hl2 m2 => by
      refine ih (i + 1) _ D2 l2 (by omega) hlt (W.frame _ s1 _ _ st1 (Nat.le_succ _) fun b hb o e => kp b o (fun z => ha (z ▸ hb)) e) ho2 T2 nd2 hl2 fun s' D' l' mv ho' T' nd' m' hl' => ?_
      refine hR s' D' l' (Moved.trans W.gtrans ((hm.mono up).then_heap (Nat.le_succ _) fun b o hb e => kp b o (fun z => hb (by rw [z]; exact List.mem_cons_self)) e) mv) ho' T' nd' (fun x => ?_) hl'
      rw [m', m2]
      constructor
      · rintro ((h | h) | ⟨j, h1, h2, h3⟩)
        · exact Or.inl h
        · exact Or.inr ⟨i, Nat.le_refl _, hlt, h⟩
        · exact Or.inr ⟨j, by omega, h2, h3⟩
      · rintro (h | ⟨j, h1, h2, h3⟩)
        · exact Or.inl (Or.inl h)
        · by_cases e : j = i
          · exact Or.inl (Or.inr (e ▸ h3))
          · exact Or.inr ⟨j, by omega, h2, h3⟩
    by_cases hin : val i ∈ l
    · refine add_old (s := { s1 with toks := s1.toks + 1 }) ho1 T.ok hin (by omega) (wpAny_pure ⟨plainId_quiet PyProof.Rows.F.plain_set_update_loop _, ?_⟩)
      exact go s1.heap D l (fun _ _ _ e => e) ho1 T nd (by omega) fun x => ⟨Or.inl, fun h => h.elim id fun e => e ▸ hin⟩
    · refine add_x (s := { s1 with toks := s1.toks + 1 }) ho1 T.ok hin (by omega) (wpAny_pure ⟨plainId_quiet PyProof.Rows.F.plain_set_update_loop _, ?_⟩)
      refine go _ _ (val i :: l) (fun b o hb e => (Heap.get?_update_other _ _ (Ne.symm hb)).trans e) (Froz.get_upd _ ho1 rfl) (T.add t) (List.nodup_cons.mpr ⟨hin, nd⟩) (by show l.length + 1 ≤ i + 1; omega) fun x => ?_
      rw [List.mem_cons]
      exact Or.comm
end
/-- the empty set as it is made -/
abbrev nD (w : World) : SD := (#[], 0, .fresh 0 0 (!w.params.followText "set-order"))
theorem nD_ok (P : Program) (w : World) : TxR P w (nD w) [] := by
  refine ⟨TxOk.nil rfl, List.Pairwise.nil, ?_⟩
  show _ ∨ (!w.params.followText "set-order") = true
  cases w.params.followText "set-order"
  · exact .inr rfl
  · exact .inl rfl
section
variable {P : Program} {w : World} {A : Around} {E : Value → Shared → Prop} {s : Shared}
theorem code_new1 (v : Value) {Q₁ : Value → Shared → Prop} (h : Q₁ (.ref s.heap.objs.size) { s with heap := s.heap.push (sObj "set" (nD w)) }) : codeAny (model P w) A (.call (.builtin "set.__new__") ⟨[.type "set", v], []⟩) (wants Q₁ E) s := by
  refine codeAny_of_tree ?_
  refine wpAny_bind (wpAny_of_eq (PySem.F.newCall_set_1 v) (wpAny_pure ⟨plainId_quiet F.plain_set_new _, codeAny_builtin F.entry_set_new ?_⟩))
  rw [Around.under_plainId F.plain_set_new _]
  unfold Builtin.«set.__new__» Builtin.Frozenset.newClass
  have hsub := sub_set_self
  obtain ⟨hp, g, d, tk, os⟩ := s
  dsimp only
  wp_walk
  refine wpAny_askSetting (wpAny_pure ?_)
  dsimp only
  simp only [newObj]
  exact wpAny_bind (wpAny_alloc (wpAny_pure (wpAny_pure h)))
end
end Cl
namespace Cl
open PySem PySem.Spec PyProof.Rows L2 He PySem.Froz
theorem sub_str_set : isSubtype (.type "str") (.type "set") = pure false := by rw [isSubtype_type]; kernel_rfl
theorem sub_str_fz : isSubtype (.type "str") (.type "frozenset") = pure false := by rw [isSubtype_type]; kernel_rfl
section
variable {P : Program} {w : World} {A : Around} {E : Value → Shared → Prop} {s : Shared}
theorem call_set_txt {z : List Nat} {tz : Tok} {Q : Value → Shared → Prop} (hh : A.handled = none) (hb : z.length + 1 < scanBound)
    (h : ∀ (h' : Heap) (tk : Nat) (D : SD) (l : List Str), h'.get? s.heap.objs.size = some (sObj "set" D) → TxR P w D l → l.Nodup → (∀ x, x ∈ l ↔ ∃ c ∈ z, x = S [c]) → l.length ≤ z.length →
      (∀ b o, s.heap.get? b = some o → h'.get? b = some o) → Q (.ref s.heap.objs.size) { s with heap := h', toks := tk }) :
    wpAny (model P w) A (call (.type "set") [.str (S z) tz]) Q E s := by
  obtain ⟨c, tl, hmro⟩ := PySem.F.called_set.mro
  have hmade := PySem.F.called_set.made
  have hsub := PySem.F.called_set.sub
  refine wpAny_call (codeAny_of_tree ?_)
  show wpAny _ _ (callAny (.type "set") _) _ _ _
  refine wpAny_pure ⟨Code.quiet_builtin _ (by decide +kernel), codeAny_builtin PySem.F.entry_type_call ?_⟩
  rw [Around.under_plain (weight_type_call_type "set" [.str (S z) tz] []) rfl]
  have h1 := PySem.F.called_set.notType
  have h2 := PySem.F.called_set.canCreate
  have hct := PySem.F.typeCall_set_1 (.str (S z) tz)
  repeat (any_goals (first | assumption | wp_step))
  refine codeAny_mono (code_new1 (.str (S z) tz) (E := E) (Q₁ := fun obj s₁ => obj = .ref s.heap.objs.size ∧ s₁ = { s with heap := s.heap.push (sObj "set" (nD w)) }) ⟨rfl, rfl⟩) fun r s₁ hr => ?_
  cases r with
  | error e => exact hr
  | ok fl =>
    cases fl with
    | ret obj =>
      obtain ⟨rfl, rfl⟩ := hr
      have hS : (s.heap.push (sObj "set" (nD w))).get? s.heap.objs.size = some (sObj "set" (nD w)) := Heap.get?_push_size _ rfl
      have hT : Shared.TypeIs { s with heap := s.heap.push (sObj "set" (nD w)) } (.ref s.heap.objs.size) "set" := ⟨_, hS, rfl⟩
      have hli := PySem.F.called_set.init.lookup
      have hbi := PySem.F.called_set.init.bind (.ref s.heap.objs.size)
      repeat (any_goals (first | assumption | wp_step))
      refine codeAny_mono (codeAny_call_builtin (R := wants (fun r s₂ => r = .none ∧ ∃ h' tk D l, s₂ = { s with heap := h', toks := tk } ∧ h'.get? s.heap.objs.size = some (sObj "set" D) ∧ TxR P w D l ∧ l.Nodup ∧ (∀ x, x ∈ l ↔ ∃ c ∈ z, x = S [c]) ∧ l.length ≤ z.length ∧
        (∀ b o, s.heap.get? b = some o → h'.get? b = some o)) E) PySem.F.called_set.init.plain PySem.F.entry_set_init (check_set_init_1 hT ?_)) fun r₂ s₂ hr₂ => ?_
      · have e1 := sub_str_set
        have e2 := sub_str_fz
        have e3 : (Value.type "str" == Value.type "dict") = false := by decide
        unfold Builtin.«set.__init__» noKeywords Builtin.Frozenset.updateFrom
        generalize hPI : pyIter = PI
        wp_walk
        subst hPI
        refine wpAny_pyIter_str fun o St W hst => ?_
        refine wpAny_bind (wpAny_runValue ?_)
        have hh3 : A.in1.in1.in1.handled = none := by simp [hh]
        have ne : s.heap.objs.size ≠ (s.heap.push (sObj "set" (nD w))).objs.size := by
          rw [Heap.size_push]
          exact Nat.ne_of_lt (Nat.lt_succ_self _)
        refine set_loop ((W _ hh3).toS) s.heap.objs.size (fun m => ne (List.mem_singleton.mp m)) (fun i => S [z.getD i 0]) (fun i v hv => ?_) hb (z.length - 0) 0 _ (nD w) [] (by show z.length - 0 = _; omega) (Nat.zero_le _) hst
          (Heap.get?_push_of_some _ hS) (nD_ok P w) List.nodup_nil (Nat.le_refl _) fun s' D l mv ho T nd m hl => ?_
        · obtain ⟨c, u, hc, rfl⟩ := hv
          have hz : z[i]? = some c := by simpa using hc
          exact ⟨u, by rw [List.getD_eq_getElem?_getD, hz]; rfl⟩
        · obtain ⟨h', g', d', tk', os'⟩ := s'
          have eg : g' = s.gens := mv.gens
          have ed : d' = s.drawn := mv.drawn
          have eo : os' = s.os := mv.os
          subst eg ed eo
          refine wpAny_pure (wpAny_pure ⟨rfl, h', tk', D, l, rfl, ho, T, nd, fun x => ?_, hl, fun b u e => ?_⟩)
          · rw [m x]
            constructor
            · rintro (q | ⟨j, _, hj, rfl⟩)
              · cases q
              · have hj' : j < z.length := hj
                exact ⟨z[j], List.getElem_mem hj', by rw [List.getD_eq_getElem?_getD, List.getElem?_eq_getElem hj']; rfl⟩
            · rintro ⟨c, hc, rfl⟩
              obtain ⟨j, hj, e⟩ := List.mem_iff_getElem.mp hc
              exact Or.inr ⟨j, Nat.zero_le _, hj, by rw [List.getD_eq_getElem?_getD, List.getElem?_eq_getElem hj, e]; rfl⟩
          · have hlt := Heap.lt_size e
            refine mv.heap b u (fun q => ?_) (Heap.get?_push_of_some _ (Heap.get?_push_of_some _ e))
            rcases List.mem_cons.mp q with q | q
            · exact absurd q (Nat.ne_of_lt hlt)
            · have q2 := List.mem_singleton.mp q
              have e2 : (s.heap.push (sObj "set" (nD w))).objs.size = s.heap.objs.size + 1 := by rw [Heap.size_push]
              have q3 : b = (s.heap.push (sObj "set" (nD w))).objs.size := q2
              exact absurd hlt (by rw [q3, e2]; exact Nat.not_lt.mpr (Nat.le_succ _))
      · cases r₂ with
        | error e => exact hr₂
        | ok fl₂ =>
          cases fl₂ with
          | ret r =>
            obtain ⟨rfl, h', tk, D, l, rfl, k1, k2, k3, k4, k5, k6⟩ := hr₂
            repeat (any_goals (first | assumption | wp_step))
            exact h h' tk D l k1 k2 k3 k4 k5 k6
          | _ => exact hr₂.elim
    | _ => exact hr.elim
end
end Cl
namespace Cl
open PySem PySem.Spec PyProof.Rows L2 He PySem.Froz
/-! ### over the layer -/
/-- lists without doubles -/
theorem perm_of {α : Type} [BEq α] [LawfulBEq α] : ∀ {l m : List α}, l.Nodup → (∀ x, x ∈ l → x ∈ m) → m.length ≤ l.length → m.Perm l
  | [], m, _, _, h => by
    have : m = [] := List.length_eq_zero_iff.mp (by simpa using h)
    rw [this]
  | x :: t, m, nd, sub, h => by
    obtain ⟨hx, nt⟩ := List.nodup_cons.mp nd
    have hm := sub x List.mem_cons_self
    have p := List.perm_cons_erase hm
    have l1 := p.length_eq
    simp only [List.length_cons] at l1 h
    have ih := perm_of (l := t) (m := m.erase x) nt (fun y hy => (List.mem_erase_of_ne (fun e => hx (by rw [← e]; exact hy))).mpr (sub y (List.mem_cons_of_mem _ hy))) (by omega)
    exact p.trans (ih.cons x)
theorem len_le_of {α : Type} [BEq α] [LawfulBEq α] : ∀ {l m : List α}, l.Nodup → (∀ x, x ∈ l → x ∈ m) → l.length ≤ m.length
  | [], m, _, _ => Nat.zero_le _
  | x :: t, m, nd, sub => by
    obtain ⟨hx, nt⟩ := List.nodup_cons.mp nd
    have p := List.perm_cons_erase (sub x List.mem_cons_self)
    have l1 := p.length_eq
    simp only [List.length_cons] at l1 ⊢
    have ih := len_le_of (l := t) (m := m.erase x) nt (fun y hy => (List.mem_erase_of_ne (fun e => hx (by rw [← e]; exact hy))).mpr (sub y (List.mem_cons_of_mem _ hy)))
    omega
/-- the set of the texts l -/
def TxS (P : Program) (w : World) (a : Addr) (l : List Str) : HO := .ext fun h => ∃ D, h.get? a = some (sObj "set" D) ∧ TxR P w D l
theorem txS_ok {P : Program} {w : World} {H : Hp} {h : Heap} {a : Addr} {D : SD} {l : List Str} (e : h.get? a = some (sObj "set" D)) (T : TxR P w D l) : ObjOk P w H h a (TxS P w a l) :=
  ⟨⟨D, e, T⟩, ⟨_, e⟩, fun _ _ ⟨D, q, r⟩ k => ⟨D, k _ q, r⟩⟩
section
variable {X : Cx}
/-- set(text) -/
def zSet (P : Program) (w : World) : List V → Hp → VK → Prop := fun xs H Q => match xs with
  | [.str ⟨⟨z⟩⟩] => z.length ≤ 1000 ∧ ∀ p l, H p = none → l.Nodup → (∀ x, x ∈ l ↔ ∃ c ∈ z, x = S [c]) → l.length ≤ z.length → Q (.ref p) (upd H p (TxS P w p l))
  | _ => False
theorem cz_set (hc : X.calm = true) : CallR X (.type "set") (zSet X.prog X.w) := by
  intro pins s σ H xs us Q I r h
  match xs, h with
  | [.str ⟨⟨z⟩⟩], ⟨hz, q⟩ =>
    obtain ⟨u, rfl, t, rfl⟩ := vals1 r
    refine call_set_txt (I.ok.hd hc) (by unfold scanBound; omega) fun h' tk D l e T nd m hl k => ?_
    exact ⟨.ref s.heap.objs.size, upd H s.heap.objs.size (TxS X.prog X.w s.heap.objs.size l), I.laid (t' := tk) k (Nat.le_refl _) (txS_ok e T), rfl, q _ l (I.hok.fresh (Nat.le_refl _)) nd m hl⟩
/-- len(x), of a set of texts, too -/
def zLenS (P : Program) (w : World) (K : PySem.W.Frag) : List V → Hp → VK → Prop := fun xs H Q => zLen K xs H Q ∨ ∃ p l, xs = [.ref p] ∧ H p = some (TxS P w p l) ∧ l.length ≤ 1000 ∧ Q (.int l.length) H
theorem cz_lenS : CallR X (.builtin "len") (zLenS X.prog X.w X.K) := by
  intro pins s σ H xs us Q I r h
  rcases h with h | ⟨p, l, rfl, hp, hl, q⟩
  · exact cz_len pins s σ H xs us Q I r h
  · obtain ⟨u, rfl, rfl⟩ := vals1 r
    obtain ⟨⟨D, e, T⟩, _⟩ := I.hok p _ hp
    refine call_len_set e ⟨rfl, rfl, rfl⟩ rfl T.ok.fit (by rw [T.ok.sz]; omega) ⟨.int l.length, H, I.tok _, ⟨_, by rw [T.ok.sz]⟩, q⟩
/-- sorted(x), of a set of texts -/
def zSortedS (P : Program) (w : World) (K : PySem.W.Frag) : List V → Hp → VK → Prop := fun xs H Q => zSorted K xs H Q ∨ ∃ a l, xs = [.ref a] ∧ H a = some (TxS P w a l) ∧ l.length < 64 ∧ l.Nodup ∧
  ∀ (zs : List Str) (p : Addr), zs.Perm l → sortedS zs = true → H p = none → Q (.ref p) (upd H p (.lst (zs.map V.str)))
theorem TxR.vals {P : Program} {w : World} {D : SD} {l : List Str} (T : TxR P w D l) (nd : l.Nodup) : ∃ ks : List Str, ks.Perm l ∧ StrsAre (D.1.toList.map (·.2)) ks := by
  have key : ∀ es : List (Int × Value), ElemsOf (strKind P w) es → ∃ ks : List Str, StrsAre (es.map (·.2)) ks ∧ ∀ k, k ∈ ks ↔ ∃ e ∈ es, (strKind P w).is k e.2 = true := by
    intro es
    induction es with
    | nil => exact fun _ => ⟨[], .nil, fun k => by simp⟩
    | cons e es ih =>
      intro h
      obtain ⟨ks, h1, h2⟩ := ih h.tail
      obtain ⟨⟨k, hk, _⟩, _⟩ := h.head
      obtain ⟨t, ht⟩ := Value.isStrOf_shape (x := k) (v := e.2) hk
      refine ⟨k :: ks, by rw [List.map_cons, ht]; exact .cons k t h1, fun x => ?_⟩
      rw [List.mem_cons, h2 x]
      constructor
      · rintro (rfl | ⟨e', he', q⟩)
        · exact ⟨e, List.mem_cons_self, hk⟩
        · exact ⟨e', List.mem_cons_of_mem _ he', q⟩
      · rintro ⟨e', he', q⟩
        rcases List.mem_cons.mp he' with rfl | he'
        · refine Or.inl ?_
          rw [ht] at q
          obtain ⟨t', q'⟩ := Value.isStrOf_shape (x := x) (v := .str k t) q
          cases q'
          rfl
        · exact Or.inr ⟨e', he', q⟩
  obtain ⟨ks, h1, h2⟩ := key D.1.toList T.ok.el
  refine ⟨ks, ?_, h1⟩
  have hlen : ks.length = l.length := by
    rw [← StrsAre.len_eq h1, List.length_map, Array.length_toList]
    exact T.ok.sz
  have sub : ∀ x, x ∈ l → x ∈ ks := fun x hx => (h2 x).mpr ((T.ok.mem x).mp hx)
  exact perm_of nd sub (by omega)
theorem cz_sortedS (hc : X.calm = true) : CallR X (.builtin "sorted") (zSortedS X.prog X.w X.K) := by
  intro pins s σ H xs us Q I r h
  rcases h with h | ⟨a, l, rfl, ha, h64, nd, q⟩
  · exact cz_sorted hc pins s σ H xs us Q I r h
  · obtain ⟨u, rfl, rfl⟩ := vals1 r
    obtain ⟨⟨D, e, T⟩, _⟩ := I.hok a _ ha
    obtain ⟨ks, pk, hks⟩ := T.vals nd
    have hsz : D.1.size = l.length := T.ok.sz
    refine Calls.call_function_entry PyProof.Rows.kind_sorted PyProof.Rows.plain_sorted PyProof.Rows.entry_sorted (PyProof.Rows.args_sorted1 _) ?_
    unfold Builtin.«sorted»
    refine wpAny_bind (m := checkCount "sorted" 1 1 _) (wpAny_pure ?_)
    refine wpAny_bind (collect_set (A := X.A.in1) (I.ok.hd hc) ⟨_, e, rfl, rfl⟩ T.ok.fit (by rw [hsz]; unfold scanBound; omega) T.ris T.led fun s1 vs hk hz hg ho pm => ?_)
    have hvl : vs.length = l.length := by rw [pm.length_eq, List.length_map, Array.length_toList, hsz]
    obtain ⟨us, pu, hS⟩ : ∃ us : List Str, us.Perm l ∧ StrsAre vs us := by
      have key : ∀ {a b : List Value}, a.Perm b → ∀ {ks : List Str}, StrsAre b ks → ∃ us, us.Perm ks ∧ StrsAre a us := by
        intro a b p
        induction p with
        | nil => exact fun h => ⟨_, List.Perm.refl _, h⟩
        | cons x p ih =>
          intro ks h
          cases h with
          | cons y t h =>
            obtain ⟨us, p1, p2⟩ := ih h
            exact ⟨y :: us, p1.cons y, .cons y t p2⟩
        | swap x y l =>
          intro ks h
          cases h with
          | cons x1 t1 h =>
            cases h with
            | cons x2 t2 h => exact ⟨_, List.Perm.swap _ _ _, .cons x2 t2 (.cons x1 t1 h)⟩
        | trans p q ih1 ih2 =>
          intro ks h
          obtain ⟨us, p1, p2⟩ := ih2 h
          obtain ⟨vs, q1, q2⟩ := ih1 p2
          exact ⟨vs, q1.trans p1, q2⟩
      obtain ⟨us, p1, p2⟩ := key pm hks
      exact ⟨us, p1.trans pk, p2⟩
    obtain ⟨hp, g1, d1, tk, o1⟩ := s1
    have eg : g1 = s.gens := hg
    have eo : o1 = s.os := ho
    subst eg eo
    have I1 : Inv X pins σ H { s with heap := hp, gens := s.gens, drawn := d1, toks := tk } := I.call (ch := []) (Un.kept hk) (I.hok.kept hk) I.bare (fun _ z => nomatch z)
    refine wpAny_bind (wpAny_newList ?_ (by rw [hvl, sizeLine_eq]; omega))
    have hoL : (hp.push (seqObj "list" vs.toArray 0)).get? hp.objs.size = some (seqObj "list" vs.toArray 0) := Heap.get?_push_size _ rfl
    refine wpAny_bind (wpAny_holding (wpAny_call_entry PyProof.Rows.slot_list_sort ⟨_, hoL, rfl⟩ PyProof.Rows.entry_list_sort (list_sort_treeK strKind_oneLt (s := { s with heap := hp.push (seqObj "list" vs.toArray 0), drawn := d1, toks := tk }) hoL hS.keysOf
      (fun v₁ v₂ rest e => keyKind_strs (by rw [← e]; exact hS)) (by rw [hvl]; exact h64) fun st' hpm hs => ⟨_, rfl, ?_⟩) (PyProof.Rows.args_list_sort _)))
    obtain ⟨zs, k1, k2, k3⟩ := sorted_out_str hS hpm hs
    obtain ⟨e', he'⟩ := PyProof.Rows.sortedHeap_at (vs := vs) (out := (arrOf st').map (·.2)) hoL
    have hlen : (zs.map V.str).length ≤ sizeLine := by
      rw [List.length_map, k2.length_eq, pu.length_eq, sizeLine_eq]
      omega
    refine wpAny_pure ⟨_, rfl, .ref hp.objs.size, upd H hp.objs.size (.lst (zs.map V.str)), I1.laid (t' := tk) (fun b u e => ?_) (Nat.le_refl _)
      (show ObjOk X.prog X.w _ _ _ (.lst (zs.map V.str)) from ⟨hlen, ((arrOf st').map (·.2)).toList, e', vals_of_strs k1, by rw [Array.toArray_toList]; exact he'⟩), rfl, q zs _ (k2.trans pu) k3 (I1.hok.fresh (Nat.le_refl _))⟩
    have hb : b < hp.objs.size := Heap.lt_size e
    rw [PyProof.Rows.sortedHeap_old (Nat.ne_of_lt hb) (by rw [size_push']; exact Nat.lt_succ_of_lt hb)]
    exact Heap.get?_push_of_some _ e
end
end Cl
/-! Own layer, part 8: signs in texts, join, pop, walks over a text, [::-1], sorted signs. -/
namespace Cl
open PySem PySem.Spec PyProof.Rows L2 He
section
variable {X : Cx}
/-- a sign in a text; a plain value in a list or tuple -/
def zIn (K : PySem.W.Frag) : R2 := fun x y H Q => match y with
  | .ref p => ∃ xs, (SqL K H p xs ∨ SqT K H p xs) ∧ flatV x = true ∧ xs.all flatV = true ∧ Q (.bl (inV x xs)) H
  | .str ⟨⟨z⟩⟩ => (match x with
    | .str ⟨⟨[c]⟩⟩ => Q (.bl (decide (c ∈ z))) H
    | _ => False)
  | _ => False
def zNotIn (K : PySem.W.Frag) : R2 := fun x y H Q => match y with
  | .ref p => ∃ xs, (SqL K H p xs ∨ SqT K H p xs) ∧ flatV x = true ∧ xs.all flatV = true ∧ Q (.bl (!inV x xs)) H
  | .str ⟨⟨z⟩⟩ => (match x with
    | .str ⟨⟨[c]⟩⟩ => Q (.bl (!decide (c ∈ z))) H
    | _ => False)
  | _ => False
theorem oz_in (hu : X.A.units + 64 < cLine) : OpR X (compareOp .In) (zIn X.K) := by
  intro pins s σ H x y v u Q I rx ry h
  match y, h with
  | .ref p, ⟨xs, h1, h2, h3, q⟩ => exact op_in_seq pins s σ H _ _ v u Q I rx ry ⟨p, xs, rfl, h1, h2, h3, q⟩
  | .str ⟨⟨z⟩⟩, h =>
    match x, h with
    | .str ⟨⟨[c]⟩⟩, h => exact op_in_sign pins s σ H _ _ v u Q I rx ry ⟨c, S z, rfl, rfl, h⟩
theorem oz_notin (hu : X.A.units + 64 < cLine) : OpR X (compareOp .NotIn) (zNotIn X.K) := by
  intro pins s σ H x y v u Q I rx ry h
  match y, h with
  | .ref p, ⟨xs, h1, h2, h3, q⟩ => exact op_notIn_seq pins s σ H _ _ v u Q I rx ry ⟨p, xs, rfl, h1, h2, h3, q⟩
  | .str ⟨⟨z⟩⟩, h =>
    match x, h with
    | .str ⟨⟨[c]⟩⟩, h => exact op_notIn_sign pins s σ H _ _ v u Q I rx ry ⟨c, S z, rfl, rfl, h⟩
/-- the texts ys with a between them -/
def glue (a : List Nat) : List (List Nat) → List Nat
  | [] => []
  | [x] => x
  | x :: y :: r => x ++ (a ++ glue a (y :: r))
theorem join_txt (a : List Nat) (ys : List (List Nat)) : Txt.join (S a) (ys.map S) = S (glue a ys) := by
  have key : ∀ (r : List (List Nat)) (x : List Nat), StrLaws.glueT a ((x :: r).map S) = glue a (x :: r) := by
    intro r
    induction r with
    | nil =>
      intro x
      show x ++ [] = x
      rw [List.append_nil]
    | cons y r ih =>
      intro x
      show x ++ StrLaws.glueL a ((y :: r).map S) = x ++ (a ++ glue a (y :: r))
      rw [← ih y]
      rfl
  cases ys with
  | nil => rfl
  | cons x r =>
    have e := StrLaws.glued_list (S a) (S x) (r.map S)
    have k := key r x
    have z : Txt.join (S a) ((x :: r).map S) = ⟨(Txt.join (S a) ((x :: r).map S)).cps⟩ := rfl
    rw [z]
    congr 1
    apply Array.ext'
    exact e.trans k
theorem glue_nil : ∀ ys : List (List Nat), glue [] ys = ys.flatten
  | [] => rfl
  | [x] => by show x = x ++ []; rw [List.append_nil]
  | x :: y :: r => by
    show x ++ ([] ++ glue [] (y :: r)) = x ++ (y :: r).flatten
    rw [glue_nil (y :: r)]
    rfl
def zJoin (K : PySem.W.Frag) : V → List V → Hp → VK → Prop := fun x xs H Q => match x, xs with
  | .str ⟨⟨a⟩⟩, [.ref p] => ∃ ys : List (List Nat), (SqL K H p (ys.map sv) ∨ SqT K H p (ys.map sv)) ∧ (ys.map List.length).sum + ys.length * a.length ≤ 16777216 ∧ Q (sv (glue a ys)) H
  | _, _ => False
theorem mz_join : MtR X "str.join" (zJoin X.K) := by
  intro pins s σ H x xs v us Q I rx rv h
  match x, xs, h with
  | .str ⟨⟨a⟩⟩, [.ref p], ⟨ys, h1, h2, q⟩ =>
    refine mt_join pins s σ H _ _ v us Q I rx rv ⟨S a, p, ys.map S, rfl, rfl, ?_, ?_, ?_⟩
    · rw [List.map_map]
      exact h1
    · rw [List.map_map, List.length_map]
      exact h2
    · rw [join_txt]
      exact q
def zPop : V → List V → Hp → VK → Prop := fun x vs H Q => match x, vs with
  | .ref l, [.int i] => ∃ (xs : List V) (y : V), H l = some (.lst xs) ∧ 0 ≤ i ∧ i < xs.length ∧ xs.length ≤ sizeLine ∧ xs[i.toNat]? = some y ∧ Q y (upd H l (.lst (xs.eraseIdx i.toNat)))
  | _, _ => False
theorem mz_pop : MtR X "list.pop" zPop := by
  intro pins s σ H x vs v us Q I rx rv h
  match x, vs, h with
  | .ref l, [.int i], ⟨xs, y, h1, h2, h3, h5, h4, q⟩ =>
    have hz := sizeLine_eq
    obtain ⟨hs, _⟩ := ixN_seq (n := xs.length) (i := i) (j := i.toNat) (by unfold ixN; rw [if_pos h2, if_pos h3])
    exact mt_popAt pins s σ H _ _ v us Q I rx rv ⟨l, xs, i, i.toNat, y, rfl, rfl, h1, by omega, by omega, hs, h4, q⟩
/-! ### text[::-1] -/
def tRevT (te : TE) : TE := fun σ H Q => te σ H fun x H1 => ∃ z, x = sv z ∧ z.length ≤ sizeLine ∧ Q (sv z.reverse) H1
theorem rev_txt (z : List Nat) (u : Tok) : Txt.sliceBy (S z) none none (-1, u) = S z.reverse := by
  have e := step_rev_list (S z) u
  have k : ((List.range (S z).length).map fun k => (S z).cps.getD ((S z).length - 1 - k) 0) = z.reverse := by
    apply List.ext_getElem
    · simp [S_len]
    · intro i h1 h2
      simp only [List.length_map, List.length_range] at h1
      rw [List.getElem_map, List.getElem_range, List.getElem_reverse]
      have hl : (S z).length = z.length := rfl
      have hi : z.length - 1 - i < z.length := by
        rw [hl] at h1
        omega
      show (⟨z⟩ : Array Nat).getD (z.length - 1 - i) 0 = _
      simp [Array.getD, hi]
  have z1 : Txt.sliceBy (S z) none none (-1, u) = ⟨(Txt.sliceBy (S z) none none (-1, u)).cps⟩ := rfl
  rw [z1]
  congr 1
  apply Array.ext'
  exact e.trans k
end
/-! ### sorted signs -/
/-- the codes in ascending order -/
def srt (z : List Nat) : List Nat := z.mergeSort (fun a b => decide (a ≤ b))
theorem srt_perm (z : List Nat) : (srt z).Perm z := List.mergeSort_perm _ _
theorem srt_le (z : List Nat) : (srt z).Pairwise (· ≤ ·) := by
  have h := List.pairwise_mergeSort (le := fun a b : Nat => decide (a ≤ b)) (fun a b c h1 h2 => by simp at *; omega) (fun a b => by simp; omega) z
  exact h.imp fun h => by simpa using h
theorem sorted_eq : ∀ {a b : List Nat}, a.Perm b → a.Pairwise (· ≤ ·) → b.Pairwise (· ≤ ·) → a = b
  | [], b, p, _, _ => (List.Perm.nil_eq p)
  | x :: a, [], p, _, _ => absurd p.length_eq (by simp)
  | x :: a, y :: b, p, ha, hb => by
    obtain ⟨h1, h2⟩ := List.pairwise_cons.mp ha
    obtain ⟨k1, k2⟩ := List.pairwise_cons.mp hb
    have e : x = y := by
      have m1 : x ∈ y :: b := p.mem_iff.mp List.mem_cons_self
      have m2 : y ∈ x :: a := p.mem_iff.mpr List.mem_cons_self
      rcases List.mem_cons.mp m1 with e | m1
      · exact e
      · rcases List.mem_cons.mp m2 with e | m2
        · exact e.symm
        · have := h1 y m2
          have := k1 x m1
          omega
    subst e
    rw [sorted_eq (List.Perm.cons_inv p) h2 k2]
theorem rising_pair : ∀ (zs : List Nat) (c : Nat), risingS (S [c]) (zs.map fun c => S [c]) = true → (c :: zs).Pairwise (· ≤ ·)
  | [], c, _ => List.pairwise_singleton _ _
  | d :: zs, c, h => by
    obtain ⟨h1, h2⟩ : (!ltCps [d] [c]) = true ∧ risingS (S [d]) (zs.map fun c => S [c]) = true := by
      have : (!ltCps [d] [c] && risingS (S [d]) (zs.map fun c => S [c])) = true := h
      simpa using this
    have ih := rising_pair zs d h2
    have hcd : c ≤ d := by
      have : ltCps [d] [c] = (decide (d < c) || (d == c && false)) := rfl
      rw [this] at h1
      simp at h1
      exact h1
    refine List.pairwise_cons.mpr ⟨fun x hx => ?_, ih⟩
    rcases List.mem_cons.mp hx with rfl | hx
    · exact hcd
    · exact Nat.le_trans hcd ((List.pairwise_cons.mp ih).1 x hx)
theorem map_sing_inv : ∀ {zs : List Str} {z : List Nat}, zs.Perm (z.map fun c => S [c]) → ∃ y : List Nat, zs = (y.map fun c => S [c]) ∧ y.Perm z := by
  intro zs z p
  have key : ∀ {a b : List Str}, a.Perm b → ∀ z : List Nat, b = (z.map fun c => S [c]) → ∃ y : List Nat, a = (y.map fun c => S [c]) ∧ y.Perm z := by
    intro a b p
    induction p with
    | nil => exact fun z e => ⟨z, e, List.Perm.refl _⟩
    | cons x p ih =>
      intro z e
      cases z with
      | nil => cases e
      | cons c z =>
        obtain ⟨e1, e2⟩ := List.cons.inj e
        obtain ⟨y, h1, h2⟩ := ih z e2
        exact ⟨c :: y, by rw [h1, e1]; rfl, h2.cons c⟩
    | swap x y l =>
      intro z e
      match z, e with
      | c :: d :: z, e =>
        obtain ⟨e1, e2⟩ := List.cons.inj e
        obtain ⟨e3, e4⟩ := List.cons.inj e2
        exact ⟨d :: c :: z, by rw [e1, e3, e4]; rfl, List.Perm.swap _ _ _⟩
    | trans p q ih1 ih2 =>
      intro z e
      obtain ⟨y, h1, h2⟩ := ih2 z e
      obtain ⟨x, k1, k2⟩ := ih1 y h1
      exact ⟨x, k1, k2.trans h2⟩
  exact key p z rfl
/-- what sorted gives of signs -/
theorem sorted_signs {zs : List Str} {z : List Nat} (p : zs.Perm (z.map fun c => S [c])) (h : sortedS zs = true) : zs.map V.str = sgs (srt z) := by
  obtain ⟨y, rfl, hy⟩ := map_sing_inv p
  have hs : y.Pairwise (· ≤ ·) := by
    cases y with
    | nil => exact List.Pairwise.nil
    | cons c y => exact rising_pair y c h
  have e : y = srt z := sorted_eq (hy.trans (srt_perm z).symm) hs (srt_le z)
  rw [e, ← sgs_eq]
theorem flat_sgs (z : List Nat) : (z.map fun c => [c]).flatten = z := by
  induction z with
  | nil => rfl
  | cons c z ih =>
    show [c] ++ (z.map fun c => [c]).flatten = c :: z
    rw [ih]
    rfl
end Cl
namespace Cl
open PySem PySem.Spec PyProof.Rows L2 He
section
variable {X : Cx}
theorem pe_revT {e : Expr} {te : TE} {k : Nat} {p1 p2 p3 pos : Pos} (he : PE X e te) : PE X (.Subscript e (.Slice none none (some (.UnaryOp .USub (.Constant (.int 1) k p1) p2)) p3) pos) (tRevT te) := by
  constructor
  intro pins s σ H Q I h
  refine Subscript_ (thn (he.run pins s σ H _ I h) ?_)
  rintro v s1 ⟨x, H1, I1, r1, z, rfl, hz, q⟩
  obtain ⟨t, rfl⟩ := r1
  have hst : PO X (some (.UnaryOp .USub (.Constant (.int 1) k p1) p2)) (tPart (tUn (rU fun i => .int (-i)) (tC (.int 1)))) := po_some (pe_un un_neg pe_int)
  refine wpAny_Slice (thn (po_none.run pins s1 σ H1 (fun o G => o = none ∧ G = H1) I1 ⟨rfl, rfl⟩) ?_)
  rintro vl s2 ⟨l, H2, I2, pl, rfl, rfl⟩
  refine thn (po_none.run pins s2 σ H2 (fun o G => o = none ∧ G = H2) I2 ⟨rfl, rfl⟩) ?_
  rintro vu s3 ⟨u, H3, I3, pu, rfl, rfl⟩
  refine thn (hst.run pins s3 σ H3 (fun o G => o = some (-1) ∧ G = H3) I3 ⟨1, rfl, -1, rfl, rfl, rfl⟩) ?_
  rintro vs s4 ⟨o, H4, I4, ps, rfl, rfl⟩
  have I5 : Inv X pins σ H4 { s4 with heap := s4.heap.push { cls := .type "slice", data := .fields #[vl, vu, vs] } } := I4.kept (t' := s4.toks) fun b ob w => Heap.get?_push_of_some _ w
  obtain ⟨l, rfl, el⟩ := IsPart.raw pl
  obtain ⟨u, rfl, eu⟩ := IsPart.raw pu
  obtain ⟨c, rfl, ec⟩ := IsPart.raw ps
  have el' : l = none := by cases l <;> first | rfl | cases el
  have eu' : u = none := by cases u <;> first | rfl | cases eu
  subst el' eu'
  obtain ⟨tk, rfl⟩ : ∃ tk, c = some (-1, tk) := by
    cases c with
    | none => cases ec
    | some c =>
      obtain ⟨i, tk⟩ := c
      have := Option.some.inj ec
      simp only at this
      subst this
      exact ⟨tk, rfl⟩
  refine PyProof.Rows.tail_any (ops := [.str (S z) t, .ref s4.heap.objs.size]) (typeIs_str _ _ _) F.slot_str_getitem.lookup ?_ (by with_unfolding_all rfl)
  refine wpAny_getItem_str_slice (l := none) (u := none) (st := some (-1, tk)) ⟨_, Heap.get?_push_size _ rfl, rfl, rfl⟩ rfl ?_
  have er := rev_txt z tk
  have hl : (Txt.sliceBy (S z) none none (-1, tk)).length ≤ sizeLine := by
    rw [er, S_len, List.length_reverse]
    exact hz
  have q' : Q (.str (Txt.sliceBy (S z) none none (-1, tk))) H4 := by
    rw [er]
    exact q
  have c0 : ¬ ((((some ((-1 : Int), tk)).map (·.1)).getD 1 == 1) && ((slicePicked (S z) none none (some (-1, tk))).length == (S z).length)) = true := by
    have : (((some ((-1 : Int), tk)).map (·.1)).getD 1 == 1) = false := rfl
    rw [this]
    simp
  unfold Txt.sliceBy at q' hl
  rw [if_neg c0] at q' hl
  unfold sliceMade
  rw [if_neg c0]
  exact ⟨hl, .str _, H4, I5.tok _, ⟨_, rfl⟩, q'⟩
end
end Cl
/-! Own layer, part 9: objects made in a try, errors asked in a suite, class constants. -/
namespace Cl
open PySem PySem.Spec PyProof.Rows L2 He
section
variable {X : Cx} {CX : CXT} {k : Nat} {f C : Addr} {fd : FuncData} {ps : List Str} {sp : Sp} {dvs : List V} {ds : List Value} {E : L2.St → XK} {x : Str} {p pos : Pos} {e : Expr} {es : List Expr} {t : TA}
/-- C(e, ..) where what its __init__ raises is wished for at the slots -/
def tMakeS (C : Addr) (sp : Sp) (dvs : List V) (E : L2.St → XK) (t : TA) : TE := fun σ H Q => t σ H fun vs H1 => ∀ x dx, H1 x = none → H1 dx = none → dx ≠ x →
  sp (.ref x :: (vs ++ dvs)) (upd (upd H1 dx (.own x)) x (.ins C dx [])) (fun v H2 => v = .non ∧ Q (.ref x) H2) (E σ)
theorem pe_makeS (M : Mk X.K C f) (F : FnOk X.prog X.w X.K X.mg X.base CX k f fd ps sp) (hr : Room (k + 1) X.A) (hg : Gl X x) (hm : X.mg x = some (.ref C)) (hb : Binds X.K fd ps ds) (hd : Vals dvs ds) (hx : ∀ σ, PassesAt CX X σ (E σ))
    (ha : PA X (e :: es) t) (hdb : (x == ("__debug__" : Str)) = false := by decide) (he : starEach (e :: es) X.env = (false, eval e X.env) :: starEach es X.env := by rfl) (hq : (backTo pos (starEach es X.env)).any (·.1) = false := by rfl) :
    PE X (.Call (.Name x p) (e :: es) [] pos) (tMakeS C sp dvs E t) := by
  constructor
  intro pins s σ H Q I h
  refine wpAny_Call_Name_kw (ld_glob I hg hm ?_ hdb)
  refine PySem.W.callWith_K (h₀ := X.base) I.ok.mod.kin M.kp (thn (ha.run pos pins s σ H _ I h) ?_) he hq
  rintro us s1 ⟨vs, H1, I1, r, q⟩
  refine ⟨I1.kIn, ?_⟩
  have hsp := q (s1.heap.objs.size + 1) s1.heap.objs.size (I1.hok.fresh (Nat.le_succ _)) (I1.hok.fresh (Nat.le_refl _)) (Nat.ne_of_lt (Nat.lt_succ_self _))
  have I2 := Inv.made (C := C) I1
  have r2 : Vals (V.ref (s1.heap.objs.size + 1) :: (vs ++ dvs)) (Value.ref (s1.heap.objs.size + 1) :: (us ++ ds)) := .cons rfl (r.append hd)
  have hl : (Value.ref (s1.heap.objs.size + 1) :: us ++ ds).length = ps.length := by
    have z := r2.length
    rw [F.len _ _ _ _ hsp] at z
    exact z.symm
  refine wpAny_call (make_map (f := f) I1.kIn M.makes M.init (beq_iff_eq.mp M.fn) ?_)
  refine codeAny_mono (F.run _ X.stack _ _ ⟨Value.ref (s1.heap.objs.size + 1) :: us, []⟩ (Value.ref (s1.heap.objs.size + 1) :: (us ++ ds)) _ _ (E σ) (hr.make C us []) (I2.env0.make C us []) (hb _ (Value.ref (s1.heap.objs.size + 1) :: us) I2.kIn hl) r2 hsp) ?_
  intro rr s' hq'
  cases rr with
  | error er => exact hx σ pins _ _ er s' I2 hq'
  | ok fl =>
    cases fl with
    | ret u =>
      obtain ⟨v, H', I3, rv, ev, q3⟩ := I2.after hq'
      subst ev
      exact ⟨rv, V.ref (s1.heap.objs.size + 1), H', I3, rfl, q3⟩
    | next => exact False.elim hq'
    | brk => exact False.elim hq'
    | cont => exact False.elim hq'
end
/-- isinstance(e, c) of the error that a suite holds, with its dict -/
def rIsW (K : PySem.W.Frag) (a : Addr) (cls : Value) (d : Option Addr) : List V → Hp → VK → Prop := fun xs H Q => ∃ (C dd : Addr) (fs : List (Str × V)) (c : V) (u : Value) (b : Bool), xs = [.ref a, c] ∧ cls = .ref C ∧ d = some dd ∧ H dd = some (.xd fs) ∧ XCls K C ∧ ClsV c u ∧ PySem.W.kitOne K (.ref C) u = some b ∧ Q (.bl b) H
theorem call_isW {X : Cx} {a : Addr} {oe : Obj} {cls : Value} {d : Option Addr} {pn : List (Addr × Obj)} (hz : Zc cls d oe) (hf : ∃ vs, oe.data = .fields vs) : CallR (X.suite a ((a, oe) :: pn)) (.builtin "isinstance") (rIsW X.K a cls d) := by
  intro pins s σ H xs us Q I r h
  obtain ⟨C, dd, fs, c, u, b, rfl, rfl, rfl, hd, T, k, hk, q⟩ := h
  obtain ⟨u1, u2, rfl, r1, r2⟩ := vals2 r
  obtain rfl := k.eq r2
  obtain rfl : u1 = Value.ref a := r1
  obtain ⟨ha, _⟩ := I.pin (a, oe) (List.mem_append_left _ List.mem_cons_self)
  obtain ⟨vs, hv⟩ := hf
  have hx : ObjOk X.prog X.w H s.heap dd (.xd fs) := I.hok dd _ hd
  obtain ⟨mA, hns, _⟩ := hx
  obtain ⟨od, ho, _⟩ := lookIn_ns hns
  have J : PySem.W.InstAt s.heap a oe C (some od) := ⟨ha, hz.1, by unfold PySem.W.notCls; rw [hv], by rw [hz.2]; exact ho⟩
  exact PySem.W.kia_one (PySem.W.kitx_exc T.cl T.f.ga T.f.gg T.f.exC T.kl T.sg T.tk T.mo) I.kIn J hk (fun z => nomatch z) fun tk => ⟨.bl b, H, I.tok tk, rfl, q⟩
end Cl
/-! Own layer, part 10: more facts by looks; raising. -/
namespace Cl
open PySem PySem.Spec PyProof.Rows L2 He ClX
def creadB (K : PySem.W.Frag) (C : Addr) : Bool := PySem.W.readsIn K C (.type "type") && decide (PySem.W.specialIn K (.ref C) "__getattribute__" = some (some (.builtin "type.__getattribute__")))
theorem creadB_ok {K : PySem.W.Frag} {C : Addr} (h : creadB K C = true) : CRead K C (.type "type") := ⟨(ba h).1, of_decide_eq_true (ba h).2⟩
def cvalB (K : PySem.W.Frag) (C : Addr) (f : Str) (v : V) : Bool := match PySem.W.findCls K (.ref C) (.type "type") f with
  | some (.val u) => relB v u
  | _ => false
theorem cvalB_ok {K : PySem.W.Frag} {C : Addr} {f : Str} {v : V} (h : cvalB K C f v = true) : ∃ u, CVal K C (.type "type") f v u := by
  unfold cvalB at h
  split at h
  · rename_i u e
    exact ⟨u, e, relB_ok h⟩
  · cases h
theorem mkr_ok {K : PySem.W.Frag} {x : Str} (h : (Fa.mkr x).ok K = true) : Mk K (ga K x) (fAd K (x, some "__init__")) := by
  obtain ⟨h1, h⟩ := ba h
  obtain ⟨h2, h⟩ := ba h
  obtain ⟨h3, h4⟩ := ba h
  exact ⟨h1, eqO_ok h2, h3, h4⟩
theorem cls_ok {K : PySem.W.Frag} {x : Str} (h : (Fa.cls x).ok K = true) : Cls K (ga K x) := by
  obtain ⟨h1, h⟩ := ba h
  obtain ⟨h2, h⟩ := ba h
  obtain ⟨h3, h4⟩ := ba h
  exact ⟨h1, h2, h3, eqO_ok h4⟩
theorem meth_ok {K : PySem.W.Frag} {x m : Str} (h : (Fa.meth x m).ok K = true) : Meth K (ga K x) m (fAd K (x, some m)) := by
  obtain ⟨h1, h⟩ := ba h
  obtain ⟨h2, h3⟩ := ba h
  exact ⟨eqO_ok h1, h2, h3⟩
/-- raise C(e, ..): what leaves the def is E's -/
def tRaiseE (E : XK) (C : Addr) (sp : Sp) (ta : TA) : TS := fun _ σ H => tMkO C sp [] ta σ H fun cls d H' => E cls d H'
/-- an error with one field, raised -/
theorem s_raise1 {E : XK} {C : Addr} {f : Str} {v : V} {D : Ends} {σ : L2.St} {H : Hp} (h : ∀ d, H d = none → E (.ref C) (some d) (upd H d (.xd [(f, v)]))) : tRaiseE E C (spX1 C f) (tCons (tC v) tNil) D σ H := by
  refine ⟨by show 1 ≤ 1000; decide, fun a ha => ⟨a, v, rfl, upd_same, fun d hd ne => ⟨rfl, d, _, upd_same, by rw [upd_ne ne, upd_same], (fresh_upd hd).1, ?_⟩⟩⟩
  obtain ⟨h1, _⟩ := fresh_upd hd
  have e : upd (del (upd (upd (upd H a (exo a C none)) d (exd d [(f, v)])) a (exo a C (some d))) a) d (.xd [(f, v)]) = upd H d (.xd [(f, v)]) := by
    funext b
    by_cases hb : b = d
    · rw [hb, upd_same, upd_same]
    · rw [upd_ne hb, upd_ne hb]
      by_cases hc : b = a
      · rw [hc, del_same, ha]
      · rw [del_ne hc, upd_ne hc, upd_ne hb, upd_ne hc]
  show E (.ref C) (some d) _
  rw [e]
  exact h d h1
/-- an error with one field v: the heap is as before but for its dict -/
def Err1 (C : Addr) (f : Str) (v : V) (H : Hp) (cls : Value) (d : Option Addr) (H' : Hp) : Prop := cls = .ref C ∧ ∃ dd, d = some dd ∧ H dd = none ∧ Same H H' ∧ H' dd = some (.xd [(f, v)])
end Cl
/-! Own layer, part 11: alphabets: what is said of them; comprehensions over texts. -/
namespace Cl
open PySem PySem.Spec PyProof.Rows L2 He ClX
abbrev small : List Nat := [97, 98, 99, 100, 101, 102, 103, 104, 105, 106, 107, 108, 109, 110, 111, 112, 113, 114, 115, 116, 117, 118, 119, 120, 121, 122]
def okL (ls : List Nat) : Prop := (∀ c ∈ ls, c ∈ small) ∧ 1 ≤ ls.length ∧ ls.length ≤ 8 ∧ ls.Nodup
def okV (ls vw : List Nat) : Prop := (∀ c ∈ vw, c ∈ ls) ∧ vw.Nodup
/-! ### the number of different signs -/
theorem sing_nodup {z : List Nat} : (z.map fun c => S [c]).Nodup ↔ z.Nodup := by
  constructor
  · intro h
    exact (List.pairwise_map.mp h).imp fun h e => h (by rw [e])
  · intro h
    exact List.pairwise_map.mpr (h.imp fun h e => h (by simpa using e))
theorem len_nodup {l : List Str} {z : List Nat} (nd : l.Nodup) (m : ∀ x, x ∈ l ↔ ∃ c ∈ z, x = S [c]) : l.length = z.length ↔ z.Nodup := by
  have s1 : ∀ x, x ∈ l → x ∈ z.map fun c => S [c] := fun x hx => by
    obtain ⟨c, hc, e⟩ := (m x).mp hx
    exact List.mem_map.mpr ⟨c, hc, e.symm⟩
  have s2 : ∀ x, x ∈ (z.map fun c => S [c]) → x ∈ l := fun x hx => by
    obtain ⟨c, hc, e⟩ := List.mem_map.mp hx
    exact (m x).mpr ⟨c, hc, e.symm⟩
  constructor
  · intro h
    have p := perm_of nd s1 (by rw [List.length_map]; omega)
    exact sing_nodup.mp (p.nodup_iff.mpr nd)
  · intro h
    have h1 := len_le_of nd s1
    have h2 := len_le_of (sing_nodup.mpr h) s2
    rw [List.length_map] at h1 h2
    omega
theorem len_nodup_b {l : List Str} {z : List Nat} (nd : l.Nodup) (m : ∀ x, x ∈ l ↔ ∃ c ∈ z, x = S [c]) : decide ((l.length : Int) = (z.length : Int)) = decide z.Nodup := by
  rw [Bool.eq_iff_iff, decide_eq_true_iff, decide_eq_true_iff, ← len_nodup nd m]
  omega
/-! ### heaps but for one -/
def But (D : Addr) (H H' : Hp) : Prop := ∀ a o, a ≠ D → H a = some o → H' a = some o
theorem But.refl (D : Addr) (H : Hp) : But D H H := fun _ _ _ e => e
theorem But.upd {D : Addr} {H H' : Hp} {o : HO} (b : But D H H') : But D H (upd H' D o) := fun a u ha e => upd_far ha (b a u ha e)
theorem But.same {D : Addr} {H H' : Hp} (b : But D H H') (hD : H D = none) : Same H H' := fun a o e => b a o (ne_of_none e hD) e
theorem same_but {D : Addr} {H H' : Hp} (s : Same H H') : But D H H' := fun a o _ e => s a o e
theorem But.trans {D : Addr} {H H1 H2 : Hp} (a : But D H H1) (b : But D H1 H2) : But D H H2 := fun x o hx e => b x o hx (a x o hx e)
/-! ### [sign for sign in text if ..] -/
theorem lc_txt {z : List Nat} {i : Nat} {tt : TT} {σ : L2.St} {H1 : Hp} {D : Addr} {Qd : Hp → Prop} (keep : Nat → Bool) (hz : z.length ≤ 1000) (hi : i < σ.length)
    (ht : ∀ (c : Nat) (H3 : Hp) (QB : Bool → Hp → Prop), c ∈ z → But D H1 H3 → QB (keep c) H3 → tt ((σ.set i none).set i (some (sv [c]))) H3 QB)
    (hd : ∀ H', But D H1 H' → H' D = some (.lst (sgs (z.filter keep))) → Qd H') :
    ∃ W : Nat → Nat → Hp → Prop, (∃ m, W 0 m (upd H1 D (.lst []))) ∧ ∀ j m H, W j m H →
      ((Its (S z)).stop j H ∧ Qd H) ∨ ((Its (S z)).go j H ∧ ∃ Nx : Hp → Prop, (∀ H', Nx H' → ∃ m', m' < m ∧ W (j + 1) m' H') ∧ ∀ x H', (Its (S z)).yld j H x H' → gName i x (wipe σ [i]) H' fun σ2 H2 => wipe σ2 [i] = wipe σ [i] ∧ tt σ2 H2 fun b H3 =>
        if b = true then tVar i σ2 H3 fun y H4 => ∃ acc, H4 D = some (.lst acc) ∧ acc.length < sizeLine ∧ Nx (upd H4 D (.lst (acc ++ [y]))) else Nx H3) := by
  refine lc_it walk_str (fun j Hj => But D H1 Hj ∧ Hj D = some (.lst (sgs ((z.take j).filter keep)))) ⟨(But.refl D H1).upd, upd_same⟩ (fun _ _ _ _ => trivial) ?_ ?_
  · rintro j x Hj Hj' hj ⟨kb, kD⟩ ⟨rfl, c, hc, rfl⟩
    have hzc : z[j]? = some c := by simpa using hc
    have hmem : c ∈ z := List.mem_of_getElem? hzc
    have htake : z.take (j + 1) = z.take j ++ [c] := by
      rw [List.take_succ, hzc]
      rfl
    refine ⟨?_, ?_⟩
    · show (((σ.set i none).set i (some (sv [c]))).set i none) = σ.set i none
      rw [List.set_set, List.set_set]
    · refine ht c _ _ hmem kb ?_
      cases hk : keep c with
      | true =>
        refine iteT ⟨sv [c], ?_, _, kD, ?_, kb.upd, ?_⟩
        · show ((σ.set i none).set i (some (sv [c])))[i]? = _
          rw [List.getElem?_set_self (by rw [List.length_set]; exact hi)]
        · rw [List.length_map, sizeLine_eq]
          have := List.length_filter_le keep (z.take j)
          have : (z.take j).length ≤ z.length := by rw [List.length_take]; omega
          omega
        · rw [upd_same, htake, List.filter_append]
          have : [c].filter keep = [c] := by simp [hk]
          rw [this]
          show _ = some (HO.lst (List.map _ (_ ++ _)))
          rw [List.map_append]
          rfl
      | false =>
        refine iteF ⟨kb, ?_⟩
        rw [kD, htake, List.filter_append]
        have : [c].filter keep = [] := by simp [hk]
        rw [this, List.append_nil]
  · rintro Hj ⟨kb, kD⟩
    refine hd Hj kb ?_
    rw [kD]
    have : z.take (S z).cps.size = z := List.take_length
    rw [this]
/-- the same over a list of signs -/
theorem lc_sgs {K : PySem.W.Frag} {q : Addr} {z : List Nat} {i : Nat} {tt : TT} {σ : L2.St} {H1 : Hp} {D : Addr} {Qd : Hp → Prop} (keep : Nat → Bool) (hz : z.length ≤ 1000) (hi : i < σ.length) (hq : H1 q = some (.lst (sgs z))) (hD : H1 D = none)
    (ht : ∀ (c : Nat) (H3 : Hp) (QB : Bool → Hp → Prop), c ∈ z → But D H1 H3 → QB (keep c) H3 → tt ((σ.set i none).set i (some (sv [c]))) H3 QB)
    (hd : ∀ H', But D H1 H' → H' D = some (.lst (sgs (z.filter keep))) → Qd H') :
    ∃ W : Nat → Nat → Hp → Prop, (∃ m, W 0 m (upd H1 D (.lst []))) ∧ ∀ j m H, W j m H →
      ((Itl K q).stop j H ∧ Qd H) ∨ ((Itl K q).go j H ∧ ∃ Nx : Hp → Prop, (∀ H', Nx H' → ∃ m', m' < m ∧ W (j + 1) m' H') ∧ ∀ x H', (Itl K q).yld j H x H' → gName i x (wipe σ [i]) H' fun σ2 H2 => wipe σ2 [i] = wipe σ [i] ∧ tt σ2 H2 fun b H3 =>
        if b = true then tVar i σ2 H3 fun y H4 => ∃ acc, H4 D = some (.lst acc) ∧ acc.length < sizeLine ∧ Nx (upd H4 D (.lst (acc ++ [y]))) else Nx H3) := by
  have nq : q ≠ D := ne_of_none hq hD
  refine lc_it (walk_list (xs := sgs z)) (fun j Hj => But D H1 Hj ∧ Hj D = some (.lst (sgs ((z.take j).filter keep)))) ⟨(But.refl D H1).upd, upd_same⟩ (fun _ Hj _ h => sq_of (h.1 q _ nq hq)) ?_ ?_
  · rintro j x Hj Hj' hj ⟨kb, kD⟩ ⟨rfl, hx⟩
    obtain ⟨c, hzc, rfl⟩ : ∃ c, z[j]? = some c ∧ x = sv [c] := by
      rw [List.getElem?_map] at hx
      cases e : z[j]? with
      | none =>
        rw [e] at hx
        cases hx
      | some c =>
        rw [e] at hx
        exact ⟨c, rfl, (Option.some.inj hx).symm⟩
    have hmem : c ∈ z := List.mem_of_getElem? hzc
    have htake : z.take (j + 1) = z.take j ++ [c] := by
      rw [List.take_succ, hzc]
      rfl
    refine ⟨?_, ?_⟩
    · show (((σ.set i none).set i (some (sv [c]))).set i none) = σ.set i none
      rw [List.set_set, List.set_set]
    · refine ht c _ _ hmem kb ?_
      cases hk : keep c with
      | true =>
        refine iteT ⟨sv [c], ?_, _, kD, ?_, kb.upd, ?_⟩
        · show ((σ.set i none).set i (some (sv [c])))[i]? = _
          rw [List.getElem?_set_self (by rw [List.length_set]; exact hi)]
        · rw [List.length_map, sizeLine_eq]
          have := List.length_filter_le keep (z.take j)
          have : (z.take j).length ≤ z.length := by rw [List.length_take]; omega
          omega
        · rw [upd_same, htake, List.filter_append]
          have : [c].filter keep = [c] := by simp [hk]
          rw [this]
          show _ = some (HO.lst (List.map _ (_ ++ _)))
          rw [List.map_append]
          rfl
      | false =>
        refine iteF ⟨kb, ?_⟩
        rw [kD, htake, List.filter_append]
        have : [c].filter keep = [] := by simp [hk]
        rw [this, List.append_nil]
  · rintro Hj ⟨kb, kD⟩
    refine hd Hj kb ?_
    rw [kD]
    have : z.take (sgs z).length = z := by rw [List.length_map]; exact List.take_length
    rw [this]
/-! ### joined signs -/
theorem sum_ones : ∀ z : List Nat, (z.map (List.length ∘ fun c => [c])).sum = z.length
  | [] => rfl
  | c :: z => by
    rw [List.map_cons, List.sum_cons, sum_ones z, List.length_cons]
    show 1 + z.length = _
    omega
theorem s_joinS {K : PySem.W.Frag} {z : List Nat} {p : Addr} {H : Hp} {Q : VK} (h : H p = some (.lst (sgs z))) (hz : z.length ≤ 1000) (q : Q (sv z) H) : zJoin K (sv []) [.ref p] H Q := by
  refine ⟨z.map fun c => [c], Or.inl (sq_of ?_), ?_, ?_⟩
  · rw [List.map_map]
    exact h
  · rw [List.map_map, List.length_map]
    rw [sum_ones]
    show z.length + z.length * 0 ≤ 16777216
    omega
  · rw [glue_nil, flat_sgs]
    exact q
/-- sorted(text) -/
theorem s_sortT {P : Program} {w : World} {K : PySem.W.Frag} {z : List Nat} {H : Hp} {Q : VK} (hz : z.length < 64) (q : ∀ p, H p = none → Q (.ref p) (upd H p (.lst (sgs (srt z))))) : zSortedS P w K [sv z] H Q :=
  Or.inl ⟨hz, fun zs p hp hs hn => by rw [sorted_signs hp hs]; exact q p hn⟩
theorem srt_len (z : List Nat) : (srt z).length = z.length := (srt_perm z).length_eq
theorem mem_srt {z : List Nat} {c : Nat} : c ∈ srt z ↔ c ∈ z := (srt_perm z).mem_iff
theorem srt_lt {z : List Nat} (h : z.Nodup) : (srt z).Pairwise (· < ·) := by
  have h1 := srt_le z
  have h2 : (srt z).Pairwise (· ≠ ·) := (srt_perm z).nodup_iff.mpr h
  exact (h1.and h2).imp fun h => by omega
/-! ### an alphabet object -/
def aflds (l v c s : List Nat) : List (Str × V) := putF "signs" (sv s) (putF "consonants" (sv c) (putF "vowels" (sv v) (putF "letters" (sv l) [])))
def cons (l v : List Nat) : List Nat := l.filter fun c => !decide (c ∈ v)
/-- the alphabet of the letters ls and the vowels vw (in any order), at p -/
def Alph (K : PySem.W.Frag) (H : Hp) (p : Addr) (ls vw : List Nat) : Prop := ∃ dx, H p = some (.ins (ga K "Alphabet") dx (aflds (srt ls) (srt vw) (cons (srt ls) vw) (45 :: srt ls)))
theorem ne1 : ¬ (("letters" : Str) = "vowels") := by decide +kernel
theorem ne2 : ¬ (("letters" : Str) = "consonants") := by decide +kernel
theorem ne3 : ¬ (("letters" : Str) = "signs") := by decide +kernel
theorem ne4 : ¬ (("vowels" : Str) = "consonants") := by decide +kernel
theorem ne5 : ¬ (("vowels" : Str) = "signs") := by decide +kernel
theorem ne6 : ¬ (("consonants" : Str) = "signs") := by decide +kernel
section
variable {l v c s : List Nat}
theorem af_letters : (aflds l v c s).lookup ("letters" : Str) = some (sv l) := by unfold aflds; rw [lookup_putF, if_neg ne3, lookup_putF, if_neg ne2, lookup_putF, if_neg ne1, lookup_putF, if_pos rfl]
theorem af_vowels : (aflds l v c s).lookup ("vowels" : Str) = some (sv v) := by unfold aflds; rw [lookup_putF, if_neg ne5, lookup_putF, if_neg ne4, lookup_putF, if_pos rfl]
theorem af_cons : (aflds l v c s).lookup ("consonants" : Str) = some (sv c) := by unfold aflds; rw [lookup_putF, if_neg ne6, lookup_putF, if_pos rfl]
theorem af_signs : (aflds l v c s).lookup ("signs" : Str) = some (sv s) := by unfold aflds; rw [lookup_putF, if_pos rfl]
end
end Cl
/-! Own layer, part 12: steps more; promises of the laws' common helpers and of Alphabet. -/
namespace Cl
open PySem PySem.Spec PyProof.Rows L2 He ClX
section
variable {K : PySem.W.Frag} {P : Program} {w : World} {H : Hp} {Q : VK} {QB : Bool → Hp → Prop} {σ : L2.St} {ta tb tc te tv : TE} {D : Ends} {f : Str} {c : Nat} {z : List Nat} {r r' : R2}
theorem s_in (h : Q (.bl (decide (c ∈ z))) H) : zIn K (sv [c]) (sv z) H Q := h
theorem s_notin (h : Q (.bl (!decide (c ∈ z))) H) : zNotIn K (sv [c]) (sv z) H Q := h
theorem s_chain (h : ta σ H fun x H1 => tb σ H1 fun y H2 => r x y H2 fun z H3 => ∃ k, z = .bl k ∧ (if k = true then tc σ H3 fun w' H4 => r' y w' H4 Q else Q (.bl false) H3)) : tChain r r' ta tb tc σ H Q := h
theorem s_sfld (h : tv σ H fun y H1 => ta σ H1 fun x H2 => ∃ a C dx fs, x = .ref a ∧ H2 a = some (.ins C dx fs) ∧ Cls K C ∧ NoAttr K C f ∧ fs.length < 1000 ∧ D.nx σ (upd H2 a (.ins C dx (putF f y fs)))) : sFld K ta tv f D σ H := h
theorem s_fld (h : te σ H fun x H1 => ∃ a C dx fs v, x = .ref a ∧ H1 a = some (.ins C dx fs) ∧ Cls K C ∧ NoAttr K C f ∧ fs.lookup f = some v ∧ Q v H1) : tFld K te f σ H Q := h
theorem s_cval (h : te σ H fun x H1 => ∃ C mc v u, x = .ref C ∧ CRead K C mc ∧ CVal K C mc f v u ∧ Q v H1) : tCVal K te f σ H Q := h
theorem s_lenLS {xs : List V} {p : Addr} (h : H p = some (.lst xs)) (q : Q (.int xs.length) H) : zLenS P w K [.ref p] H Q := Or.inl (s_lenL h q)
theorem s_lenTS (h : z.length ≤ sizeLine) (q : Q (.int z.length) H) : zLenS P w K [sv z] H Q := Or.inl (s_lenS h q)
theorem s_truB {b : Bool} {QP : Bool → Prop} (q : QP b) : ∃ k, TruV K (.bl b) H k ∧ QP k := ⟨b, rfl, q⟩
theorem s_truL {p : Addr} {xs : List V} {QP : Bool → Prop} (h : H p = some (.lst xs)) (q : QP (!xs.isEmpty)) : ∃ k, TruV K (.ref p) H k ∧ QP k := ⟨_, Or.inl ⟨xs, sq_of h, rfl⟩, q⟩
theorem s_andV (h : ta σ H fun x H1 => ∃ c, x = .bl c ∧ if c = true then tb σ H1 Q else Q (.bl false) H1) : tAndV ta tb σ H Q := h
theorem s_orV (h : ta σ H fun x H1 => ∃ c, x = .bl c ∧ if c = true then Q (.bl true) H1 else tb σ H1 Q) : tOrV ta tb σ H Q := h
theorem s_notV (h : ta σ H fun x H1 => ∃ c, x = .bl c ∧ Q (.bl (!c)) H1) : tNotV ta σ H Q := h
theorem s_isnotNN (h : Q (.bl false) H) : zIsNot .non .non H Q := by
  show Q (.bl (!decide (V.non = V.non))) H
  rw [decide_eq_true rfl]
  exact h
theorem s_isNN (h : Q (.bl true) H) : zIs .non .non H Q := by
  show Q (.bl (decide (V.non = V.non))) H
  rw [decide_eq_true rfl]
  exact h
theorem s_isBB {a b : Bool} (h : Q (.bl (decide (a = b))) H) : zIs (.bl a) (.bl b) H Q := h
theorem s_isnotBB {a b : Bool} (h : Q (.bl (!decide (a = b))) H) : zIsNot (.bl a) (.bl b) H Q := h
theorem s_mul {i j : Int} (h : CMul i j) (q : Q (.int (i * j)) H) : zMul (.int i) (.int j) H Q := ⟨h, q⟩
theorem s_revT {te : TE} (h : te σ H fun x H1 => ∃ z, x = sv z ∧ z.length ≤ sizeLine ∧ Q (sv z.reverse) H1) : tRevT te σ H Q := h
end
theorem putF_len (f : Str) (v : V) : ∀ fs : List (Str × V), (putF f v fs).length ≤ fs.length + 1
  | [] => Nat.le_refl _
  | (g, x) :: r => by
    unfold putF
    split
    · simp
    · have := putF_len f v r
      simp only [List.length_cons]
      omega
theorem sz1000 {n : Nat} (h : n ≤ 1000) : n ≤ sizeLine := by
  rw [sizeLine_eq]
  omega
theorem fil_none {ls z : List Nat} (h : ∀ c ∈ ls, c ∈ z) : (sgs (ls.filter fun c => !decide (c ∈ z))).isEmpty = true := by
  have : ls.filter (fun c => !decide (c ∈ z)) = [] := List.filter_eq_nil_iff.mpr fun c hc => by
    have := h c hc
    simpa using this
  rw [this]
  rfl
theorem fil_some {ls z : List Nat} (h : ¬ ∀ c ∈ ls, c ∈ z) : (sgs (ls.filter fun c => !decide (c ∈ z))).isEmpty = false := by
  cases q : ls.filter fun c => !decide (c ∈ z) with
  | nil =>
    refine absurd (fun c hc => ?_) h
    have := List.filter_eq_nil_iff.mp q c hc
    simpa using this
  | cons x r => rfl
theorem erase_map {α β : Type} (f : α → β) : ∀ (l : List α) (i : Nat), (l.map f).eraseIdx i = (l.eraseIdx i).map f
  | [], _ => by simp
  | x :: l, 0 => by simp
  | x :: l, i + 1 => by
    simp only [List.map_cons, List.eraseIdx_cons_succ]
    rw [erase_map f l i]
theorem s_makeS {C : Addr} {sp : Sp} {dvs : List V} {E : L2.St → XK} {t : TA} {σ : L2.St} {H : Hp} {Q : VK} (h : t σ H fun vs H1 => ∀ x dx, H1 x = none → H1 dx = none → dx ≠ x → sp (.ref x :: (vs ++ dvs)) (upd (upd H1 dx (.own x)) x (.ins C dx [])) (fun v H2 => v = .non ∧ Q (.ref x) H2) (E σ)) : tMakeS C sp dvs E t σ H Q := h
theorem s_make {C : Addr} {sp : Sp} {dvs : List V} {E : XK} {t : TA} {σ : L2.St} {H : Hp} {Q : VK} (h : t σ H fun vs H1 => ∀ x dx, H1 x = none → H1 dx = none → dx ≠ x → sp (.ref x :: (vs ++ dvs)) (upd (upd H1 dx (.own x)) x (.ins C dx [])) (fun v H2 => v = .non ∧ Q (.ref x) H2) E) : tMake C sp dvs E t σ H Q := h
/-- an object that is made leaves all as it was -/
theorem same_made {H : Hp} {x dx C : Addr} {fs : List (Str × V)} (nx : H x = none) (nd : H dx = none) : Same H (upd (upd H dx (.own x)) x (.ins C dx fs)) := fun b o e => by
  rw [upd_ne (ne_of_none e nx), upd_ne (ne_of_none e nd)]
  exact e
theorem but_made {H H' : Hp} {x dx C : Addr} {fs : List (Str × V)} (nx : H x = none) (nd : H dx = none) (b : But x (upd (upd H dx (.own x)) x (.ins C dx fs)) H') : Same H H' := fun a o e =>
  b a o (ne_of_none e nx) (same_made nx nd a o e)
theorem at_ofN {α : Type} {xs : List α} {z : Int} {j : Nat} {v : α} (e : z = (j : Int)) (h : xs[j]? = some v) : atI xs z = some v := by
  rw [e]
  exact atI_nat h
/-! ### slices by numbers -/
theorem cut_nn (z : List Nat) (a b : Nat) : cut z (some (a : Int)) (some (b : Int)) = (z.drop (min a z.length)).take (min b z.length - min a z.length) := by
  unfold cut
  rw [HT.sIx_nat, HT.sIx_nat]
theorem cut_sub {α : Type} (z : List α) (lo hi : Option Int) : (cut z lo hi).Sublist z := (List.take_sublist _ _).trans (List.drop_sublist _ _)
theorem cut_nn_len (z : List Nat) (a b : Nat) (h : a ≤ b) (hb : b ≤ z.length) : (cut z (some (a : Int)) (some (b : Int))).length = b - a := by
  rw [cut_nn, List.length_take, List.length_drop]
  omega
theorem okL_sub {l m : List Nat} (h : l.Sublist m) (hm : ∀ c ∈ m, c ∈ small) (nd : m.Nodup) (h1 : 1 ≤ l.length) (h8 : l.length ≤ 8) : okL l := ⟨fun c hc => hm c (h.subset hc), h1, h8, nd.sublist h⟩
theorem nd_of_lt {l : List Nat} (h : l.Pairwise (· < ·)) : l.Nodup := h.imp fun h => Nat.ne_of_lt h
/-! ### the promises -/
def sp_all_different (K : PySem.W.Frag) : Sp := fun vs H Q _ => ∃ z : List Nat, vs = [sv z] ∧ z.length ≤ 1000 ∧ ∀ H', Same H H' → Q (.bl (decide z.Nodup)) H'
abbrev txL : List Nat := [108, 101, 116, 116, 101, 114, 115]
abbrev txV : List Nat := [118, 111, 119, 101, 108, 115]
def sp_Alphabet_init (K : PySem.W.Frag) : Sp := fun vs H Q E => ∃ (p dx : Addr) (ls vw : List Nat), vs = [.ref p, sv ls, sv vw] ∧ H p = some (.ins (ga K "Alphabet") dx []) ∧ ls.length ≤ 60 ∧ vw.length ≤ 60 ∧
  (¬ okL ls → ∀ cls d H', Err1 (ga K "BadAlphabet") "part" (sv txL) H cls d H' → E cls d H') ∧
  (okL ls → ¬ okV ls vw → ∀ cls d H', Err1 (ga K "BadAlphabet") "part" (sv txV) H cls d H' → E cls d H') ∧
  (okL ls → okV ls vw → ∀ H', Alph K H' p ls vw → But p H H' → Q .non H')
def sp_l_letters (K : PySem.W.Frag) : Sp := fun vs H Q _ => ∃ (b : Addr) (top : Int), vs = [.ref b, .int top] ∧ Bag H b ∧ 1 ≤ top ∧ top ≤ 8 ∧
  ∀ ls H', ls.Pairwise (· < ·) → (∀ c ∈ ls, c ∈ small) → 1 ≤ ls.length → (ls.length : Int) ≤ top → Bst b H H' → Q (sv ls) H'
def sp_l_vowels (K : PySem.W.Frag) : Sp := fun vs H Q _ => ∃ (b : Addr) (ls : List Nat), vs = [.ref b, sv ls] ∧ Bag H b ∧ ls.length ≤ 26 ∧ ∀ vw H', vw.Sublist ls → Bst b H H' → Q (sv vw) H'
theorem len_all_different {K : PySem.W.Frag} (vs : List V) (H : Hp) (Q : VK) (E : XK) (h : sp_all_different K vs H Q E) : vs.length = 1 := by
  obtain ⟨a, rfl, _⟩ := h
  rfl
theorem len_Alphabet_init {K : PySem.W.Frag} (vs : List V) (H : Hp) (Q : VK) (E : XK) (h : sp_Alphabet_init K vs H Q E) : vs.length = 3 := by
  obtain ⟨p, dx, ls, vw, rfl, _⟩ := h
  rfl
theorem len_l_letters {K : PySem.W.Frag} (vs : List V) (H : Hp) (Q : VK) (E : XK) (h : sp_l_letters K vs H Q E) : vs.length = 2 := by
  obtain ⟨p, dx, rfl, _⟩ := h
  rfl
theorem len_l_vowels {K : PySem.W.Frag} (vs : List V) (H : Hp) (Q : VK) (E : XK) (h : sp_l_vowels K vs H Q E) : vs.length = 2 := by
  obtain ⟨p, dx, rfl, _⟩ := h
  rfl
end Cl
/-! Own layer, part 13: minus, bool(..), == by an own __eq__ with both answers, steps of methods, of dicts. -/
namespace Cl
open PySem PySem.Spec PyProof.Rows L2 He ClX
section
variable {X : Cx}
def zNeg : V → Hp → VK → Prop := fun x H Q => match x with
  | .int i => Q (.int (-i)) H
  | _ => False
theorem oz_neg : UnR X (unaryOp .USub) zNeg := by
  intro pins s σ H x v Q I rx h
  cases x with
  | int i => exact un_neg pins s σ H _ v Q I rx ⟨i, rfl, h⟩
  | _ => exact (show False from h).elim
def zBool (K : PySem.W.Frag) : List V → Hp → VK → Prop := fun xs H Q => match xs with
  | [.bl k] => Q (.bl k) H
  | _ => False
theorem cz_bool : CallR X (.type "bool") (zBool X.K) := by
  intro pins s σ H xs us Q I r h
  match xs, h with
  | [.bl k], h => exact call_bool1 pins s σ H _ us Q I r (Or.inr ⟨k, rfl, h⟩)
/-- x == y of two instances of the class at C, by its own __eq__ -/
def rEqI (C : Addr) (sp : Sp) (E : XK) : R2 := fun x y H Q => ∃ a b dx dy fs gs, x = .ref a ∧ y = .ref b ∧ H a = some (.ins C dx fs) ∧ H b = some (.ins C dy gs) ∧ sp [.ref a, .ref b] H (fun v H' => ∃ k, v = .bl k ∧ Q (.bl k) H') E
theorem op_eqI {n : Nat} {CX : CXT} {C f : Addr} {fd : FuncData} {ps : List Str} {sp : Sp} {E : XK} (F : FnOk X.prog X.w X.K X.mg X.base CX n f fd ps sp) (hr : Room n X.A)
    (hm : Meth X.K C "__eq__" f) (hb : Binds X.K fd ps []) (hx : Passes CX X E) : OpR X (compareOp .Eq) (rEqI C sp E) := by
  intro pins s σ H x y v u Q I rx ry h
  obtain ⟨a, b, dx, dy, fs, gs, rfl, rfl, ha, hb', hsp⟩ := h
  cases rx
  cases ry
  obtain ⟨mA, J, _⟩ := ins_get I.hok ha
  obtain ⟨mB, J', _⟩ := ins_get I.hok hb'
  obtain ⟨od, J, _⟩ := J.look
  obtain ⟨od', J', _⟩ := J'.look
  obtain ⟨m, hF⟩ := I.fr
  show wpAny (model X.prog X.w) X.A (richCompare .Eq (.ref a) (.ref b)) (EP X pins σ Q) X.xe s
  refine PySem.W.cmp_K (op := .Eq) (tb := .ref C) hr.units0 hF I.ok.mod.kin J J'.type (by simp [PySem.W.notFirst]) hm.at_ hm.fn ?_
  refine wpAny_mono (run_fn (ds := []) (dvs := []) (us := [.ref a, .ref b]) (vs := [.ref a, .ref b]) F hr hb .nil hx I (.cons rfl (.cons rfl .nil)) hsp) (fun r s' q => ?_) fun _ _ x => x
  obtain ⟨z, H', I', rz, k, rfl, q⟩ := q
  cases rz
  exact ⟨.bl k, H', I', rfl, q⟩
end
section
variable {K : PySem.W.Frag} {P : Program} {w : World} {H : Hp} {Q : VK} {σ : L2.St} {ta tb te td ty tx : TE} {t : TA} {D : Ends} {C : Addr} {f m : Str}
theorem s_neg {i : Int} (h : Q (.int (-i)) H) : zNeg (.int i) H Q := h
theorem s_un {r : V → Hp → VK → Prop} (h : ta σ H fun x H1 => r x H1 Q) : tUn r ta σ H Q := h
theorem s_bool {k : Bool} (h : Q (.bl k) H) : zBool K [.bl k] H Q := h
theorem s_meth {sp : Sp} {dvs : List V} {E : XK} (h : ta σ H fun x H1 => ∃ a dx fs, x = .ref a ∧ H1 a = some (.ins C dx fs) ∧ fs.lookup m = none ∧ t σ H1 fun vs H2 => sp (x :: (vs ++ dvs)) H2 Q E) : tMeth C m sp dvs E ta t σ H Q := h
theorem s_con (h : ta σ H fun x H1 => ∃ a C dx fs v u, x = .ref a ∧ H1 a = some (.ins C dx fs) ∧ Cls K C ∧ Con K C f v u ∧ fs.lookup f = none ∧ Q v H1) : tCon K ta f σ H Q := h
theorem s_disp {trs : List (TE × TE)} (h : ∀ p, H p = none → tPairs trs σ (upd H p (.dK [])) fun ps H2 => H2 p = some (.dK []) ∧ ∃ kvs : List (Key × V), ps = kvs.map (fun kv => (kV kv.1, kv.2)) ∧ kvs.length ≤ 15 ∧ Q (.ref p) (upd H2 p (.dK (mergeK [] kvs)))) : tDisp trs σ H Q := h
theorem s_pair {trs : List (TE × TE)} {QP : List (V × V) → Hp → Prop} (h : ta σ H fun x H1 => tb σ H1 fun y H2 => tPairs trs σ H2 fun ps H3 => QP ((x, y) :: ps) H3) : tPairs ((ta, tb) :: trs) σ H QP := h
theorem s_pnil {QP : List (V × V) → Hp → Prop} (h : QP [] H) : tPairs [] σ H QP := h
theorem s_dget2 (h : td σ H fun x H1 => ∃ a, x = .ref a ∧ IsD H1 a ∧ ty σ H1 fun y H2 => tx σ H2 fun z H3 => ∃ o, DGet H3 a y o ∧ Q (o.getD z) H3) : tDGet2 td ty tx σ H Q := h
theorem s_tru0 {x : V} {QP : Bool → Prop} {b : Bool} (h : TruV K x H b) (q : QP b) : ∃ k, TruV K x H k ∧ QP k := ⟨b, h, q⟩
end
/-! ### the fields of an alphabet that it has not -/
section
variable {l v c s : List Nat}
theorem af_no {m : Str} (h1 : ¬ (m = "letters")) (h2 : ¬ (m = "vowels")) (h3 : ¬ (m = "consonants")) (h4 : ¬ (m = "signs")) : (aflds l v c s).lookup m = none := by
  unfold aflds
  rw [lookup_putF, if_neg h4, lookup_putF, if_neg h3, lookup_putF, if_neg h2, lookup_putF, if_neg h1]
  rfl
end
/-- conditions for isinstance(x, C) of instances, by a look -/
structure ICls (K : PySem.W.Frag) (C : Addr) : Prop where
  ha : PySem.W.findIn K (.ref C) "__class__" = some (some (.builtin "object.__class__"))
  hn : PySem.W.specialIn K (.builtin "object.__class__") "__get__" = some (some (.builtin "getset_descriptor.__get__"))
  htk : PySem.W.takesIn K (.builtin "object.__class__") = some true
  hm : PySem.W.mroIn K C (.type "object") = some true
def iclsB (K : PySem.W.Frag) (C : Addr) : Bool := decide (PySem.W.findIn K (.ref C) "__class__" = some (some (.builtin "object.__class__"))) && (decide (PySem.W.specialIn K (.builtin "object.__class__") "__get__" = some (some (.builtin "getset_descriptor.__get__"))) && (decide (PySem.W.takesIn K (.builtin "object.__class__") = some true) && decide (PySem.W.mroIn K C (.type "object") = some true)))
theorem iclsB_ok {K : PySem.W.Frag} {C : Addr} (h : iclsB K C = true) : ICls K C := by
  obtain ⟨h1, h⟩ := ba h
  obtain ⟨h2, h⟩ := ba h
  obtain ⟨h3, h4⟩ := ba h
  exact ⟨of_decide_eq_true h1, of_decide_eq_true h2, of_decide_eq_true h3, of_decide_eq_true h4⟩
theorem s_isiI {K : PySem.W.Frag} {a C dx : Addr} {fs : List (Str × V)} {c : V} {u : Value} {b : Bool} {H : Hp} {Q : VK} (e : H a = some (.ins C dx fs)) (cl : Cls K C) (i : ICls K C) (k : ClsV c u) (hk : PySem.W.kitOne K (.ref C) u = some b) (q : Q (.bl b) H) : zIsi K [.ref a, c] H Q :=
  Or.inr ⟨_, _, _, _, b, rfl, k, .base (.ins e cl i.ha i.hn i.htk i.hm), hk, q⟩
theorem s_isiT {K : PySem.W.Frag} {z : List Nat} {c : V} {u : Value} {b : Bool} {H : Hp} {Q : VK} (k : ClsV c u) (hk : PySem.W.kitOne K (.type "str") u = some b) (q : Q (.bl b) H) : zIsi K [sv z, c] H Q :=
  Or.inr ⟨_, _, _, _, b, rfl, k, .base (.str _), hk, q⟩
end Cl
/-! Own layer, part 14: sets of signs: what is said of their names; promises of Alphabet's methods and of the laws' helpers. -/
namespace Cl
open PySem PySem.Spec PyProof.Rows L2 He ClX
/-- the alphabet with the letters ls and the vowels vw, both ascending, at p -/
def Al (K : PySem.W.Frag) (H : Hp) (p : Addr) (ls vw : List Nat) : Prop := ∃ dx, H p = some (.ins (ga K "Alphabet") dx (aflds ls vw (cons ls vw) (45 :: ls)))
theorem Al.same {K : PySem.W.Frag} {H H' : Hp} {p : Addr} {ls vw : List Nat} (a : Al K H p ls vw) (s : Same H H') : Al K H' p ls vw := let ⟨dx, e⟩ := a; ⟨dx, s _ _ e⟩
theorem srt_eq {l m : List Nat} (p : l.Perm m) (h : m.Pairwise (· < ·)) : srt l = m :=
  List.Perm.eq_of_pairwise (fun a b _ _ h1 h2 => Nat.le_antisymm h1 h2) (srt_le l) (h.imp fun h => Nat.le_of_lt h) ((srt_perm l).trans p)
theorem cons_perm (l : List Nat) {v w : List Nat} (p : v.Perm w) : cons l v = cons l w := by
  unfold cons
  congr 1
  funext c
  rw [Bool.eq_iff_iff]
  simp only [Bool.not_eq_true', decide_eq_false_iff_not, p.mem_iff]
theorem Alph.al {K : PySem.W.Frag} {H : Hp} {p : Addr} {l v ls vw : List Nat} (a : Alph K H p l v) (pl : l.Perm ls) (pv : v.Perm vw) (hl : ls.Pairwise (· < ·)) (hv : vw.Pairwise (· < ·)) : Al K H p ls vw := by
  obtain ⟨dx, e⟩ := a
  rw [srt_eq pl hl, srt_eq pv hv, cons_perm ls pv] at e
  exact ⟨dx, e⟩
abbrev txA : List Nat := [97, 108, 108]
abbrev txC : List Nat := [99, 111, 110, 115, 111, 110, 97, 110, 116, 115]
abbrev txJ : List Nat := [106, 111, 105, 110, 116, 115]
abbrev txS : List Nat := [115, 101, 116]
def inner (z : List Nat) : List Nat := cut z (some 1) (some (-1))
def isW (ls z : List Nat) : Bool := z.all fun c => decide (c ∈ 45 :: ls)
/-- a listed set -/
def okS (ls z : List Nat) : Prop := 3 ≤ z.length ∧ atI z 0 = some 91 ∧ atI z (-1) = some 93 ∧ isW ls (inner z) = true ∧ (inner z).Pairwise (· < ·)
/-- a set's name -/
def okN (ls z : List Nat) : Prop := z = txA ∨ z = txL ∨ z = txV ∨ z = txC ∨ z = txJ ∨ okS ls z
/-- its members -/
def mem (ls vw z : List Nat) : List Nat := if z = txA then 45 :: ls else if z = txL then ls else if z = txV then vw else if z = txC then cons ls vw else if z = txJ then [45] else inner z
def sp_Alphabet_eq (K : PySem.W.Frag) : Sp := fun vs H Q _ => ∃ (a b : Addr) (ls vw ls' vw' : List Nat), vs = [.ref a, .ref b] ∧ Al K H a ls vw ∧ Al K H b ls' vw' ∧ Q (.bl (decide (ls = ls') && decide (vw = vw'))) H
def sp_Alphabet_is_word (K : PySem.W.Frag) : Sp := fun vs H Q _ => ∃ (a : Addr) (ls vw z : List Nat), vs = [.ref a, sv z] ∧ Al K H a ls vw ∧ z.length ≤ 1000 ∧ Q (.bl (isW ls z)) H
def sp_Alphabet_listed_members (K : PySem.W.Frag) : Sp := fun vs H Q E => ∃ (a : Addr) (ls vw z : List Nat), vs = [.ref a, sv z] ∧ Al K H a ls vw ∧ z.length ≤ 60 ∧
  (okS ls z → ∀ H', Same H H' → Q (sv (inner z)) H') ∧ (¬ okS ls z → ∀ cls d H', Err1 (ga K "BadStage") "what" (sv txS) H cls d H' → E cls d H')
def sp_Alphabet_members (K : PySem.W.Frag) : Sp := fun vs H Q E => ∃ (a : Addr) (ls vw z : List Nat), vs = [.ref a, sv z] ∧ Al K H a ls vw ∧ z.length ≤ 60 ∧
  (okN ls z → ∀ H', Same H H' → Q (sv (mem ls vw z)) H') ∧ (¬ okN ls z → ∀ cls d H', Err1 (ga K "BadStage") "what" (sv txS) H cls d H' → E cls d H')
def sp_l_members (K : PySem.W.Frag) : Sp := fun vs H Q _ => ∃ (ls vw z : List Nat), vs = [sv ls, sv vw, sv z] ∧ ls.length ≤ 60 ∧ z.length ≤ 60 ∧ ∀ H', Same H H' → Q (sv (mem ls vw z)) H'
def sp_l_name (K : PySem.W.Frag) : Sp := fun vs H Q _ => ∃ (b : Addr) (ls : List Nat), vs = [.ref b, sv ls] ∧ Bag H b ∧ ls.Pairwise (· < ·) ∧ (∀ c ∈ ls, c ∈ small) ∧ ls.length ≤ 8 ∧ ∀ z H', okN ls z → z.length ≤ 60 → Bst b H H' → Q (sv z) H'
def sp_l_word (K : PySem.W.Frag) : Sp := fun vs H Q _ => ∃ (b : Addr) (sg : List Nat) (top : Nat), vs = [.ref b, sv sg, .int top] ∧ Bag H b ∧ 1 ≤ sg.length ∧ sg.length ≤ 60 ∧ top ≤ 60 ∧ ∀ z H', (∀ c ∈ z, c ∈ sg) → z.length ≤ top → Bst b H H' → Q (sv z) H'
section
variable {K : PySem.W.Frag} (vs : List V) (H : Hp) (Q : VK) (E : XK)
theorem len_Alphabet_eq (h : sp_Alphabet_eq K vs H Q E) : vs.length = 2 := by obtain ⟨_, _, _, _, _, _, rfl, _⟩ := h; rfl
theorem len_Alphabet_is_word (h : sp_Alphabet_is_word K vs H Q E) : vs.length = 2 := by obtain ⟨_, _, _, _, rfl, _⟩ := h; rfl
theorem len_Alphabet_listed_members (h : sp_Alphabet_listed_members K vs H Q E) : vs.length = 2 := by obtain ⟨_, _, _, _, rfl, _⟩ := h; rfl
theorem len_Alphabet_members (h : sp_Alphabet_members K vs H Q E) : vs.length = 2 := by obtain ⟨_, _, _, _, rfl, _⟩ := h; rfl
theorem len_l_members (h : sp_l_members K vs H Q E) : vs.length = 3 := by obtain ⟨_, _, _, rfl, _⟩ := h; rfl
theorem len_l_name (h : sp_l_name K vs H Q E) : vs.length = 2 := by obtain ⟨_, _, rfl, _⟩ := h; rfl
theorem len_l_word (h : sp_l_word K vs H Q E) : vs.length = 3 := by obtain ⟨_, _, _, rfl, _⟩ := h; rfl
end
end Cl
namespace Cl
open PySem PySem.Spec PyProof.Rows L2 He ClX
open C8 (tCut pss_cut)
abbrev sp_BadAlphabet_init (K : PySem.W.Frag) : Sp := spX1 (ga K "BadAlphabet") "part"
def t_BadAlphabet_init (P : Program) (w : World) (K : PySem.W.Frag) : TS :=
  tSeq (tDrop (tVeI K (tCons (tVar 0) (tCons (tC (sv [97, 110, 32, 97, 114, 103, 117, 109, 101, 110, 116, 32, 111, 102, 32, 97, 110, 32, 97, 108, 112, 104, 97, 98, 101, 116, 32, 105, 115, 32, 119, 114, 111, 110, 103])) tNil)))) (tOst K "part" (tVar 0) (tVar 1))
abbrev sp_BadStage_init (K : PySem.W.Frag) : Sp := spX1 (ga K "BadStage") "what"
def t_BadStage_init (P : Program) (w : World) (K : PySem.W.Frag) : TS :=
  tSeq (tDrop (tVeI K (tCons (tVar 0) (tCons (tC (sv [97, 32, 112, 97, 114, 116, 32, 111, 102, 32, 97, 32, 115, 116, 97, 103, 101, 32, 105, 115, 32, 119, 114, 111, 110, 103])) tNil)))) (tOst K "what" (tVar 0) (tVar 1))
def t_all_different (P : Program) (w : World) (K : PySem.W.Frag) : TS :=
  tRet (tOp (zEq K) (tCB (zLenS P w K) (tCons (tCB (zSet P w) (tCons (tVar 0) tNil)) tNil)) (tCB (zLenS P w K) (tCons (tVar 0) tNil)))
def t_Alphabet_init (P : Program) (w : World) (K : PySem.W.Frag) (E : XK) : TS :=
  tSeq (tAsg (tLc (iStr (tVar 1)) (gName 4) (tTest (tOp (zNotIn K) (tVar 4) (tC (sv [97, 98, 99, 100, 101, 102, 103, 104, 105, 106, 107, 108, 109, 110, 111, 112, 113, 114, 115, 116, 117, 118, 119, 120, 121, 122])))) (tVar 4) [4]) (gName 3)) (tSeq (tIfS (tOr (tTru K (tVar 3)) (tOr (tNot (tTest (tChain zLe zLe (tC (.int 1)) (tCB (zLenS P w K) (tCons (tVar 1) tNil)) (tCVal K (tC (.ref (ga K "Alphabet"))) "MOST")))) (tNot (tTru K (tCall (sp_all_different K) [] E0 (tCons (tVar 1) tNil)))))) (tRaiseE E (ga K "BadAlphabet") (sp_BadAlphabet_init K) (tCons (tC (sv [108, 101, 116, 116, 101, 114, 115])) tNil)) tNext) (tSeq (tIfS (tOr (tTru K (tLc (iStr (tVar 2)) (gName 4) (tTest (tOp (zNotIn K) (tVar 4) (tVar 1))) (tVar 4) [4])) (tNot (tTru K (tCall (sp_all_different K) [] E0 (tCons (tVar 2) tNil))))) (tRaiseE E (ga K "BadAlphabet") (sp_BadAlphabet_init K) (tCons (tC (sv [118, 111, 119, 101, 108, 115])) tNil)) tNext) (tSeq (sFld K (tVar 0) (tBM K "str" (zJoin K) (tC (sv [])) (tCons (tCB (zSortedS P w K) (tCons (tVar 1) tNil)) tNil)) "letters") (tSeq (sFld K (tVar 0) (tBM K "str" (zJoin K) (tC (sv [])) (tCons (tCB (zSortedS P w K) (tCons (tVar 2) tNil)) tNil)) "vowels") (tSeq (sFld K (tVar 0) (tBM K "str" (zJoin K) (tC (sv [])) (tCons (tLc (iList K (tCB (zSortedS P w K) (tCons (tVar 1) tNil))) (gName 4) (tTest (tOp (zNotIn K) (tVar 4) (tVar 2))) (tVar 4) [4]) tNil)) "consonants") (sFld K (tVar 0) (tOp zAdd (tCVal K (tC (.ref (ga K "Alphabet"))) "JOINT") (tFld K (tVar 0) "letters")) "signs"))))))
def t_Alphabet_eq (P : Program) (w : World) (K : PySem.W.Frag) : TS :=
  tRet (tAndV (tCB (zIsi K) (tCons (tVar 1) (tCons (tC (.ref (ga K "Alphabet"))) tNil))) (tAndV (tOp (zEq K) (tFld K (tVar 0) "letters") (tFld K (tVar 1) "letters")) (tOp (zEq K) (tFld K (tVar 0) "vowels") (tFld K (tVar 1) "vowels"))))
def t_Alphabet_is_word (P : Program) (w : World) (K : PySem.W.Frag) : TS :=
  tSeq (tFor (iStr (tVar 1)) (gName 2) (tIfS (tTest (tOp (zNotIn K) (tVar 2) (tFld K (tVar 0) "signs"))) (tRet (tC (.bl false))) tNext)) (tRet (tC (.bl true)))
def t_Alphabet_listed_members (P : Program) (w : World) (K : PySem.W.Frag) (E : XK) : TS :=
  tSeq (tAsg (tSl (zSl K) (tVar 1) (tPart (tC (.int 1))) (tPart (tUn zNeg (tC (.int 1))))) (gName 2)) (tSeq (tIfS (tOr (tTest (tOp zLt (tCB (zLenS P w K) (tCons (tVar 1) tNil)) (tC (.int 3)))) (tOr (tTest (tOp (zNe K) (tOp (zIx K) (tVar 1) (tC (.int 0))) (tC (sv [91])))) (tTest (tOp (zNe K) (tOp (zIx K) (tVar 1) (tUn zNeg (tC (.int 1)))) (tC (sv [93])))))) (tRaiseE E (ga K "BadStage") (sp_BadStage_init K) (tCons (tC (sv [115, 101, 116])) tNil)) tNext) (tSeq (tIfS (tOr (tNot (tTru K (tMeth (ga K "Alphabet") "is_word" (sp_Alphabet_is_word K) [] E0 (tVar 0) (tCons (tVar 2) tNil)))) (tTest (tOp (zNe K) (tBM K "str" (zJoin K) (tC (sv [])) (tCons (tCB (zSortedS P w K) (tCons (tCB (zSet P w) (tCons (tVar 2) tNil)) tNil)) tNil)) (tVar 2)))) (tRaiseE E (ga K "BadStage") (sp_BadStage_init K) (tCons (tC (sv [115, 101, 116])) tNil)) tNext) (tRet (tVar 2))))
def t_Alphabet_members (P : Program) (w : World) (K : PySem.W.Frag) (E : XK) : TS :=
  tSeq (tIfS (tTest (tOp (zEq K) (tVar 1) (tC (sv [97, 108, 108])))) (tRet (tFld K (tVar 0) "signs")) tNext) (tSeq (tIfS (tTest (tOp (zEq K) (tVar 1) (tC (sv [108, 101, 116, 116, 101, 114, 115])))) (tRet (tFld K (tVar 0) "letters")) tNext) (tSeq (tIfS (tTest (tOp (zEq K) (tVar 1) (tC (sv [118, 111, 119, 101, 108, 115])))) (tRet (tFld K (tVar 0) "vowels")) tNext) (tSeq (tIfS (tTest (tOp (zEq K) (tVar 1) (tC (sv [99, 111, 110, 115, 111, 110, 97, 110, 116, 115])))) (tRet (tFld K (tVar 0) "consonants")) tNext) (tSeq (tIfS (tTest (tOp (zEq K) (tVar 1) (tC (sv [106, 111, 105, 110, 116, 115])))) (tRet (tCVal K (tC (.ref (ga K "Alphabet"))) "JOINT")) tNext) (tRet (tMeth (ga K "Alphabet") "listed_members" (sp_Alphabet_listed_members K) [] E (tVar 0) (tCons (tVar 1) tNil)))))))
def t_l_bag (P : Program) (w : World) (K : PySem.W.Frag) : TS :=
  tRet (tLst (tCons (tCB (zListT K) (tCons (tSl (zSl K) (tVar 0) tNoPart (tPart (tC (.int 63)))) tNil)) (tCons (tC (.int 0)) (tCons (tC (.int 0)) (tCons (tC (.int 1)) tNil)))))
def t_l_take (P : Program) (w : World) (K : PySem.W.Frag) : TS :=
  tSeq (tIfS (tTest (tOp zGt (tOp (zIx K) (tVar 0) (tC (.int 2))) (tC (.int 0)))) (tSeq (tAsg (tCB zInt (tCons (tOp (zIx K) (tVar 0) (tC (.int 2))) tNil)) (gName 2)) (tSeq (tAsg (tOp zDiv (tVar 2) (tVar 1)) (gSub (tVar 0) (tC (.int 2)) rSetL)) (tRet (tOp zMod (tCB zInt (tCons (tVar 2) tNil)) (tVar 1))))) tNext) (tSeq (tAsg (tC (.int 0)) (gName 3)) (tSeq (tIfS (tTest (tOp zLt (tOp (zIx K) (tVar 0) (tC (.int 1))) (tCB (zLenS P w K) (tCons (tOp (zIx K) (tVar 0) (tC (.int 0))) tNil)))) (tAsg (tOp (zIx K) (tOp (zIx K) (tVar 0) (tC (.int 0))) (tOp (zIx K) (tVar 0) (tC (.int 1)))) (gName 3)) tNext) (tSeq (tAsg (tOp zAdd (tOp (zIx K) (tVar 0) (tC (.int 1))) (tC (.int 1))) (gSub (tVar 0) (tC (.int 1)) rSetL)) (tSeq (tIfS (tTest (tOp zGe (tVar 3) (tOp zPow (tC (.int 10)) (tC (.int 18))))) (tSeq (tAsg (tOp zDiv (tVar 3) (tVar 1)) (gSub (tVar 0) (tC (.int 2)) rSetL)) (tRet (tOp zMod (tCB zInt (tCons (tVar 3) tNil)) (tVar 1)))) tNext) (tSeq (tAsg (tOp zMod (tCB zInt (tCons (tOp zAdd (tOp zAdd (tOp zMul (tOp (zIx K) (tVar 0) (tC (.int 3))) (tC (.int 48271))) (tOp zMul (tVar 3) (tC (.int 69621)))) (tOp zMul (tOp (zIx K) (tVar 0) (tC (.int 1))) (tC (.int 7919)))) tNil)) (tC (.int 2147483647))) (gSub (tVar 0) (tC (.int 3)) rSetL)) (tRet (tOp zMod (tOp zDiv (tCB zInt (tCons (tOp (zIx K) (tVar 0) (tC (.int 3))) tNil)) (tC (.int 16))) (tVar 1))))))))
def t_l_letters (P : Program) (w : World) (K : PySem.W.Frag) : TS :=
  tSeq (tAsg (tCB (zListT K) (tCons (tC (sv [97, 98, 99, 100, 101, 102, 103, 104, 105, 106, 107, 108, 109, 110, 111, 112, 113, 114, 115, 116, 117, 118, 119, 120, 121, 122])) tNil)) (gName 2)) (tSeq (tAsg (tC (sv [])) (gName 3)) (tSeq (tFor (iRng1 (tCons (tOp zAdd (tC (.int 1)) (tCall (sp_l_take K) [] E0 (tCons (tVar 0) (tCons (tVar 1) tNil)))) tNil)) (gName 4) (tAsg (tOp zAdd (tVar 3) (tBM K "list" zPop (tVar 2) (tCons (tCall (sp_l_take K) [] E0 (tCons (tVar 0) (tCons (tCB (zLenS P w K) (tCons (tVar 2) tNil)) tNil))) tNil))) (gName 3))) (tRet (tBM K "str" (zJoin K) (tC (sv [])) (tCons (tCB (zSortedS P w K) (tCons (tVar 3) tNil)) tNil)))))
def t_l_vowels (P : Program) (w : World) (K : PySem.W.Frag) : TS :=
  tRet (tBM K "str" (zJoin K) (tC (sv [])) (tCons (tLc (iStr (tVar 1)) (gName 2) tYes (tOp (zIx K) (tLst (tCons (tC (sv [])) (tCons (tVar 2) tNil))) (tCall (sp_l_take K) [] E0 (tCons (tVar 0) (tCons (tC (.int 2)) tNil)))) [2]) tNil))
def t_l_members (P : Program) (w : World) (K : PySem.W.Frag) : TS :=
  tSeq (tAsg (tBM K "str" (zJoin K) (tC (sv [])) (tCons (tLc (iStr (tVar 0)) (gName 4) (tTest (tOp (zNotIn K) (tVar 4) (tVar 1))) (tVar 4) [4]) tNil)) (gName 3)) (tSeq (tAsg (tDisp [(tC (sv [97, 108, 108]), tOp zAdd (tC (sv [45])) (tVar 0)), (tC (sv [108, 101, 116, 116, 101, 114, 115]), tVar 0), (tC (sv [118, 111, 119, 101, 108, 115]), tVar 1), (tC (sv [99, 111, 110, 115, 111, 110, 97, 110, 116, 115]), tVar 3), (tC (sv [106, 111, 105, 110, 116, 115]), tC (sv [45]))]) (gName 5)) (tRet (tDGet2 (tVar 5) (tVar 2) (tSl (zSl K) (tVar 2) (tPart (tC (.int 1))) (tPart (tUn zNeg (tC (.int 1))))))))
def t_l_name (P : Program) (w : World) (K : PySem.W.Frag) : TS :=
  tSeq (tAsg (tCall (sp_l_take K) [] E0 (tCons (tVar 0) (tCons (tC (.int 6)) tNil))) (gName 2)) (tSeq (tAsg (tOp zAdd (tC (sv [45])) (tVar 1)) (gName 3)) (tSeq (tAsg (tIf (tTest (tOp (zEq K) (tVar 2) (tC (.int 5)))) (tBM K "str" (zJoin K) (tC (sv [])) (tCons (tLc (iStr (tVar 3)) (gName 5) tYes (tOp (zIx K) (tLst (tCons (tC (sv [])) (tCons (tVar 5) tNil))) (tCall (sp_l_take K) [] E0 (tCons (tVar 0) (tCons (tC (.int 2)) tNil)))) [5]) tNil)) (tC (sv []))) (gName 4)) (tCut (tIfS (tAnd (tTest (tOp (zEq K) (tVar 2) (tC (.int 5)))) (tTest (tOp (zEq K) (tVar 4) (tC (sv []))))) (tAsg (tOp (zIx K) (tVar 3) (tCall (sp_l_take K) [] E0 (tCons (tVar 0) (tCons (tCB (zLenS P w K) (tCons (tVar 3) tNil)) tNil)))) (gName 4)) tNext) (tRet (tOp (zIx K) (tLst (tCons (tC (sv [97, 108, 108])) (tCons (tC (sv [108, 101, 116, 116, 101, 114, 115])) (tCons (tC (sv [118, 111, 119, 101, 108, 115])) (tCons (tC (sv [99, 111, 110, 115, 111, 110, 97, 110, 116, 115])) (tCons (tC (sv [106, 111, 105, 110, 116, 115])) (tCons (tOp zAdd (tOp zAdd (tC (sv [91])) (tVar 4)) (tC (sv [93]))) tNil))))))) (tVar 2))))))
def t_l_word (P : Program) (w : World) (K : PySem.W.Frag) : TS :=
  tSeq (tAsg (tC (sv [])) (gName 3)) (tSeq (tFor (iRng1 (tCons (tCall (sp_l_take K) [] E0 (tCons (tVar 0) (tCons (tOp zAdd (tVar 2) (tC (.int 1))) tNil))) tNil)) (gName 4) (tIfS (tAnd (tTest (tOp (zNe K) (tVar 3) (tC (sv [])))) (tTest (tOp (zEq K) (tCall (sp_l_take K) [] E0 (tCons (tVar 0) (tCons (tC (.int 4)) tNil))) (tC (.int 0))))) (tAsg (tOp zAdd (tVar 3) (tOp (zIx K) (tVar 3) (tUn zNeg (tC (.int 1))))) (gName 3)) (tAsg (tOp zAdd (tVar 3) (tOp (zIx K) (tVar 1) (tCall (sp_l_take K) [] E0 (tCons (tVar 0) (tCons (tCB (zLenS P w K) (tCons (tVar 1) tNil)) tNil))))) (gName 3)))) (tRet (tVar 3)))
def sp_law (K : PySem.W.Frag) : Sp := fun vs H Q _ => ∃ (a : Addr) (ns : List Int), vs = [.ref a] ∧ SqL K H a (ns.map V.int) ∧ ns.length ≤ 63 ∧ ∀ H', Q (.bl true) H'
def t_law (P : Program) (w : World) (K : PySem.W.Frag) : TS :=
  tSeq (tAsg (tCall (sp_l_bag K) [] E0 (tCons (tVar 0) tNil)) (gName 1)) (tSeq (tAsg (tCall (sp_l_letters K) [] E0 (tCons (tVar 1) (tCons (tC (.int 8)) tNil))) (gName 2)) (tSeq (tAsg (tCall (sp_l_vowels K) [] E0 (tCons (tVar 1) (tCons (tVar 2) tNil))) (gName 3)) (tSeq (tAsg (tCall (sp_l_take K) [] E0 (tCons (tVar 1) (tCons (tCB (zLenS P w K) (tCons (tVar 2) tNil)) tNil))) (gName 4)) (tSeq (tAsg (tMake (ga K "Alphabet") (sp_Alphabet_init K) [] E0 (tCons (tOp zAdd (tSl (zSl K) (tVar 2) (tPart (tVar 4)) tNoPart) (tSl (zSl K) (tVar 2) tNoPart (tPart (tVar 4)))) (tCons (tRevT (tVar 3)) tNil))) (gName 5)) (tSeq (tAsg (tCall (sp_l_members K) [] E0 (tCons (tVar 2) (tCons (tVar 3) (tCons (tC (sv [99, 111, 110, 115, 111, 110, 97, 110, 116, 115])) tNil)))) (gName 6)) (tSeq (tAsg (tLst (tCons (tFld K (tVar 5) "letters") (tCons (tFld K (tVar 5) "vowels") (tCons (tFld K (tVar 5) "consonants") (tCons (tFld K (tVar 5) "signs") tNil))))) (gName 7)) (tSeq (tIfS (tTest (tOp (zNe K) (tVar 7) (tLst (tCons (tVar 2) (tCons (tVar 3) (tCons (tVar 6) (tCons (tOp zAdd (tC (sv [45])) (tVar 2)) tNil))))))) (tRet (tC (.bl false))) tNext) (tSeq (tIfS (tOr (tTest (tOp (zNe K) (tCVal K (tC (.ref (ga K "Alphabet"))) "JOINT") (tC (sv [45])))) (tOr (tTest (tOp (zNe K) (tCVal K (tC (.ref (ga K "Alphabet"))) "MOST") (tC (.int 8)))) (tTest (tOp (zNe K) (tCon K (tVar 5) "MOST") (tC (.int 8)))))) (tRet (tC (.bl false))) tNext) (tSeq (tFor (iList K (tLst (tCons (tC (sv [97, 108, 108])) (tCons (tC (sv [108, 101, 116, 116, 101, 114, 115])) (tCons (tC (sv [118, 111, 119, 101, 108, 115])) (tCons (tC (sv [99, 111, 110, 115, 111, 110, 97, 110, 116, 115])) (tCons (tC (sv [106, 111, 105, 110, 116, 115])) (tCons (tCall (sp_l_name K) [] E0 (tCons (tVar 1) (tCons (tVar 2) tNil))) tNil)))))))) (gName 8) (tSeq (tAsg (tMeth (ga K "Alphabet") "members" (sp_Alphabet_members K) [] E0 (tVar 5) (tCons (tVar 8) tNil)) (gName 9)) (tIfS (tOr (tNot (tTru K (tCB (zIsi K) (tCons (tVar 9) (tCons (tC (.ty "str")) tNil))))) (tTest (tOp (zNe K) (tVar 9) (tCall (sp_l_members K) [] E0 (tCons (tVar 2) (tCons (tVar 3) (tCons (tVar 8) tNil))))))) (tRet (tC (.bl false))) tNext))) (tSeq (tAsg (tCall (sp_l_word K) [] E0 (tCons (tVar 1) (tCons (tOp zAdd (tC (sv [45])) (tVar 2)) (tCons (tC (.int 12)) tNil)))) (gName 10)) (tSeq (tAsg (tLc (iStr (tC (sv [97, 98, 99, 100, 101, 102, 103, 104, 105, 106, 107, 108, 109, 110, 111, 112, 113, 114, 115, 116, 117, 118, 119, 120, 121, 122, 65, 90, 32, 48, 95, 46, 126, 91, 93]))) (gName 12) (tTest (tOp (zNotIn K) (tVar 12) (tVar 2))) (tVar 12) [12]) (gName 11)) (tSeq (tAsg (tOp (zIx K) (tVar 11) (tCall (sp_l_take K) [] E0 (tCons (tVar 1) (tCons (tCB (zLenS P w K) (tCons (tVar 11) tNil)) tNil)))) (gName 13)) (tSeq (tAsg (tCall (sp_l_take K) [] E0 (tCons (tVar 1) (tCons (tOp zAdd (tCB (zLenS P w K) (tCons (tVar 10) tNil)) (tC (.int 1))) tNil))) (gName 14)) (tSeq (tIfS (tOr (tTest (tOp zIsNot (tMeth (ga K "Alphabet") "is_word" (sp_Alphabet_is_word K) [] E0 (tVar 5) (tCons (tVar 10) tNil)) (tC (.bl true)))) (tTest (tOp zIsNot (tMeth (ga K "Alphabet") "is_word" (sp_Alphabet_is_word K) [] E0 (tVar 5) (tCons (tC (sv [])) tNil)) (tC (.bl true))))) (tRet (tC (.bl false))) tNext) (tSeq (tIfS (tTest (tOp zIsNot (tMeth (ga K "Alphabet") "is_word" (sp_Alphabet_is_word K) [] E0 (tVar 5) (tCons (tOp zAdd (tOp zAdd (tSl (zSl K) (tVar 10) tNoPart (tPart (tVar 14))) (tVar 13)) (tSl (zSl K) (tVar 10) (tPart (tVar 14)) tNoPart)) tNil)) (tC (.bl false)))) (tRet (tC (.bl false))) tNext) (tSeq (tAsg (tMake (ga K "Alphabet") (sp_Alphabet_init K) [sv []] E0 (tCons (tVar 2) tNil)) (gName 15)) (tSeq (tIfS (tOr (tTest (tOp (zNe K) (tFld K (tVar 15) "vowels") (tC (sv [])))) (tTest (tOp (zNe K) (tFld K (tVar 15) "consonants") (tVar 2)))) (tRet (tC (.bl false))) tNext) (tSeq (tAsg (tOp (rEqI (ga K "Alphabet") (sp_Alphabet_eq K) E0) (tVar 5) (tMake (ga K "Alphabet") (sp_Alphabet_init K) [] E0 (tCons (tVar 2) (tCons (tVar 3) tNil)))) (gName 16)) (tRet (tAndV (tCB (zBool K) (tCons (tVar 16) tNil)) (tOp (zEq K) (tCB (zBool K) (tCons (tOp (rEqI (ga K "Alphabet") (sp_Alphabet_eq K) E0) (tVar 5) (tVar 15)) tNil)) (tOp (zEq K) (tVar 3) (tC (sv []))))))))))))))))))))))))
end Cl
namespace Cl
open PySem PySem.Spec PyProof.Rows L2 He ClX
open C8 (tCut pss_cut)
def top (i : Nat) : Stmt := PySem.Challenge.pw_cliplore_k01_alphabet_and_sets.main.body.getD i (.Pass ⟨0, 0, 0, 0⟩)
abbrev st_BadAlphabet_init : Stmt := inClass (top 2) 0
abbrev N_BadAlphabet_init : List Str := ["self", "part"]
abbrev st_BadStage_init : Stmt := inClass (top 3) 0
abbrev N_BadStage_init : List Str := ["self", "what"]
abbrev st_all_different : Stmt := top 6
abbrev N_all_different : List Str := ["text"]
abbrev st_Alphabet_init : Stmt := inClass (top 7) 2
abbrev N_Alphabet_init : List Str := ["self", "letters", "vowels", "foreign", "sign"]
abbrev st_Alphabet_eq : Stmt := inClass (top 7) 3
abbrev N_Alphabet_eq : List Str := ["self", "other"]
abbrev st_Alphabet_is_word : Stmt := inClass (top 7) 6
abbrev N_Alphabet_is_word : List Str := ["self", "text", "sign"]
abbrev st_Alphabet_listed_members : Stmt := inClass (top 7) 5
abbrev N_Alphabet_listed_members : List Str := ["self", "name", "inner"]
abbrev st_Alphabet_members : Stmt := inClass (top 7) 4
abbrev N_Alphabet_members : List Str := ["self", "name"]
abbrev st_l_bag : Stmt := top 9
abbrev N_l_bag : List Str := ["_law_script"]
abbrev st_l_take : Stmt := top 10
abbrev N_l_take : List Str := ["_law_bag_here", "_law_size", "_law_rest", "_law_cell"]
abbrev st_l_letters : Stmt := top 11
abbrev N_l_letters : List Str := ["_law_bag_here", "_law_top", "_law_rest", "_law_letters_here", "_law_k"]
abbrev st_l_vowels : Stmt := top 12
abbrev N_l_vowels : List Str := ["_law_bag_here", "_law_letters_here", "_law_sign"]
abbrev st_l_members : Stmt := top 13
abbrev N_l_members : List Str := ["_law_letters_here", "_law_vowels_here", "_law_name_here", "_law_rest", "_law_sign", "_law_sets"]
abbrev st_l_name : Stmt := top 14
abbrev N_l_name : List Str := ["_law_bag_here", "_law_letters_here", "_law_way", "_law_signs", "_law_listed", "_law_sign"]
abbrev st_l_word : Stmt := top 15
abbrev N_l_word : List Str := ["_law_bag_here", "_law_signs", "_law_top", "_law_word_here", "_law_k"]
abbrev st_law : Stmt := top 16
abbrev N_law : List Str := ["_law_script", "_law_bag_here", "_law_letters_here", "_law_vowels_here", "_law_cut", "_law_alphabet", "_law_rest", "_law_fields", "_law_name_here", "_law_told", "_law_word_here", "_law_others", "_law_sign", "_law_foreign", "_law_at", "_law_plain", "_law_same"]
structure Facts (K : PySem.W.Frag) (mg : Str → Option Value) : Prop where
  g_Alphabet : mg "Alphabet" = some (.ref (ga K "Alphabet"))
  g_BadAlphabet : mg "BadAlphabet" = some (.ref (ga K "BadAlphabet"))
  g_BadStage : mg "BadStage" = some (.ref (ga K "BadStage"))
  g_ClipError : mg "ClipError" = some (.ref (ga K "ClipError"))
  g__law_bag : mg "_law_bag" = some (.ref (ga K "_law_bag"))
  g__law_letters : mg "_law_letters" = some (.ref (ga K "_law_letters"))
  g__law_members : mg "_law_members" = some (.ref (ga K "_law_members"))
  g__law_name : mg "_law_name" = some (.ref (ga K "_law_name"))
  g__law_take : mg "_law_take" = some (.ref (ga K "_law_take"))
  g__law_vowels : mg "_law_vowels" = some (.ref (ga K "_law_vowels"))
  g__law_word : mg "_law_word" = some (.ref (ga K "_law_word"))
  g_all_different : mg "all_different" = some (.ref (ga K "all_different"))
  g_law : mg "law" = some (.ref (ga K "law"))
  n_bool : mg "bool" = none
  n_int : mg "int" = none
  n_isinstance : mg "isinstance" = none
  n_len : mg "len" = none
  n_list : mg "list" = none
  n_range : mg "range" = none
  n_set : mg "set" = none
  n_sorted : mg "sorted" = none
  n_str : mg "str" = none
  i_BadAlphabet : PySem.W.findIn K (.ref (ga K "BadAlphabet")) "__init__" = some (some (.ref (fAd K ("BadAlphabet", some "__init__"))))
  ti_BadAlphabet : PySem.W.typeIn K (.ref (fAd K ("BadAlphabet", some "__init__"))) = some (.type "function")
  i_BadStage : PySem.W.findIn K (.ref (ga K "BadStage")) "__init__" = some (some (.ref (fAd K ("BadStage", some "__init__"))))
  ti_BadStage : PySem.W.typeIn K (.ref (fAd K ("BadStage", some "__init__"))) = some (.type "function")
  no_BadAlphabet_part : PySem.W.findIn K (.ref (ga K "BadAlphabet")) "part" = some none
  no_BadStage_what : PySem.W.findIn K (.ref (ga K "BadStage")) "what" = some none
  no_Alphabet_signs : PySem.W.findIn K (.ref (ga K "Alphabet")) "signs" = some none
  no_Alphabet_consonants : PySem.W.findIn K (.ref (ga K "Alphabet")) "consonants" = some none
  no_Alphabet_vowels : PySem.W.findIn K (.ref (ga K "Alphabet")) "vowels" = some none
  no_Alphabet_letters : PySem.W.findIn K (.ref (ga K "Alphabet")) "letters" = some none
  c_Alphabet : Cls K (ga K "Alphabet")
  mk_Alphabet : Mk K (ga K "Alphabet") (fAd K ("Alphabet", some "__init__"))
  m_Alphabet_is_word : Meth K (ga K "Alphabet") "is_word" (fAd K ("Alphabet", some "is_word"))
  m_Alphabet_listed_members : Meth K (ga K "Alphabet") "listed_members" (fAd K ("Alphabet", some "listed_members"))
  m_Alphabet_eq : Meth K (ga K "Alphabet") "__eq__" (fAd K ("Alphabet", some "__eq__"))
  m_Alphabet_members : Meth K (ga K "Alphabet") "members" (fAd K ("Alphabet", some "members"))
  v_SMALL : ∃ t, mg "SMALL" = some (.str (S [97, 98, 99, 100, 101, 102, 103, 104, 105, 106, 107, 108, 109, 110, 111, 112, 113, 114, 115, 116, 117, 118, 119, 120, 121, 122]) t)
  F_BadAlphabet_init : FunD K "__init__" "BadAlphabet.__init__" (defArgs st_BadAlphabet_init) (defBody st_BadAlphabet_init) (defScope st_BadAlphabet_init) [] [] (fAd K ("BadAlphabet", some "__init__")) (fdOf K ("BadAlphabet", some "__init__"))
  F_BadStage_init : FunD K "__init__" "BadStage.__init__" (defArgs st_BadStage_init) (defBody st_BadStage_init) (defScope st_BadStage_init) [] [] (fAd K ("BadStage", some "__init__")) (fdOf K ("BadStage", some "__init__"))
  F_all_different : FunD K "all_different" "all_different" (defArgs st_all_different) (defBody st_all_different) (defScope st_all_different) [] [] (fAd K ("all_different", none)) (fdOf K ("all_different", none))
  F_Alphabet_init : FunD K "__init__" "Alphabet.__init__" (defArgs st_Alphabet_init) (defBody st_Alphabet_init) (defScope st_Alphabet_init) [sv []] [] (fAd K ("Alphabet", some "__init__")) (fdOf K ("Alphabet", some "__init__"))
  F_Alphabet_eq : FunD K "__eq__" "Alphabet.__eq__" (defArgs st_Alphabet_eq) (defBody st_Alphabet_eq) (defScope st_Alphabet_eq) [] [] (fAd K ("Alphabet", some "__eq__")) (fdOf K ("Alphabet", some "__eq__"))
  F_Alphabet_is_word : FunD K "is_word" "Alphabet.is_word" (defArgs st_Alphabet_is_word) (defBody st_Alphabet_is_word) (defScope st_Alphabet_is_word) [] [] (fAd K ("Alphabet", some "is_word")) (fdOf K ("Alphabet", some "is_word"))
  F_Alphabet_listed_members : FunD K "listed_members" "Alphabet.listed_members" (defArgs st_Alphabet_listed_members) (defBody st_Alphabet_listed_members) (defScope st_Alphabet_listed_members) [] [] (fAd K ("Alphabet", some "listed_members")) (fdOf K ("Alphabet", some "listed_members"))
  F_Alphabet_members : FunD K "members" "Alphabet.members" (defArgs st_Alphabet_members) (defBody st_Alphabet_members) (defScope st_Alphabet_members) [] [] (fAd K ("Alphabet", some "members")) (fdOf K ("Alphabet", some "members"))
  F_l_bag : FunD K "_law_bag" "_law_bag" (defArgs st_l_bag) (defBody st_l_bag) (defScope st_l_bag) [] [] (fAd K ("_law_bag", none)) (fdOf K ("_law_bag", none))
  F_l_take : FunD K "_law_take" "_law_take" (defArgs st_l_take) (defBody st_l_take) (defScope st_l_take) [] [] (fAd K ("_law_take", none)) (fdOf K ("_law_take", none))
  F_l_letters : FunD K "_law_letters" "_law_letters" (defArgs st_l_letters) (defBody st_l_letters) (defScope st_l_letters) [] [] (fAd K ("_law_letters", none)) (fdOf K ("_law_letters", none))
  F_l_vowels : FunD K "_law_vowels" "_law_vowels" (defArgs st_l_vowels) (defBody st_l_vowels) (defScope st_l_vowels) [] [] (fAd K ("_law_vowels", none)) (fdOf K ("_law_vowels", none))
  F_l_members : FunD K "_law_members" "_law_members" (defArgs st_l_members) (defBody st_l_members) (defScope st_l_members) [] [] (fAd K ("_law_members", none)) (fdOf K ("_law_members", none))
  F_l_name : FunD K "_law_name" "_law_name" (defArgs st_l_name) (defBody st_l_name) (defScope st_l_name) [] [] (fAd K ("_law_name", none)) (fdOf K ("_law_name", none))
  F_l_word : FunD K "_law_word" "_law_word" (defArgs st_l_word) (defBody st_l_word) (defScope st_l_word) [] [] (fAd K ("_law_word", none)) (fdOf K ("_law_word", none))
  F_law : FunD K "law" "law" (defArgs st_law) (defBody st_law) (defScope st_law) [] [] (fAd K ("law", none)) (fdOf K ("law", none))
  x_BadAlphabet : XCls K (ga K "BadAlphabet")
  x_BadStage : XCls K (ga K "BadStage")
  bi : BInit K (ga K "ClipError")
  kt_Alphabet_Alphabet : PySem.W.kitOne K (.ref (ga K "Alphabet")) (.ref (ga K "Alphabet")) = some true
  co_Alphabet_MOST : ∃ u, Con K (ga K "Alphabet") "MOST" (.int 8) u
  ic_Alphabet : ICls K (ga K "Alphabet")
  kt_str_str : PySem.W.kitOne K (.type "str") (.type "str") = some true
  cr_Alphabet : CRead K (ga K "Alphabet") (.type "type")
  cv_Alphabet_JOINT : ∃ u, CVal K (ga K "Alphabet") (.type "type") "JOINT" (sv [45]) u
  cv_Alphabet_MOST : ∃ u, CVal K (ga K "Alphabet") (.type "type") "MOST" (.int 8) u
def fa : List Fa := [.glo "Alphabet", .glo "BadAlphabet", .glo "BadStage", .glo "ClipError", .glo "_law_bag", .glo "_law_letters", .glo "_law_members", .glo "_law_name", .glo "_law_take", .glo "_law_vowels", .glo "_law_word", .glo "all_different", .glo "law", .free "bool", .free "int", .free "isinstance", .free "len", .free "list", .free "range", .free "set", .free "sorted", .free "str", .meth "BadAlphabet" "__init__", .meth "BadStage" "__init__", .noat "BadAlphabet" "part", .noat "BadStage" "what", .noat "Alphabet" "signs", .noat "Alphabet" "consonants", .noat "Alphabet" "vowels", .noat "Alphabet" "letters", .cls "Alphabet", .mkr "Alphabet", .meth "Alphabet" "is_word", .meth "Alphabet" "listed_members", .meth "Alphabet" "__eq__", .meth "Alphabet" "members", .str "SMALL" (S [97, 98, 99, 100, 101, 102, 103, 104, 105, 106, 107, 108, 109, 110, 111, 112, 113, 114, 115, 116, 117, 118, 119, 120, 121, 122])]
def d_BadAlphabet_init : DefD := ⟨("BadAlphabet", some "__init__"), "__init__", "BadAlphabet.__init__", defArgs st_BadAlphabet_init, defBody st_BadAlphabet_init, defScope st_BadAlphabet_init, [], []⟩
def d_BadStage_init : DefD := ⟨("BadStage", some "__init__"), "__init__", "BadStage.__init__", defArgs st_BadStage_init, defBody st_BadStage_init, defScope st_BadStage_init, [], []⟩
def d_all_different : DefD := ⟨("all_different", none), "all_different", "all_different", defArgs st_all_different, defBody st_all_different, defScope st_all_different, [], []⟩
def d_Alphabet_init : DefD := ⟨("Alphabet", some "__init__"), "__init__", "Alphabet.__init__", defArgs st_Alphabet_init, defBody st_Alphabet_init, defScope st_Alphabet_init, [.str (S [])], []⟩
def d_Alphabet_eq : DefD := ⟨("Alphabet", some "__eq__"), "__eq__", "Alphabet.__eq__", defArgs st_Alphabet_eq, defBody st_Alphabet_eq, defScope st_Alphabet_eq, [], []⟩
def d_Alphabet_is_word : DefD := ⟨("Alphabet", some "is_word"), "is_word", "Alphabet.is_word", defArgs st_Alphabet_is_word, defBody st_Alphabet_is_word, defScope st_Alphabet_is_word, [], []⟩
def d_Alphabet_listed_members : DefD := ⟨("Alphabet", some "listed_members"), "listed_members", "Alphabet.listed_members", defArgs st_Alphabet_listed_members, defBody st_Alphabet_listed_members, defScope st_Alphabet_listed_members, [], []⟩
def d_Alphabet_members : DefD := ⟨("Alphabet", some "members"), "members", "Alphabet.members", defArgs st_Alphabet_members, defBody st_Alphabet_members, defScope st_Alphabet_members, [], []⟩
def d_l_bag : DefD := ⟨("_law_bag", none), "_law_bag", "_law_bag", defArgs st_l_bag, defBody st_l_bag, defScope st_l_bag, [], []⟩
def d_l_take : DefD := ⟨("_law_take", none), "_law_take", "_law_take", defArgs st_l_take, defBody st_l_take, defScope st_l_take, [], []⟩
def d_l_letters : DefD := ⟨("_law_letters", none), "_law_letters", "_law_letters", defArgs st_l_letters, defBody st_l_letters, defScope st_l_letters, [], []⟩
def d_l_vowels : DefD := ⟨("_law_vowels", none), "_law_vowels", "_law_vowels", defArgs st_l_vowels, defBody st_l_vowels, defScope st_l_vowels, [], []⟩
def d_l_members : DefD := ⟨("_law_members", none), "_law_members", "_law_members", defArgs st_l_members, defBody st_l_members, defScope st_l_members, [], []⟩
def d_l_name : DefD := ⟨("_law_name", none), "_law_name", "_law_name", defArgs st_l_name, defBody st_l_name, defScope st_l_name, [], []⟩
def d_l_word : DefD := ⟨("_law_word", none), "_law_word", "_law_word", defArgs st_l_word, defBody st_l_word, defScope st_l_word, [], []⟩
def d_law : DefD := ⟨("law", none), "law", "law", defArgs st_law, defBody st_law, defScope st_law, [], []⟩
def fnd : List DefD := [d_BadAlphabet_init, d_BadStage_init, d_all_different, d_Alphabet_init, d_Alphabet_eq, d_Alphabet_is_word, d_Alphabet_listed_members, d_Alphabet_members, d_l_bag, d_l_take, d_l_letters, d_l_vowels, d_l_members, d_l_name, d_l_word, d_law]
def ex (K : PySem.W.Frag) : Bool := xclsB K (ga K "BadAlphabet") && (xclsB K (ga K "BadStage") && (binitB K (ga K "ClipError") && (decide (PySem.W.kitOne K (.ref (ga K "Alphabet")) (.ref (ga K "Alphabet")) = some true) && (conB K "Alphabet" "MOST" (.int 8) && (iclsB K (ga K "Alphabet") && (decide (PySem.W.kitOne K (.type "str") (.type "str") = some true) && (creadB K (ga K "Alphabet") && (cvalB K (ga K "Alphabet") "JOINT" (sv [45]) && (cvalB K (ga K "Alphabet") "MOST" (.int 8))))))))))
theorem facts_of {K : PySem.W.Frag} {w : World} {h : Heap} {mg : Str → Option Value} (X : K.In h) (G : h.Ns mainGlobals mg) (c : SaysC fa fnd [] ex w K) : Facts K mg := by
  have hx := c.more
  obtain ⟨h1, hx⟩ := ba hx
  obtain ⟨h2, hx⟩ := ba hx
  obtain ⟨h3, hx⟩ := ba hx
  obtain ⟨h4, hx⟩ := ba hx
  obtain ⟨h5, hx⟩ := ba hx
  obtain ⟨h6, hx⟩ := ba hx
  obtain ⟨h7, hx⟩ := ba hx
  obtain ⟨h8, hx⟩ := ba hx
  obtain ⟨h9, hx⟩ := ba hx
  have h10 := hx
  exact {
    g_Alphabet := glo_ok X G (c.t.d.fact 0 (f := .glo "Alphabet") rfl),
    g_BadAlphabet := glo_ok X G (c.t.d.fact 1 (f := .glo "BadAlphabet") rfl),
    g_BadStage := glo_ok X G (c.t.d.fact 2 (f := .glo "BadStage") rfl),
    g_ClipError := glo_ok X G (c.t.d.fact 3 (f := .glo "ClipError") rfl),
    g__law_bag := glo_ok X G (c.t.d.fact 4 (f := .glo "_law_bag") rfl),
    g__law_letters := glo_ok X G (c.t.d.fact 5 (f := .glo "_law_letters") rfl),
    g__law_members := glo_ok X G (c.t.d.fact 6 (f := .glo "_law_members") rfl),
    g__law_name := glo_ok X G (c.t.d.fact 7 (f := .glo "_law_name") rfl),
    g__law_take := glo_ok X G (c.t.d.fact 8 (f := .glo "_law_take") rfl),
    g__law_vowels := glo_ok X G (c.t.d.fact 9 (f := .glo "_law_vowels") rfl),
    g__law_word := glo_ok X G (c.t.d.fact 10 (f := .glo "_law_word") rfl),
    g_all_different := glo_ok X G (c.t.d.fact 11 (f := .glo "all_different") rfl),
    g_law := glo_ok X G (c.t.d.fact 12 (f := .glo "law") rfl),
    n_bool := free_ok X G (c.t.d.fact 13 (f := .free "bool") rfl),
    n_int := free_ok X G (c.t.d.fact 14 (f := .free "int") rfl),
    n_isinstance := free_ok X G (c.t.d.fact 15 (f := .free "isinstance") rfl),
    n_len := free_ok X G (c.t.d.fact 16 (f := .free "len") rfl),
    n_list := free_ok X G (c.t.d.fact 17 (f := .free "list") rfl),
    n_range := free_ok X G (c.t.d.fact 18 (f := .free "range") rfl),
    n_set := free_ok X G (c.t.d.fact 19 (f := .free "set") rfl),
    n_sorted := free_ok X G (c.t.d.fact 20 (f := .free "sorted") rfl),
    n_str := free_ok X G (c.t.d.fact 21 (f := .free "str") rfl),
    i_BadAlphabet := eqO_ok (ba (c.t.d.fact 22 (f := .meth "BadAlphabet" "__init__") rfl)).1,
    ti_BadAlphabet := beq_iff_eq.mp (ba (ba (c.t.d.fact 22 (f := .meth "BadAlphabet" "__init__") rfl)).2).1,
    i_BadStage := eqO_ok (ba (c.t.d.fact 23 (f := .meth "BadStage" "__init__") rfl)).1,
    ti_BadStage := beq_iff_eq.mp (ba (ba (c.t.d.fact 23 (f := .meth "BadStage" "__init__") rfl)).2).1,
    no_BadAlphabet_part := eqO_ok (c.t.d.fact 24 (f := .noat "BadAlphabet" "part") rfl),
    no_BadStage_what := eqO_ok (c.t.d.fact 25 (f := .noat "BadStage" "what") rfl),
    no_Alphabet_signs := eqO_ok (c.t.d.fact 26 (f := .noat "Alphabet" "signs") rfl),
    no_Alphabet_consonants := eqO_ok (c.t.d.fact 27 (f := .noat "Alphabet" "consonants") rfl),
    no_Alphabet_vowels := eqO_ok (c.t.d.fact 28 (f := .noat "Alphabet" "vowels") rfl),
    no_Alphabet_letters := eqO_ok (c.t.d.fact 29 (f := .noat "Alphabet" "letters") rfl),
    c_Alphabet := cls_ok (c.t.d.fact 30 (f := .cls "Alphabet") rfl),
    mk_Alphabet := mkr_ok (c.t.d.fact 31 (f := .mkr "Alphabet") rfl),
    m_Alphabet_is_word := meth_ok (c.t.d.fact 32 (f := .meth "Alphabet" "is_word") rfl),
    m_Alphabet_listed_members := meth_ok (c.t.d.fact 33 (f := .meth "Alphabet" "listed_members") rfl),
    m_Alphabet_eq := meth_ok (c.t.d.fact 34 (f := .meth "Alphabet" "__eq__") rfl),
    m_Alphabet_members := meth_ok (c.t.d.fact 35 (f := .meth "Alphabet" "members") rfl),
    v_SMALL := str_ok X G (c.t.d.fact 36 (f := .str "SMALL" (S [97, 98, 99, 100, 101, 102, 103, 104, 105, 106, 107, 108, 109, 110, 111, 112, 113, 114, 115, 116, 117, 118, 119, 120, 121, 122])) rfl),
    F_BadAlphabet_init := fn_at (c.t.d.def_ 0 (d := d_BadAlphabet_init) rfl),
    F_BadStage_init := fn_at (c.t.d.def_ 1 (d := d_BadStage_init) rfl),
    F_all_different := fn_at (c.t.d.def_ 2 (d := d_all_different) rfl),
    F_Alphabet_init := fn_at (c.t.d.def_ 3 (d := d_Alphabet_init) rfl),
    F_Alphabet_eq := fn_at (c.t.d.def_ 4 (d := d_Alphabet_eq) rfl),
    F_Alphabet_is_word := fn_at (c.t.d.def_ 5 (d := d_Alphabet_is_word) rfl),
    F_Alphabet_listed_members := fn_at (c.t.d.def_ 6 (d := d_Alphabet_listed_members) rfl),
    F_Alphabet_members := fn_at (c.t.d.def_ 7 (d := d_Alphabet_members) rfl),
    F_l_bag := fn_at (c.t.d.def_ 8 (d := d_l_bag) rfl),
    F_l_take := fn_at (c.t.d.def_ 9 (d := d_l_take) rfl),
    F_l_letters := fn_at (c.t.d.def_ 10 (d := d_l_letters) rfl),
    F_l_vowels := fn_at (c.t.d.def_ 11 (d := d_l_vowels) rfl),
    F_l_members := fn_at (c.t.d.def_ 12 (d := d_l_members) rfl),
    F_l_name := fn_at (c.t.d.def_ 13 (d := d_l_name) rfl),
    F_l_word := fn_at (c.t.d.def_ 14 (d := d_l_word) rfl),
    F_law := fn_at (c.t.d.def_ 15 (d := d_law) rfl),
    x_BadAlphabet := xclsB_ok h1,
    x_BadStage := xclsB_ok h2,
    bi := binitB_ok h3,
    kt_Alphabet_Alphabet := of_decide_eq_true h4,
    co_Alphabet_MOST := conB_ok h5,
    ic_Alphabet := iclsB_ok h6,
    kt_str_str := of_decide_eq_true h7,
    cr_Alphabet := creadB_ok h8,
    cv_Alphabet_JOINT := cvalB_ok h9,
    cv_Alphabet_MOST := cvalB_ok h10 }
end Cl
namespace Cl
open PySem PySem.Spec PyProof.Rows L2 He ClX
open C8 (tCut pss_cut)
local macro_rules | `(tactic| walk_at "zs") => `(tactic| repeat (first
  | with_reducible refine s_seq ?_
  | with_reducible refine s_asg ?_
  | with_reducible refine s_if ?_
  | with_reducible refine s_var (by with_unfolding_all exact rfl) ?_
  | with_reducible refine s_c ?_
  | with_reducible refine s_op ?_
  | with_reducible refine s_cons ?_
  | with_reducible refine s_nil ?_
  | with_reducible refine s_cb ?_
  | with_reducible refine s_call ?_
  | with_reducible refine s_ret ?_
  | with_reducible refine s_test ?_
  | with_reducible refine s_bl ?_
  | with_reducible refine s_not ?_
  | with_reducible refine s_name ?_
  | with_reducible refine s_sub ?_
  | with_reducible refine s_sl ?_
  | with_reducible refine s_part ?_
  | with_reducible refine s_nopart ?_
  | with_reducible refine s_int ?_
  | with_reducible refine s_drop ?_
  | with_reducible refine s_lst ?_
  | with_reducible refine s_tup ?_
  | with_reducible refine s_bm ?_
  | with_reducible refine s_next ?_
  | with_reducible refine s_xfv ?_
  | with_reducible refine s_tru ?_
  | with_reducible refine s_yes ?_
  | with_reducible refine s_isnotNN ?_
  | with_reducible refine s_isNN ?_
  | with_reducible refine s_isBB ?_
  | with_reducible refine s_isnotBB ?_
  | with_reducible refine s_makeS ?_
  | with_reducible refine s_make ?_
  | with_reducible refine s_in ?_
  | with_reducible refine s_notin ?_
  | with_reducible refine s_chain ?_
  | with_reducible refine s_sfld ?_
  | with_reducible refine s_fld ?_
  | with_reducible refine s_cval ?_
  | with_reducible refine s_andV ?_
  | with_reducible refine s_orV ?_
  | with_reducible refine s_notV ?_
  | with_reducible refine s_truB ?_
  | with_reducible refine s_revT ?_
  | with_reducible refine iteT ?_
  | with_reducible refine iteF ?_
  | with_reducible refine s_or ?_
  | with_reducible refine s_and ?_
  | with_reducible refine s_addI ?_
  | with_reducible refine s_subI ?_
  | with_reducible refine s_ltI ?_
  | with_reducible refine s_leI ?_
  | with_reducible refine s_gtI ?_
  | with_reducible refine s_geI ?_
  | with_reducible refine s_intc ?_
  | with_reducible refine s_eq (by with_unfolding_all exact rfl) ?_
  | with_reducible refine s_ne (by with_unfolding_all exact rfl) ?_))
variable {K : PySem.W.Frag} {mg : Str → Option Value} {P : Program} {w : World}
theorem pure_l_bag (vs : List V) (H : Hp) (Q : VK) (E : XK) (h : sp_l_bag K vs H Q E) : t_l_bag P w K { nx := fun _ H' => Q .non H', rt := Q } (start ["_law_script"] vs) H := by
  obtain ⟨a, ns, rfl, hS, k⟩ := h
  show t_l_bag P w K _ [some (.ref a)] H
  unfold t_l_bag
  walk_at "zs"
  refine ⟨_, hS, fun p hp => ?_⟩
  walk_at "zs"
  refine ⟨_, Or.inl (sq_of upd_same), fun q hq => ?_⟩
  walk_at "zs"
  refine ⟨by show 4 ≤ sizeLine; decide, fun b hb => ?_⟩
  obtain ⟨hq', nqp⟩ := fresh_upd hq
  obtain ⟨hb', nbq⟩ := fresh_upd hb
  obtain ⟨hb'', nbp⟩ := fresh_upd hb'
  refine k b _ ⟨q, cut ns none (some 63), 0, 0, 1, upd_same, ?_, Ne.symm nbq, by decide⟩ (fun c o e => ?_) hb''
  · rw [upd_ne (Ne.symm nbq), upd_same, cut_map]
  · exact upd_old hb (upd_old hq (upd_old hp e))
theorem pure_l_take (vs : List V) (H : Hp) (Q : VK) (E : XK) (h : sp_l_take K vs H Q E) : t_l_take P w K { nx := fun _ H' => Q .non H', rt := Q } (start ["_law_bag_here", "_law_size", "_law_rest", "_law_cell"] vs) H := by
  obtain ⟨b, n, rfl, ⟨c, ns, pos, rest, seed, hb, hc, ne, h0⟩, n0, n1, k⟩ := h
  show t_l_take P w K _ [some (.ref b), some (.int n), none, none] H
  unfold t_l_take
  have bs : ∀ pos' rest' seed' : Int, 0 ≤ pos' → Bst b H (upd H b (.lst [.ref c, .int pos', .int rest', .int seed'])) := fun pos' rest' seed' hp =>
    ⟨fun a o ha e => upd_far ha e, ⟨c, ns, pos', rest', seed', upd_same, upd_far ne hc, ne, hp⟩, fun c0 ⟨ns0, p0, r0, s0, g1, g2, g3, g4⟩ => by
      rw [hb] at g1
      have z := (List.cons.inj (HO.lst.inj (Option.some.inj g1))).1
      cases z
      exact ⟨ns, pos', rest', seed', upd_same, upd_far ne hc, ne, hp⟩⟩
  have fin : ∀ (x pos' rest' seed' : Int), 0 ≤ pos' → Q (.int (x % n)) (upd H b (.lst [.ref c, .int pos', .int rest', .int seed'])) := fun x pos' rest' seed' hp =>
    k _ _ (Int.emod_nonneg _ (by omega)) (Int.emod_lt_of_pos _ n0) (bs pos' rest' seed' hp)
  have up2 : ∀ o1 o2 : HO, upd (upd H b o1) b o2 = upd H b o2 := fun o1 o2 => by
    funext z
    by_cases e : z = b
    · rw [e, upd_same, upd_same]
    · rw [upd_ne e, upd_ne e, upd_ne e]
  walk_at "zs"
  refine s_ixL hb rfl ?_
  walk_at "zs"
  refine ite2 (fun _ => ?_) (fun _ => ?_)
  · walk_at "zs"
    refine s_ixL hb rfl ?_
    walk_at "zs"
    refine ⟨⟨n0, n1⟩, ?_⟩
    walk_at "zs"
    refine ⟨b, _, _, _, rfl, rfl, hb, rfl, ?_⟩
    walk_at "zs"
    exact ⟨n0, fin _ _ _ _ h0⟩
  · walk_at "zs"
    refine s_ixL hb rfl ?_
    walk_at "zs"
    refine s_ixL hb rfl ?_
    walk_at "zs"
    refine s_lenLS hc ?_
    walk_at "zs"
    have tail : ∀ cell : Int, tSeq (tAsg (tOp zAdd (tOp (zIx K) (tVar 0) (tC (V.int 1))) (tC (V.int 1))) (gSub (tVar 0) (tC (V.int 1)) rSetL)) (tSeq (tIfS (tTest (tOp zGe (tVar 3) (tOp zPow (tC (V.int 10)) (tC (V.int 18)))))
        (tSeq (tAsg (tOp zDiv (tVar 3) (tVar 1)) (gSub (tVar 0) (tC (V.int 2)) rSetL)) (tRet (tOp zMod (tCB zInt (tCons (tVar 3) tNil)) (tVar 1)))) tNext)
        (tSeq (tAsg (tOp zMod (tCB zInt (tCons (tOp zAdd (tOp zAdd (tOp zMul (tOp (zIx K) (tVar 0) (tC (V.int 3))) (tC (V.int 48271))) (tOp zMul (tVar 3) (tC (V.int 69621)))) (tOp zMul (tOp (zIx K) (tVar 0) (tC (V.int 1))) (tC (V.int 7919)))) tNil)) (tC (V.int 2147483647))) (gSub (tVar 0) (tC (V.int 3)) rSetL))
        (tRet (tOp zMod (tOp zDiv (tCB zInt (tCons (tOp (zIx K) (tVar 0) (tC (V.int 3))) tNil)) (tC (V.int 16))) (tVar 1))))) { nx := fun _ H' => Q .non H', rt := Q } [some (.ref b), some (.int n), none, some (.int cell)] H := by
      intro cell
      walk_at "zs"
      refine s_ixL hb rfl ?_
      walk_at "zs"
      refine ⟨b, _, _, _, rfl, rfl, hb, rfl, ?_⟩
      walk_at "zs"
      refine ⟨⟨by decide, by decide, by decide⟩, ?_⟩
      walk_at "zs"
      refine ite2 (fun _ => ?_) (fun _ => ?_)
      · walk_at "zs"
        refine ⟨⟨n0, n1⟩, ?_⟩
        walk_at "zs"
        refine ⟨b, _, _, _, rfl, rfl, upd_same, rfl, ?_⟩
        walk_at "zs"
        refine ⟨n0, ?_⟩
        rw [up2]
        exact fin _ _ _ _ (by omega)
      · walk_at "zs"
        refine s_ixL upd_same rfl ?_
        walk_at "zs"
        refine ⟨Or.inr ⟨by decide, by decide⟩, ?_⟩
        walk_at "zs"
        refine ⟨Or.inr ⟨by decide, by decide⟩, ?_⟩
        walk_at "zs"
        refine s_ixL upd_same rfl ?_
        walk_at "zs"
        refine ⟨Or.inr ⟨by decide, by decide⟩, ?_⟩
        walk_at "zs"
        refine ⟨by decide, ?_⟩
        walk_at "zs"
        refine ⟨b, _, _, _, rfl, rfl, upd_same, rfl, ?_⟩
        walk_at "zs"
        refine s_ixL upd_same rfl ?_
        walk_at "zs"
        refine ⟨⟨by decide, by decide⟩, ?_⟩
        walk_at "zs"
        refine ⟨n0, ?_⟩
        rw [up2]
        exact fin _ _ _ _ (by omega)
    refine ite2 (fun hlt => ?_) (fun _ => ?_)
    · walk_at "zs"
      refine s_ixL hb rfl ?_
      walk_at "zs"
      refine s_ixL hb rfl ?_
      walk_at "zs"
      have hlt' : pos < ((ns.map V.int).length : Int) := of_decide_eq_true hlt
      rw [List.length_map] at hlt'
      obtain ⟨j, rfl⟩ : ∃ j : Nat, pos = j := ⟨pos.toNat, by omega⟩
      have hj : j < ns.length := by omega
      refine s_ixL hc (atI_nat (v := .int ns[j]) (by rw [List.getElem?_map, List.getElem?_eq_getElem hj]; rfl)) ?_
      exact tail ns[j]
    · exact tail 0
theorem pure_all_different (T : Facts K mg) (vs : List V) (H : Hp) (Q : VK) (E : XK) (h : sp_all_different K vs H Q E) : t_all_different P w K { nx := fun _ H' => Q .non H', rt := Q } (start N_all_different vs) H := by
  obtain ⟨z, rfl, hz, k⟩ := h
  show t_all_different P w K _ [some (sv z)] H
  unfold t_all_different
  walk_at "zs"
  refine ⟨hz, fun p l hp nd m hl => ?_⟩
  walk_at "zs"
  refine Or.inr ⟨p, l, rfl, upd_same, by omega, ?_⟩
  walk_at "zs"
  refine s_lenTS (sz1000 hz) ?_
  walk_at "zs"
  rw [len_nodup_b nd m]
  exact k _ (same_upd hp)
theorem pure_Alphabet_init (T : Facts K mg) (vs : List V) (H : Hp) (Q : VK) (E : XK) (h : sp_Alphabet_init K vs H Q E) : t_Alphabet_init P w K E { nx := fun _ H' => Q .non H', rt := Q } (start N_Alphabet_init vs) H := by
  obtain ⟨p, dx, ls, vw, rfl, hp, h1, h2, kL, kV, kQ⟩ := h
  show t_Alphabet_init P w K E _ [some (.ref p), some (sv ls), some (sv vw), none, none] H
  unfold t_Alphabet_init
  have raise : ∀ (v : V) (H1 : Hp) (D : Ends) (σ : L2.St), Same H H1 → (∀ cls d H', Err1 (ga K "BadAlphabet") "part" v H cls d H' → E cls d H') → tRaiseE E (ga K "BadAlphabet") (sp_BadAlphabet_init K) (tCons (tC v) tNil) D σ H1 := fun v H1 D σ s k =>
    s_raise1 fun d hd => k _ _ _ ⟨rfl, d, rfl, s.free hd, s.trans (same_upd hd), upd_same⟩
  walk_at "zs"
  refine ⟨_, rfl, S ls, rfl, fun F hF => ?_⟩
  refine lc_txt (fun c => !decide (c ∈ small)) (by omega) (by show 4 < 5; decide) (fun c H3 QB hc kb q => ?_) fun H1 kb kD => ?_
  · walk_at "zs"
    exact q
  have s1 : Same H H1 := kb.same hF
  walk_at "zs"
  refine s_truL kD ?_
  by_cases a1 : ∀ c ∈ ls, c ∈ small
  case neg =>
    rw [fil_some a1]
    refine iteT (iteT (raise _ _ _ _ s1 (kL fun h => a1 h.1)))
  rw [fil_none a1]
  refine iteF ?_
  walk_at "zs"
  refine s_lenTS (sz1000 (by omega)) ?_
  walk_at "zs"
  obtain ⟨uM, hM⟩ := T.cv_Alphabet_MOST
  by_cases a2 : (1 : Int) ≤ ls.length
  case neg =>
    rw [decide_eq_false a2]
    walk_at "zs"
    refine iteT (iteT (raise _ _ _ _ s1 (kL fun h => a2 (by have := h.2.1; omega))))
  rw [decide_eq_true a2]
  walk_at "zs"
  refine ⟨_, _, _, uM, rfl, T.cr_Alphabet, hM, ?_⟩
  walk_at "zs"
  by_cases a3 : (ls.length : Int) ≤ 8
  case neg =>
    rw [decide_eq_false a3]
    refine iteT (iteT (raise _ _ _ _ s1 (kL fun h => a3 (by have := h.2.2.1; omega))))
  rw [decide_eq_true a3]
  refine iteF ?_
  walk_at "zs"
  refine ⟨ls, rfl, by omega, fun H2 s2 => ?_⟩
  walk_at "zs"
  have s12 := s1.trans s2
  by_cases a4 : ls.Nodup
  case neg =>
    rw [decide_eq_false a4]
    refine iteT (raise _ _ _ _ s12 (kL fun h => a4 h.2.2.2))
  rw [decide_eq_true a4]
  refine iteF ?_
  have okl : okL ls := ⟨a1, by omega, by omega, a4⟩
  walk_at "zs"
  refine ⟨_, rfl, S vw, rfl, fun F2 hF2 => ?_⟩
  refine lc_txt (fun c => !decide (c ∈ ls)) (by omega) (by show 4 < 5; decide) (fun c H3 QB hc kb q => ?_) fun H3 kb3 kD3 => ?_
  · walk_at "zs"
    exact q
  have s3 : Same H H3 := s12.trans (kb3.same hF2)
  refine s_truL kD3 ?_
  by_cases b1 : ∀ c ∈ vw, c ∈ ls
  case neg =>
    rw [fil_some b1]
    refine iteT (iteT (raise _ _ _ _ s3 (kV okl fun h => b1 h.1)))
  rw [fil_none b1]
  refine iteF ?_
  walk_at "zs"
  refine ⟨vw, rfl, by omega, fun H4 s4 => ?_⟩
  walk_at "zs"
  have s34 := s3.trans s4
  by_cases b2 : vw.Nodup
  case neg =>
    rw [decide_eq_false b2]
    refine iteT (raise _ _ _ _ s34 (kV okl fun h => b2 h.2))
  rw [decide_eq_true b2]
  refine iteF ?_
  have okv : okV ls vw := ⟨b1, b2⟩
  clear raise kL kV kD3 kb3 kD kb
  have hp4 : H4 p = some (.ins (ga K "Alphabet") dx []) := s34 _ _ hp
  have bt4 : But p H H4 := same_but s34
  clear s34 s4 s3 s12 s2 s1
  obtain ⟨uJ, hJ⟩ := T.cv_Alphabet_JOINT
  -- self.letters
  walk_at "zs"
  refine ⟨rfl, ?_⟩
  walk_at "zs"
  refine s_sortT (by omega) fun q1 hq1 => ?_
  walk_at "zs"
  refine s_joinS upd_same (by rw [srt_len]; omega) ?_
  walk_at "zs"
  refine ⟨p, _, dx, _, rfl, upd_old hq1 hp4, T.c_Alphabet, T.no_Alphabet_letters, by decide, ?_⟩
  have hp5 := upd_same (H := upd H4 q1 (.lst (sgs (srt ls)))) (a := p) (o := .ins (ga K "Alphabet") dx (putF "letters" (sv (srt ls)) []))
  have bt5 : But p H (upd (upd H4 q1 (.lst (sgs (srt ls)))) p (.ins (ga K "Alphabet") dx (putF "letters" (sv (srt ls)) []))) := (bt4.trans (same_but (same_upd hq1))).upd
  revert hp5 bt5
  generalize upd _ p _ = H5
  intro hp5 bt5
  clear hp4 bt4 hq1
  -- self.vowels
  walk_at "zs"
  refine ⟨rfl, ?_⟩
  walk_at "zs"
  refine s_sortT (by omega) fun q2 hq2 => ?_
  walk_at "zs"
  refine s_joinS upd_same (by rw [srt_len]; omega) ?_
  walk_at "zs"
  refine ⟨p, _, dx, _, rfl, upd_old hq2 hp5, T.c_Alphabet, T.no_Alphabet_vowels, by have := putF_len "letters" (sv (srt ls)) []; simp only [List.length_nil] at this; omega, ?_⟩
  have hp6 := upd_same (H := upd H5 q2 (.lst (sgs (srt vw)))) (a := p) (o := .ins (ga K "Alphabet") dx (putF "vowels" (sv (srt vw)) (putF "letters" (sv (srt ls)) [])))
  have bt6 : But p H (upd (upd H5 q2 (.lst (sgs (srt vw)))) p (.ins (ga K "Alphabet") dx (putF "vowels" (sv (srt vw)) (putF "letters" (sv (srt ls)) [])))) := (bt5.trans (same_but (same_upd hq2))).upd
  revert hp6 bt6
  generalize upd _ p _ = H6
  intro hp6 bt6
  clear hp5 bt5 hq2
  -- self.consonants
  walk_at "zs"
  refine ⟨rfl, ?_⟩
  walk_at "zs"
  show tCB (zSortedS P w K) (tCons (tVar 1) tNil) _ _ _
  walk_at "zs"
  refine s_sortT (by omega) fun q3 hq3 => ?_
  refine ⟨q3, rfl, ⟨_, sq_of upd_same⟩, fun q4 hq4 => ?_⟩
  refine lc_sgs (fun c => !decide (c ∈ vw)) (by rw [srt_len]; omega) (by show 4 < 5; decide) upd_same hq4 (fun c H3 QB hc kb q => ?_) fun H7 kb7 kD7 => ?_
  · walk_at "zs"
    exact q
  have s67 : Same H6 H7 := (same_upd hq3).trans (kb7.same hq4)
  walk_at "zs"
  refine s_joinS (z := cons (srt ls) vw) kD7 (by have := List.length_filter_le (fun c => !decide (c ∈ vw)) (srt ls); rw [srt_len] at this; unfold cons; omega) ?_
  walk_at "zs"
  refine ⟨p, _, dx, _, rfl, s67 _ _ hp6, T.c_Alphabet, T.no_Alphabet_consonants, by have := putF_len "vowels" (sv (srt vw)) (putF "letters" (sv (srt ls)) []); have := putF_len "letters" (sv (srt ls)) []; simp only [List.length_nil] at this; omega, ?_⟩
  have hp8 := upd_same (H := H7) (a := p) (o := .ins (ga K "Alphabet") dx (putF "consonants" (sv (cons (srt ls) vw)) (putF "vowels" (sv (srt vw)) (putF "letters" (sv (srt ls)) []))))
  have bt8 : But p H (upd H7 p (.ins (ga K "Alphabet") dx (putF "consonants" (sv (cons (srt ls) vw)) (putF "vowels" (sv (srt vw)) (putF "letters" (sv (srt ls)) []))))) := (bt6.trans (same_but s67)).upd
  revert hp8 bt8
  generalize upd _ p _ = H8
  intro hp8 bt8
  clear hp6 bt6 kb7 kD7 s67
  -- self.signs
  walk_at "zs"
  refine ⟨_, _, _, uJ, rfl, T.cr_Alphabet, hJ, ?_⟩
  walk_at "zs"
  refine ⟨p, _, dx, _, _, rfl, hp8, T.c_Alphabet, T.no_Alphabet_letters, by rw [lookup_putF, if_neg ne2, lookup_putF, if_neg ne1, lookup_putF, if_pos rfl], ?_⟩
  refine s_addS (sz1000 (by rw [srt_len]; show 1 + _ ≤ _; omega)) ?_
  walk_at "zs"
  refine ⟨p, _, dx, _, rfl, hp8, T.c_Alphabet, T.no_Alphabet_signs, by have := putF_len "consonants" (sv (cons (srt ls) vw)) (putF "vowels" (sv (srt vw)) (putF "letters" (sv (srt ls)) [])); have := putF_len "vowels" (sv (srt vw)) (putF "letters" (sv (srt ls)) []); have := putF_len "letters" (sv (srt ls)) []; simp only [List.length_nil] at this; omega, ?_⟩
  exact kQ okl okv _ ⟨dx, upd_same⟩ bt8.upd
theorem pure_l_letters (T : Facts K mg) (vs : List V) (H : Hp) (Q : VK) (E : XK) (h : sp_l_letters K vs H Q E) : t_l_letters P w K { nx := fun _ H' => Q .non H', rt := Q } (start N_l_letters vs) H := by
  obtain ⟨b, top, rfl, bag, t1, t8, k⟩ := h
  show t_l_letters P w K _ [some (.ref b), some (.int top), none, none, none] H
  unfold t_l_letters
  walk_at "zs"
  refine ⟨by show 26 ≤ sizeLine; decide, fun p hp => ?_⟩
  obtain ⟨cc, bc⟩ := id bag
  obtain ⟨npb, npc⟩ := bc.ne hp
  have b0 : Bst b H (upd H p (.lst (sgs small))) := Bst.of_same bag (same_upd hp)
  have hp0 := upd_same (H := H) (a := p) (o := .lst (sgs small))
  revert b0 hp0
  generalize upd H p _ = H0
  intro b0 hp0
  walk_at "zs"
  show tOp zAdd (tC (.int 1)) (tCall (sp_l_take K) [] E0 (tCons (tVar 0) (tCons (tVar 1) tNil))) _ _ _
  walk_at "zs"
  refine ⟨b, top, rfl, b0.bag, by omega, by omega, fun r H1 r0 r1 b1 => ?_⟩
  walk_at "zs"
  refine ⟨1 + r, rfl, by omega, by omega, ?_⟩
  have hp1 := b1.keep p _ npb hp0
  have bb := b0.trans b1
  refine for_range (lo := 0) (n := (1 + r).toNat) (fun j σ H2 => ∃ (rest got : List Nat) (v4 : Option V), σ = [some (.ref b), some (.int top), some (.ref p), some (sv got), v4] ∧ H2 p = some (.lst (sgs rest)) ∧ (got ++ rest).Perm small ∧ got.length = j ∧ Bst b H H2)
    ⟨small, [], none, rfl, hp1, List.Perm.refl _, rfl, bb⟩ ?_ ?_
  · rintro j σ H2 hj ⟨rest, got, v4, rfl, hr, pm, hg, bs⟩
    have hlen : got.length + rest.length = 26 := by
      have := pm.length_eq
      rw [List.length_append] at this
      exact this
    have hj8 : j < 8 := by omega
    walk_at "zs"
    refine ⟨Or.inl ⟨rfl, _, Or.inl (Or.inl hr)⟩, ?_⟩
    walk_at "zs"
    refine s_lenLS hr ?_
    walk_at "zs"
    rw [List.length_map]
    refine ⟨b, _, rfl, bs.bag, by omega, by omega, fun i H3 i0 i1 b3 => ?_⟩
    have hr3 := b3.keep p _ npb hr
    have hi : i.toNat < rest.length := by omega
    walk_at "zs"
    refine ⟨_, sv [rest[i.toNat]], hr3, i0, by rw [List.length_map]; exact i1, by rw [List.length_map]; exact sz1000 (by omega), by rw [List.getElem?_map, List.getElem?_eq_getElem hi]; rfl, ?_⟩
    refine s_addS (sz1000 (by show _ + 1 ≤ _; omega)) ?_
    refine ⟨rest.eraseIdx i.toNat, got ++ [rest[i.toNat]], _, rfl, ?_, ?_, by rw [List.length_append, hg]; rfl, ?_⟩
    · rw [upd_same, sgs, erase_map]
    · have e := erase_perm rest i.toNat rest[i.toNat] (List.getElem?_eq_getElem hi)
      have : ((got ++ [rest[i.toNat]]) ++ rest.eraseIdx i.toNat) = got ++ (rest[i.toNat] :: rest.eraseIdx i.toNat) := by rw [List.append_assoc]; rfl
      rw [this]
      exact (e.append_left got).trans pm
    · have bs3 := bs.trans b3
      refine ⟨fun a o ha e => ?_, ?_, ?_⟩
      · by_cases hap : a = p
        · rw [hap, hp] at e
          cases e
        · exact upd_far hap (bs3.keep a o ha e)
      · exact ⟨cc, (bs3.cell _ bc).far npb npc⟩
      · intro c0 z
        obtain rfl : c0 = cc := by
          obtain ⟨_, _, _, _, g1, _⟩ := z
          obtain ⟨_, _, _, _, g2, _⟩ := bc
          rw [g1] at g2
          have z := (List.cons.inj (HO.lst.inj (Option.some.inj g2))).1
          cases z
          rfl
        exact (bs3.cell _ bc).far npb npc
  · rintro σ H2 ⟨rest, got, v4, rfl, hr, pm, hg, bs⟩
    have gl : got.length ≤ 8 := by omega
    have nd : got.Nodup := by
      have : (got ++ rest).Nodup := pm.nodup_iff.mpr (by decide)
      exact (List.nodup_append.mp this).1
    walk_at "zs"
    refine ⟨rfl, ?_⟩
    walk_at "zs"
    refine s_sortT (by omega) fun q hq => ?_
    walk_at "zs"
    refine s_joinS upd_same (by rw [srt_len]; omega) ?_
    refine k (srt got) _ (srt_lt nd) (fun c hc => pm.mem_iff.mp (List.mem_append_left _ (mem_srt.mp hc))) (by rw [srt_len]; omega) (by rw [srt_len]; omega) (bs.trans (Bst.of_same bs.bag (same_upd hq)))
theorem pure_l_vowels (T : Facts K mg) (vs : List V) (H : Hp) (Q : VK) (E : XK) (h : sp_l_vowels K vs H Q E) : t_l_vowels P w K { nx := fun _ H' => Q .non H', rt := Q } (start N_l_vowels vs) H := by
  obtain ⟨b, ls, rfl, bag, hl, k⟩ := h
  show t_l_vowels P w K _ [some (.ref b), some (sv ls), none] H
  unfold t_l_vowels
  walk_at "zs"
  refine ⟨rfl, ?_⟩
  walk_at "zs"
  refine ⟨_, rfl, S ls, rfl, fun D hD => ?_⟩
  obtain ⟨cc, bc⟩ := id bag
  obtain ⟨nDb, nDc⟩ := bc.ne hD
  refine lc_it walk_str (fun i Hi => ∃ ys : List (List Nat), Hi D = some (.lst (ys.map sv)) ∧ ys.flatten.Sublist (ls.take i) ∧ ys.length = i ∧ (ys.map List.length).sum ≤ i ∧ BagC Hi b cc ∧ ∀ a o, a ≠ b → a ≠ D → H a = some o → Hi a = some o)
    ⟨[], upd_same, List.Sublist.refl _, rfl, Nat.le_refl _, ?_, fun a o ha hd e => upd_far hd e⟩ (fun _ _ _ _ => trivial) ?_ ?_
  · exact bc.same (same_upd hD)
  · rintro i x Hi Hi' hi ⟨ys, hy, sub, yl, ysum, bi, kp⟩ ⟨rfl, c, hc, rfl⟩
    have hlc : ls[i]? = some c := by simpa using hc
    have il : i < ls.length := (List.getElem?_eq_some_iff.mp hlc).1
    have htake : ls.take (i + 1) = ls.take i ++ [c] := by
      rw [List.take_succ, hlc]
      rfl
    refine ⟨rfl, ?_⟩
    walk_at "zs"
    refine ⟨by show 2 ≤ sizeLine; decide, fun q hq => ?_⟩
    have nqb : q ≠ b := (bi.ne hq).1
    have nqD : q ≠ D := (ne_of_none hy hq).symm
    walk_at "zs"
    refine ⟨b, _, rfl, ⟨cc, bi.same (same_upd hq)⟩, by decide, by decide, fun r H3 r0 r1 b3 => ?_⟩
    have hq3 := b3.keep q _ nqb upd_same
    have hy3 := b3.keep D _ nDb (upd_old hq hy)
    have fin : ∀ u : List Nat, u.Sublist [c] → u.length ≤ 1 → ∃ acc, H3 D = some (.lst acc) ∧ acc.length < sizeLine ∧ ∃ ys : List (List Nat), upd H3 D (.lst (acc ++ [sv u])) D = some (.lst (ys.map sv)) ∧ ys.flatten.Sublist (ls.take (i + 1)) ∧ ys.length = i + 1 ∧ (ys.map List.length).sum ≤ i + 1 ∧ BagC (upd H3 D (.lst (acc ++ [sv u]))) b cc ∧
        ∀ a o, a ≠ b → a ≠ D → H a = some o → upd H3 D (.lst (acc ++ [sv u])) a = some o := fun u hu hu1 => by
      refine ⟨_, hy3, by rw [List.length_map, yl, sizeLine_eq]; omega, ys ++ [u], by rw [upd_same, List.map_append]; rfl, ?_, by rw [List.length_append, yl]; rfl, ?_, ?_, fun a o ha hd e => upd_far hd (b3.keep a o ha (upd_old hq (kp a o ha hd e)))⟩
      · rw [List.flatten_append, htake]
        exact sub.append (by simpa using hu)
      · rw [List.map_append, List.sum_append]
        show _ + (u.length + 0) ≤ _
        omega
      · exact (b3.cell _ (bi.same (same_upd hq))).far nDb nDc
    have hr : r = 0 ∨ r = 1 := by omega
    rcases hr with rfl | rfl
    · refine s_ixL hq3 rfl ?_
      exact fin [] (List.nil_sublist _) (by decide)
    · refine s_ixL hq3 rfl ?_
      exact fin [c] (List.Sublist.refl _) (Nat.le_refl _)
  · rintro Hi ⟨ys, hy, sub, yl, ysum, bi, kp⟩
    have hlen : (S ls).cps.size = ls.length := rfl
    rw [hlen] at sub yl ysum
    rw [List.take_length] at sub
    walk_at "zs"
    refine ⟨ys, Or.inl (sq_of hy), by show _ + _ * 0 ≤ _; omega, ?_⟩
    rw [glue_nil]
    refine k _ _ sub ⟨fun a o ha e => kp a o ha (ne_of_none e hD) e, ⟨cc, bi⟩, fun c0 z => ?_⟩
    obtain rfl : c0 = cc := by
      obtain ⟨_, _, _, _, g1, _⟩ := z
      obtain ⟨_, _, _, _, g2, _⟩ := bc
      rw [g1] at g2
      have z := (List.cons.inj (HO.lst.inj (Option.some.inj g2))).1
      cases z
      rfl
    exact bi
end Cl
namespace Cl
open PySem PySem.Spec PyProof.Rows L2 He ClX
open C8 (tCut pss_cut)
local macro_rules | `(tactic| walk_at "zs") => `(tactic| repeat (first
  | with_reducible refine s_seq ?_
  | with_reducible refine s_asg ?_
  | with_reducible refine s_if ?_
  | with_reducible refine s_var (by with_unfolding_all exact rfl) ?_
  | with_reducible refine s_c ?_
  | with_reducible refine s_op ?_
  | with_reducible refine s_cons ?_
  | with_reducible refine s_nil ?_
  | with_reducible refine s_cb ?_
  | with_reducible refine s_call ?_
  | with_reducible refine s_ret ?_
  | with_reducible refine s_test ?_
  | with_reducible refine s_bl ?_
  | with_reducible refine s_not ?_
  | with_reducible refine s_name ?_
  | with_reducible refine s_sub ?_
  | with_reducible refine s_sl ?_
  | with_reducible refine s_part ?_
  | with_reducible refine s_nopart ?_
  | with_reducible refine s_int ?_
  | with_reducible refine s_drop ?_
  | with_reducible refine s_lst ?_
  | with_reducible refine s_tup ?_
  | with_reducible refine s_bm ?_
  | with_reducible refine s_next ?_
  | with_reducible refine s_xfv ?_
  | with_reducible refine s_tru ?_
  | with_reducible refine s_yes ?_
  | with_reducible refine s_isnotNN ?_
  | with_reducible refine s_isNN ?_
  | with_reducible refine s_isBB ?_
  | with_reducible refine s_isnotBB ?_
  | with_reducible refine s_makeS ?_
  | with_reducible refine s_make ?_
  | with_reducible refine s_in ?_
  | with_reducible refine s_notin ?_
  | with_reducible refine s_chain ?_
  | with_reducible refine s_sfld ?_
  | with_reducible refine s_fld ?_
  | with_reducible refine s_cval ?_
  | with_reducible refine s_andV ?_
  | with_reducible refine s_orV ?_
  | with_reducible refine s_notV ?_
  | with_reducible refine s_truB ?_
  | with_reducible refine s_revT ?_
  | with_reducible refine iteT ?_
  | with_reducible refine iteF ?_
  | with_reducible refine s_or ?_
  | with_reducible refine s_and ?_
  | with_reducible refine s_addI ?_
  | with_reducible refine s_subI ?_
  | with_reducible refine s_ltI ?_
  | with_reducible refine s_leI ?_
  | with_reducible refine s_gtI ?_
  | with_reducible refine s_geI ?_
  | with_reducible refine s_intc ?_
  | with_reducible refine s_eq (by with_unfolding_all exact rfl) ?_
  | with_reducible refine s_ne (by with_unfolding_all exact rfl) ?_
  | with_reducible refine s_ife ?_
  | with_reducible refine s_un ?_
  | with_reducible refine s_neg ?_
  | with_reducible refine s_bool ?_
  | with_reducible refine s_meth ?_
  | with_reducible refine s_con ?_
  | with_reducible refine s_disp ?_
  | with_reducible refine s_pair ?_
  | with_reducible refine s_pnil ?_
  | with_reducible refine s_dget2 ?_))
variable {K : PySem.W.Frag} {mg : Str → Option Value} {P : Program} {w : World}
theorem bag_uniq {H : Hp} {b c d : Addr} (z : BagC H b c) (z2 : BagC H b d) : c = d := by
  obtain ⟨_, _, _, _, g1, _⟩ := z
  obtain ⟨_, _, _, _, g2, _⟩ := z2
  rw [g1] at g2
  have z := (List.cons.inj (HO.lst.inj (Option.some.inj g2))).1
  cases z
  rfl
/-- [["", sign][take(bag, 2)] for sign in text] -/
theorem lc_draw {z : List Nat} {i : Nat} {σ : L2.St} {H : Hp} {D b : Addr} {Qd : Hp → Prop} (hi : i < σ.length) (h0 : σ[0]? = some (some (.ref b))) (hi0 : i ≠ 0) (bag : Bag H b) (hD : H D = none) (hz : z.length ≤ 1000)
    (hd : ∀ Hn (ys : List (List Nat)), Hn D = some (.lst (ys.map sv)) → ys.flatten.Sublist z → (ys.map List.length).sum ≤ z.length → Bst b H Hn → Qd Hn) :
    ∃ W : Nat → Nat → Hp → Prop, (∃ m, W 0 m (upd H D (.lst []))) ∧ ∀ j m H, W j m H →
      ((Its (S z)).stop j H ∧ Qd H) ∨ ((Its (S z)).go j H ∧ ∃ Nx : Hp → Prop, (∀ H', Nx H' → ∃ m', m' < m ∧ W (j + 1) m' H') ∧ ∀ x H', (Its (S z)).yld j H x H' → gName i x (wipe σ [i]) H' fun σ2 H2 => wipe σ2 [i] = wipe σ [i] ∧ tYes σ2 H2 fun b H3 =>
        if b = true then tOp (zIx K) (tLst (tCons (tC (sv [])) (tCons (tVar i) tNil))) (tCall (sp_l_take K) [] E0 (tCons (tVar 0) (tCons (tC (.int 2)) tNil))) σ2 H3 fun y H4 => ∃ acc, H4 D = some (.lst acc) ∧ acc.length < sizeLine ∧ Nx (upd H4 D (.lst (acc ++ [y]))) else Nx H3) := by
  obtain ⟨cc, bc⟩ := id bag
  obtain ⟨nDb, nDc⟩ := bc.ne hD
  refine lc_it walk_str (fun j Hi => ∃ ys : List (List Nat), Hi D = some (.lst (ys.map sv)) ∧ ys.flatten.Sublist (z.take j) ∧ ys.length = j ∧ (ys.map List.length).sum ≤ j ∧ BagC Hi b cc ∧ ∀ a o, a ≠ b → a ≠ D → H a = some o → Hi a = some o)
    ⟨[], upd_same, List.Sublist.refl _, rfl, Nat.le_refl _, ?_, fun a o ha hd e => upd_far hd e⟩ (fun _ _ _ _ => trivial) ?_ ?_
  · exact bc.same (same_upd hD)
  · rintro j x Hi Hi' hj ⟨ys, hy, sub, yl, ysum, bi, kp⟩ ⟨rfl, c, hc, rfl⟩
    have hlc : z[j]? = some c := by simpa using hc
    have il : j < z.length := (List.getElem?_eq_some_iff.mp hlc).1
    have htake : z.take (j + 1) = z.take j ++ [c] := by
      rw [List.take_succ, hlc]
      rfl
    have v0 : ((σ.set i none).set i (some (sv [c])))[0]? = some (some (.ref b)) := by rw [List.getElem?_set_ne hi0, List.getElem?_set_ne hi0]; exact h0
    have vi : ((σ.set i none).set i (some (sv [c])))[i]? = some (some (sv [c])) := by rw [List.getElem?_set_self (by rw [List.length_set]; exact hi)]
    refine ⟨?_, ?_⟩
    · show (((σ.set i none).set i (some (sv [c]))).set i none) = σ.set i none
      rw [List.set_set, List.set_set]
    walk_at "zs"
    refine s_var vi ?_
    walk_at "zs"
    refine ⟨by show 2 ≤ sizeLine; decide, fun q hq => ?_⟩
    have nqb : q ≠ b := (bi.ne hq).1
    have nqD : q ≠ D := (ne_of_none hy hq).symm
    walk_at "zs"
    refine s_var v0 ?_
    walk_at "zs"
    refine ⟨b, _, rfl, ⟨cc, bi.same (same_upd hq)⟩, by decide, by decide, fun r H3 r0 r1 b3 => ?_⟩
    have hq3 := b3.keep q _ nqb upd_same
    have hy3 := b3.keep D _ nDb (upd_old hq hy)
    have fin : ∀ u : List Nat, u.Sublist [c] → u.length ≤ 1 → ∃ acc, H3 D = some (.lst acc) ∧ acc.length < sizeLine ∧ ∃ ys : List (List Nat), upd H3 D (.lst (acc ++ [sv u])) D = some (.lst (ys.map sv)) ∧ ys.flatten.Sublist (z.take (j + 1)) ∧ ys.length = j + 1 ∧ (ys.map List.length).sum ≤ j + 1 ∧ BagC (upd H3 D (.lst (acc ++ [sv u]))) b cc ∧
        ∀ a o, a ≠ b → a ≠ D → H a = some o → upd H3 D (.lst (acc ++ [sv u])) a = some o := fun u hu hu1 => by
      refine ⟨_, hy3, by rw [List.length_map, yl, sizeLine_eq]; omega, ys ++ [u], by rw [upd_same, List.map_append]; rfl, ?_, by rw [List.length_append, yl]; rfl, ?_, ?_, fun a o ha hd e => upd_far hd (b3.keep a o ha (upd_old hq (kp a o ha hd e)))⟩
      · rw [List.flatten_append, htake]
        exact sub.append (by simpa using hu)
      · rw [List.map_append, List.sum_append]
        show _ + (u.length + 0) ≤ _
        omega
      · exact (b3.cell _ (bi.same (same_upd hq))).far nDb nDc
    have hr : r = 0 ∨ r = 1 := by omega
    rcases hr with rfl | rfl
    · refine s_ixL hq3 rfl ?_
      exact fin [] (List.nil_sublist _) (by decide)
    · refine s_ixL hq3 rfl ?_
      exact fin [c] (List.Sublist.refl _) (Nat.le_refl _)
  · rintro Hi ⟨ys, hy, sub, yl, ysum, bi, kp⟩
    have hlen : (S z).cps.size = z.length := rfl
    rw [hlen] at sub yl ysum
    rw [List.take_length] at sub
    refine hd Hi ys hy sub ysum ⟨fun a o ha e => kp a o ha (ne_of_none e hD) e, ⟨cc, bi⟩, fun c0 z => ?_⟩
    rw [bag_uniq z bc]
    exact bi
/-! ### sorted(set(text)) -/
theorem set_codes {l : List Str} {z : List Nat} (nd : l.Nodup) (m : ∀ x, x ∈ l ↔ ∃ c ∈ z, x = S [c]) : ∃ u : List Nat, l = u.map (fun c => S [c]) ∧ u.Nodup ∧ ∀ c, c ∈ u ↔ c ∈ z := by
  have key : ∀ l : List Str, (∀ x ∈ l, ∃ c ∈ z, x = S [c]) → ∃ u : List Nat, l = u.map (fun c => S [c]) := by
    intro l
    induction l with
    | nil => exact fun _ => ⟨[], rfl⟩
    | cons x l ih =>
      intro h
      obtain ⟨c, _, rfl⟩ := h x (by simp)
      obtain ⟨u, rfl⟩ := ih fun y hy => h y (by simp [hy])
      exact ⟨c :: u, rfl⟩
  obtain ⟨u, rfl⟩ := key l fun x hx => (m x).mp hx
  refine ⟨u, rfl, sing_nodup.mp nd, fun c => ⟨fun h => ?_, fun h => ?_⟩⟩
  · obtain ⟨d, hd, e⟩ := (m (S [c])).mp (List.mem_map.mpr ⟨c, h, rfl⟩)
    have : c = d := by simpa using e
    rw [this]
    exact hd
  · obtain ⟨d, hd, e⟩ := List.mem_map.mp ((m (S [c])).mpr ⟨c, h, rfl⟩)
    have : d = c := by simpa using e
    rw [← this]
    exact hd
theorem asc_eq : ∀ {u z : List Nat}, u.Pairwise (· < ·) → z.Pairwise (· < ·) → (∀ c, c ∈ u ↔ c ∈ z) → u = z := by
  intro u z hu hz m
  have nu : u.Nodup := nd_of_lt hu
  have nz : z.Nodup := nd_of_lt hz
  have p : u.Perm z := (List.perm_ext_iff_of_nodup nu nz).mpr m
  exact List.Perm.eq_of_pairwise (fun a b _ _ h1 h2 => absurd h1 (by omega)) hu hz p
theorem srt_asc {u z : List Nat} (nu : u.Nodup) (m : ∀ c, c ∈ u ↔ c ∈ z) : srt u = z ↔ z.Pairwise (· < ·) :=
  ⟨fun h => h ▸ srt_lt nu, fun h => asc_eq (srt_lt nu) h fun c => mem_srt.trans (m c)⟩
theorem isW_iff {ls z : List Nat} : isW ls z = true ↔ ∀ c ∈ z, c ∈ 45 :: ls := by
  unfold isW
  simp only [List.all_eq_true, decide_eq_true_eq]
theorem pure_Alphabet_eq (T : Facts K mg) (vs : List V) (H : Hp) (Q : VK) (E : XK) (h : sp_Alphabet_eq K vs H Q E) : t_Alphabet_eq P w K { nx := fun _ H' => Q .non H', rt := Q } (start N_Alphabet_eq vs) H := by
  obtain ⟨a, b, ls, vw, ls', vw', rfl, ⟨dx, ha⟩, ⟨dy, hb⟩, k⟩ := h
  show t_Alphabet_eq P w K _ [some (.ref a), some (.ref b)] H
  unfold t_Alphabet_eq
  walk_at "zs"
  refine s_isiI hb T.c_Alphabet T.ic_Alphabet (.own _) T.kt_Alphabet_Alphabet ?_
  walk_at "zs"
  refine ⟨a, _, dx, _, _, rfl, ha, T.c_Alphabet, T.no_Alphabet_letters, af_letters, ?_⟩
  walk_at "zs"
  refine ⟨b, _, dy, _, _, rfl, hb, T.c_Alphabet, T.no_Alphabet_letters, af_letters, ?_⟩
  walk_at "zs"
  by_cases h1 : ls = ls'
  · rw [decide_eq_true h1] at k ⊢
    walk_at "zs"
    refine ⟨a, _, dx, _, _, rfl, ha, T.c_Alphabet, T.no_Alphabet_vowels, af_vowels, ?_⟩
    walk_at "zs"
    refine ⟨b, _, dy, _, _, rfl, hb, T.c_Alphabet, T.no_Alphabet_vowels, af_vowels, ?_⟩
    walk_at "zs"
    exact k
  · rw [decide_eq_false h1] at k ⊢
    walk_at "zs"
    exact k
theorem pure_Alphabet_is_word (T : Facts K mg) (vs : List V) (H : Hp) (Q : VK) (E : XK) (h : sp_Alphabet_is_word K vs H Q E) : t_Alphabet_is_word P w K { nx := fun _ H' => Q .non H', rt := Q } (start N_Alphabet_is_word vs) H := by
  obtain ⟨a, ls, vw, z, rfl, ⟨dx, ha⟩, hz, k⟩ := h
  show t_Alphabet_is_word P w K _ [some (.ref a), some (sv z), none] H
  unfold t_Alphabet_is_word
  walk_at "zs"
  refine ⟨_, rfl, S z, rfl, ?_⟩
  refine for_it walk_str (fun j σ Hj => Hj = H ∧ ∃ v, σ = [some (.ref a), some (sv z), v] ∧ ∀ c ∈ z.take j, c ∈ 45 :: ls) ⟨rfl, none, rfl, by simp⟩ (fun _ _ _ _ _ => trivial) ?_ ?_
  · rintro j x σ Hj Hj' hj ⟨rfl, v, rfl, hw⟩ ⟨rfl, c, hc, rfl⟩
    have hzc : z[j]? = some c := by simpa using hc
    have hmem : c ∈ z := List.mem_of_getElem? hzc
    have htake : z.take (j + 1) = z.take j ++ [c] := by
      rw [List.take_succ, hzc]
      rfl
    walk_at "zs"
    refine ⟨a, _, dx, _, _, rfl, ha, T.c_Alphabet, T.no_Alphabet_signs, af_signs, ?_⟩
    walk_at "zs"
    refine ite2 (fun h => ?_) (fun h => ?_)
    · have h' : ¬ c ∈ 45 :: ls := by simpa using h
      walk_at "zs"
      have e : isW ls z = false := by
        cases q : isW ls z with
        | false => rfl
        | true => exact absurd (isW_iff.mp q c hmem) h'
      rw [e] at k
      exact k
    · have h' : c ∈ 45 :: ls := Decidable.byContradiction fun q => h (by rw [decide_eq_false q]; rfl)
      walk_at "zs"
      refine ⟨rfl, _, rfl, fun d hd => ?_⟩
      rw [htake] at hd
      rcases List.mem_append.mp hd with hd | hd
      · exact hw d hd
      · rw [List.mem_singleton.mp hd]
        exact h'
  · rintro σ Hj ⟨rfl, v, rfl, hw⟩
    have : z.take (S z).cps.size = z := List.take_length
    rw [this] at hw
    walk_at "zs"
    have e : isW ls z = true := isW_iff.mpr hw
    rw [e] at k
    exact k
end Cl
namespace Cl
open PySem PySem.Spec PyProof.Rows L2 He ClX
open C8 (tCut pss_cut)
local macro_rules | `(tactic| walk_at "zs") => `(tactic| repeat (first
  | with_reducible refine s_seq ?_
  | with_reducible refine s_asg ?_
  | with_reducible refine s_if ?_
  | with_reducible refine s_var (by with_unfolding_all exact rfl) ?_
  | with_reducible refine s_c ?_
  | with_reducible refine s_op ?_
  | with_reducible refine s_cons ?_
  | with_reducible refine s_nil ?_
  | with_reducible refine s_cb ?_
  | with_reducible refine s_call ?_
  | with_reducible refine s_ret ?_
  | with_reducible refine s_test ?_
  | with_reducible refine s_bl ?_
  | with_reducible refine s_not ?_
  | with_reducible refine s_name ?_
  | with_reducible refine s_sub ?_
  | with_reducible refine s_sl ?_
  | with_reducible refine s_part ?_
  | with_reducible refine s_nopart ?_
  | with_reducible refine s_int ?_
  | with_reducible refine s_drop ?_
  | with_reducible refine s_lst ?_
  | with_reducible refine s_tup ?_
  | with_reducible refine s_bm ?_
  | with_reducible refine s_next ?_
  | with_reducible refine s_xfv ?_
  | with_reducible refine s_tru ?_
  | with_reducible refine s_yes ?_
  | with_reducible refine s_isnotNN ?_
  | with_reducible refine s_isNN ?_
  | with_reducible refine s_isBB ?_
  | with_reducible refine s_isnotBB ?_
  | with_reducible refine s_makeS ?_
  | with_reducible refine s_make ?_
  | with_reducible refine s_in ?_
  | with_reducible refine s_notin ?_
  | with_reducible refine s_chain ?_
  | with_reducible refine s_sfld ?_
  | with_reducible refine s_fld ?_
  | with_reducible refine s_cval ?_
  | with_reducible refine s_andV ?_
  | with_reducible refine s_orV ?_
  | with_reducible refine s_notV ?_
  | with_reducible refine s_truB ?_
  | with_reducible refine s_revT ?_
  | with_reducible refine iteT ?_
  | with_reducible refine iteF ?_
  | with_reducible refine s_or ?_
  | with_reducible refine s_and ?_
  | with_reducible refine s_addI ?_
  | with_reducible refine s_subI ?_
  | with_reducible refine s_ltI ?_
  | with_reducible refine s_leI ?_
  | with_reducible refine s_gtI ?_
  | with_reducible refine s_geI ?_
  | with_reducible refine s_intc ?_
  | with_reducible refine s_eq (by with_unfolding_all exact rfl) ?_
  | with_reducible refine s_ne (by with_unfolding_all exact rfl) ?_
  | with_reducible refine s_ife ?_
  | with_reducible refine s_un ?_
  | with_reducible refine s_neg ?_
  | with_reducible refine s_bool ?_
  | with_reducible refine s_meth ?_
  | with_reducible refine s_con ?_
  | with_reducible refine s_disp ?_
  | with_reducible refine s_pair ?_
  | with_reducible refine s_pnil ?_
  | with_reducible refine s_dget2 ?_))
variable {K : PySem.W.Frag} {mg : Str → Option Value} {P : Program} {w : World}
theorem atI_some {z : List Nat} {i : Int} (h : -(z.length : Int) ≤ i) (h2 : i < z.length) : ∃ c, atI z i = some c := by
  unfold atI ixN
  by_cases h0 : 0 ≤ i
  · rw [if_pos h0, if_pos h2]
    exact ⟨_, List.getElem?_eq_getElem (by omega)⟩
  · rw [if_neg h0, if_pos (by omega)]
    exact ⟨_, List.getElem?_eq_getElem (by omega)⟩
theorem pure_Alphabet_listed_members (T : Facts K mg) (vs : List V) (H : Hp) (Q : VK) (E : XK) (h : sp_Alphabet_listed_members K vs H Q E) : t_Alphabet_listed_members P w K E { nx := fun _ H' => Q .non H', rt := Q } (start N_Alphabet_listed_members vs) H := by
  obtain ⟨a, ls, vw, z, rfl, al, hz, kQ, kE⟩ := h
  show t_Alphabet_listed_members P w K E _ [some (.ref a), some (sv z), none] H
  unfold t_Alphabet_listed_members
  have raise : ∀ (H1 : Hp) (D : Ends) (σ : L2.St), Same H H1 → ¬ okS ls z → tRaiseE E (ga K "BadStage") (sp_BadStage_init K) (tCons (tC (sv txS)) tNil) D σ H1 := fun H1 D σ s no =>
    s_raise1 fun d hd => kE no _ _ _ ⟨rfl, d, rfl, s.free hd, s.trans (same_upd hd), upd_same⟩
  walk_at "zs"
  refine ⟨sz1000 (by omega), ?_⟩
  have il : (inner z).length ≤ 60 := Nat.le_trans (cut_sub z _ _).length_le hz
  have ei : cut z (some 1) (some (-1)) = inner z := rfl
  rw [ei]
  walk_at "zs"
  refine s_lenTS (sz1000 (by omega)) ?_
  walk_at "zs"
  refine ite2 (fun h => ?_) (fun h => ?_)
  · refine iteT (raise _ _ _ (fun _ _ e => e) fun o => ?_)
    have := o.1
    have := of_decide_eq_true h
    omega
  have h3 : 3 ≤ z.length := by
    have : ¬ ((z.length : Int) < 3) := fun q => h (decide_eq_true q)
    omega
  obtain ⟨c, hc⟩ := atI_some (z := z) (i := 0) (by omega) (by omega)
  obtain ⟨d, hd⟩ := atI_some (z := z) (i := -1) (by omega) (by omega)
  walk_at "zs"
  refine ⟨c, sz1000 (by omega), hc, ?_⟩
  walk_at "zs"
  refine ite2 (fun h => ?_) (fun h => ?_)
  · refine iteT (raise _ _ _ (fun _ _ e => e) fun o => ?_)
    have e := o.2.1
    rw [hc] at e
    cases e
    exact absurd h (by decide)
  have c91 : c = 91 := by
    refine Decidable.byContradiction fun q => h ?_
    have : ¬ ([c] = [91]) := fun e => q (by simpa using e)
    rw [decide_eq_false this]
    rfl
  subst c91
  walk_at "zs"
  refine ⟨d, sz1000 (by omega), hd, ?_⟩
  walk_at "zs"
  refine ite2 (fun h => ?_) (fun h => ?_)
  · refine raise _ _ _ (fun _ _ e => e) fun o => ?_
    have e := o.2.2.1
    rw [hd] at e
    cases e
    exact absurd h (by decide)
  have c93 : d = 93 := by
    refine Decidable.byContradiction fun q => h ?_
    have : ¬ ([d] = [93]) := fun e => q (by simpa using e)
    rw [decide_eq_false this]
    rfl
  subst c93
  walk_at "zs"
  obtain ⟨dx, ha⟩ := id al
  refine ⟨a, dx, _, rfl, ha, af_no (by decide +kernel) (by decide +kernel) (by decide +kernel) (by decide +kernel), ?_⟩
  walk_at "zs"
  refine ⟨a, ls, vw, inner z, rfl, al, by omega, ?_⟩
  walk_at "zs"
  by_cases hw : isW ls (inner z) = true
  case neg =>
    rw [show isW ls (inner z) = false by simpa using hw]
    refine iteT (iteT (raise _ _ _ (fun _ _ e => e) fun o => hw o.2.2.2.1))
  rw [hw]
  refine iteF ?_
  walk_at "zs"
  refine ⟨rfl, ?_⟩
  walk_at "zs"
  refine ⟨by omega, fun p l hp nd m hl => ?_⟩
  obtain ⟨u, rfl, nu, mu⟩ := set_codes nd m
  rw [List.length_map] at hl
  walk_at "zs"
  refine Or.inr ⟨p, _, rfl, upd_same, by rw [List.length_map]; omega, nd, fun zs q pz sz hq => ?_⟩
  rw [sorted_signs pz sz]
  have ss : Same H (upd (upd H p (TxS P w p (u.map fun c => S [c]))) q (.lst (sgs (srt u)))) := (same_upd hp).trans (same_upd hq)
  walk_at "zs"
  refine s_joinS upd_same (by rw [srt_len]; omega) ?_
  walk_at "zs"
  by_cases hs : srt u = inner z
  · rw [decide_eq_true hs]
    refine iteF ?_
    walk_at "zs"
    exact kQ ⟨h3, hc, hd, hw, (srt_asc nu mu).mp hs⟩ _ ss
  · rw [decide_eq_false hs]
    refine iteT (raise _ _ _ ss fun o => hs ((srt_asc nu mu).mpr o.2.2.2.2))
theorem pure_Alphabet_members (T : Facts K mg) (vs : List V) (H : Hp) (Q : VK) (E : XK) (h : sp_Alphabet_members K vs H Q E) : t_Alphabet_members P w K E { nx := fun _ H' => Q .non H', rt := Q } (start N_Alphabet_members vs) H := by
  obtain ⟨a, ls, vw, z, rfl, al, hz, kQ, kE⟩ := h
  show t_Alphabet_members P w K E _ [some (.ref a), some (sv z)] H
  unfold t_Alphabet_members
  obtain ⟨dx, ha⟩ := id al
  have rf : Same H H := fun _ _ e => e
  unfold okN mem at kQ
  walk_at "zs"
  refine ite2 (fun h => ?_) (fun h => ?_)
  · have h' := of_decide_eq_true h
    walk_at "zs"
    refine ⟨a, _, dx, _, _, rfl, ha, T.c_Alphabet, T.no_Alphabet_signs, af_signs, ?_⟩
    have := kQ (Or.inl h') _ rf
    rw [if_pos h'] at this
    exact this
  have h1 : ¬ z = txA := fun q => h (decide_eq_true q)
  walk_at "zs"
  refine ite2 (fun h => ?_) (fun h => ?_)
  · have h' := of_decide_eq_true h
    walk_at "zs"
    refine ⟨a, _, dx, _, _, rfl, ha, T.c_Alphabet, T.no_Alphabet_letters, af_letters, ?_⟩
    have := kQ (Or.inr (Or.inl h')) _ rf
    rw [if_neg h1, if_pos h'] at this
    exact this
  have h2 : ¬ z = txL := fun q => h (decide_eq_true q)
  walk_at "zs"
  refine ite2 (fun h => ?_) (fun h => ?_)
  · have h' := of_decide_eq_true h
    walk_at "zs"
    refine ⟨a, _, dx, _, _, rfl, ha, T.c_Alphabet, T.no_Alphabet_vowels, af_vowels, ?_⟩
    have := kQ (Or.inr (Or.inr (Or.inl h'))) _ rf
    rw [if_neg h1, if_neg h2, if_pos h'] at this
    exact this
  have h3 : ¬ z = txV := fun q => h (decide_eq_true q)
  walk_at "zs"
  refine ite2 (fun h => ?_) (fun h => ?_)
  · have h' := of_decide_eq_true h
    walk_at "zs"
    refine ⟨a, _, dx, _, _, rfl, ha, T.c_Alphabet, T.no_Alphabet_consonants, af_cons, ?_⟩
    have := kQ (Or.inr (Or.inr (Or.inr (Or.inl h')))) _ rf
    rw [if_neg h1, if_neg h2, if_neg h3, if_pos h'] at this
    exact this
  have h4 : ¬ z = txC := fun q => h (decide_eq_true q)
  walk_at "zs"
  refine ite2 (fun h => ?_) (fun h => ?_)
  · have h' := of_decide_eq_true h
    walk_at "zs"
    obtain ⟨uJ, hJ⟩ := T.cv_Alphabet_JOINT
    refine ⟨_, _, _, uJ, rfl, T.cr_Alphabet, hJ, ?_⟩
    have := kQ (Or.inr (Or.inr (Or.inr (Or.inr (Or.inl h'))))) _ rf
    rw [if_neg h1, if_neg h2, if_neg h3, if_neg h4, if_pos h'] at this
    exact this
  have h5 : ¬ z = txJ := fun q => h (decide_eq_true q)
  walk_at "zs"
  refine ⟨a, dx, _, rfl, ha, af_no (by decide +kernel) (by decide +kernel) (by decide +kernel) (by decide +kernel), ?_⟩
  walk_at "zs"
  refine ⟨a, ls, vw, z, rfl, al, hz, fun o H' s => ?_, fun no => kE ?_⟩
  · have := kQ (Or.inr (Or.inr (Or.inr (Or.inr (Or.inr o))))) _ s
    rw [if_neg h1, if_neg h2, if_neg h3, if_neg h4, if_neg h5] at this
    exact this
  · rintro (o | o | o | o | o | o)
    · exact h1 o
    · exact h2 o
    · exact h3 o
    · exact h4 o
    · exact h5 o
    · exact no o
end Cl
namespace Cl
open PySem PySem.Spec PyProof.Rows L2 He ClX
open C8 (tCut pss_cut)
local macro_rules | `(tactic| walk_at "zs") => `(tactic| repeat (first
  | with_reducible refine s_seq ?_
  | with_reducible refine s_asg ?_
  | with_reducible refine s_if ?_
  | with_reducible refine s_var (by with_unfolding_all exact rfl) ?_
  | with_reducible refine s_c ?_
  | with_reducible refine s_op ?_
  | with_reducible refine s_cons ?_
  | with_reducible refine s_nil ?_
  | with_reducible refine s_cb ?_
  | with_reducible refine s_call ?_
  | with_reducible refine s_ret ?_
  | with_reducible refine s_test ?_
  | with_reducible refine s_bl ?_
  | with_reducible refine s_not ?_
  | with_reducible refine s_name ?_
  | with_reducible refine s_sub ?_
  | with_reducible refine s_sl ?_
  | with_reducible refine s_part ?_
  | with_reducible refine s_nopart ?_
  | with_reducible refine s_int ?_
  | with_reducible refine s_drop ?_
  | with_reducible refine s_lst ?_
  | with_reducible refine s_tup ?_
  | with_reducible refine s_bm ?_
  | with_reducible refine s_next ?_
  | with_reducible refine s_xfv ?_
  | with_reducible refine s_tru ?_
  | with_reducible refine s_yes ?_
  | with_reducible refine s_isnotNN ?_
  | with_reducible refine s_isNN ?_
  | with_reducible refine s_isBB ?_
  | with_reducible refine s_isnotBB ?_
  | with_reducible refine s_makeS ?_
  | with_reducible refine s_make ?_
  | with_reducible refine s_in ?_
  | with_reducible refine s_notin ?_
  | with_reducible refine s_chain ?_
  | with_reducible refine s_sfld ?_
  | with_reducible refine s_fld ?_
  | with_reducible refine s_cval ?_
  | with_reducible refine s_andV ?_
  | with_reducible refine s_orV ?_
  | with_reducible refine s_notV ?_
  | with_reducible refine s_truB ?_
  | with_reducible refine s_revT ?_
  | with_reducible refine iteT ?_
  | with_reducible refine iteF ?_
  | with_reducible refine s_or ?_
  | with_reducible refine s_and ?_
  | with_reducible refine s_addI ?_
  | with_reducible refine s_subI ?_
  | with_reducible refine s_ltI ?_
  | with_reducible refine s_leI ?_
  | with_reducible refine s_gtI ?_
  | with_reducible refine s_geI ?_
  | with_reducible refine s_intc ?_
  | with_reducible refine s_eq (by with_unfolding_all exact rfl) ?_
  | with_reducible refine s_ne (by with_unfolding_all exact rfl) ?_
  | with_reducible refine s_ife ?_
  | with_reducible refine s_un ?_
  | with_reducible refine s_neg ?_
  | with_reducible refine s_bool ?_
  | with_reducible refine s_meth ?_
  | with_reducible refine s_con ?_
  | with_reducible refine s_disp ?_
  | with_reducible refine s_pair ?_
  | with_reducible refine s_pnil ?_
  | with_reducible refine s_dget2 ?_))
variable {K : PySem.W.Frag} {mg : Str → Option Value} {P : Program} {w : World}
theorem sIx_m1 (n d : Nat) : HT.sIx n d (some (-1)) = ((-1 : Int) + (n : Int)).toNat := rfl
theorem inner_mk (ld : List Nat) : inner (91 :: ld ++ [93]) = ld := by
  unfold inner cut
  have hl : (91 :: ld ++ [93]).length = ld.length + 2 := by simp
  have e1 : HT.sIx (91 :: ld ++ [93]).length 0 (some 1) = 1 := by
    show HT.sIx _ _ (some ((1 : Nat) : Int)) = 1
    rw [HT.sIx_nat, hl]
    omega
  have e2 : HT.sIx (91 :: ld ++ [93]).length (91 :: ld ++ [93]).length (some (-1)) = ld.length + 1 := by
    rw [sIx_m1, hl]
    omega
  rw [e1, e2]
  show (ld ++ [93]).take (ld.length + 1 - 1) = ld
  rw [Nat.add_sub_cancel, List.take_left']
  rfl
theorem asc_signs {ls : List Nat} (asc : ls.Pairwise (· < ·)) (sm : ∀ c ∈ ls, c ∈ small) : (45 :: ls).Pairwise (· < ·) := by
  refine List.pairwise_cons.mpr ⟨fun c hc => ?_, asc⟩
  have h : ∀ c ∈ small, 45 < c := by decide
  exact h c (sm c hc)
theorem okS_mk {ls ld : List Nat} (h : ld.Sublist (45 :: ls)) (ne : ld ≠ []) (asc : ls.Pairwise (· < ·)) (sm : ∀ c ∈ ls, c ∈ small) : okS ls (91 :: ld ++ [93]) := by
  refine ⟨?_, atI_nat (j := 0) rfl, atI_last (91 :: ld) 93, ?_, ?_⟩
  · have := List.length_pos_iff.mpr ne
    simp
    omega
  · rw [inner_mk]
    exact isW_iff.mpr fun c hc => h.subset hc
  · rw [inner_mk]
    exact (asc_signs asc sm).sublist h
theorem key_iff (z t : List Nat) : ((Sum.inr (S z) : Key) = Sum.inr (S t)) ↔ z = t := by
  constructor
  · intro h
    have := Sum.inr.inj h
    simpa using this
  · rintro rfl
    rfl
theorem mem_dict (ls vw z : List Nat) : (valV (mergeK [] [((Sum.inr (S txA) : Key), sv (45 :: ls)), (Sum.inr (S txL), sv ls), (Sum.inr (S txV), sv vw), (Sum.inr (S txC), sv (cons ls vw)), (Sum.inr (S txJ), sv [45])]) (Sum.inr (S z))).getD (sv (inner z)) = sv (mem ls vw z) := by
  show (valV (putK (putK (putK (putK (putK [] (Sum.inr (S txA) : Key) (sv (45 :: ls))) (Sum.inr (S txL)) (sv ls)) (Sum.inr (S txV)) (sv vw)) (Sum.inr (S txC)) (sv (cons ls vw))) (Sum.inr (S txJ)) (sv [45])) (Sum.inr (S z))).getD (sv (inner z)) = sv (mem ls vw z)
  rw [valV_put, valV_put, valV_put, valV_put, valV_put, valV_nil]
  simp only [key_iff]
  unfold mem
  by_cases h1 : z = txA
  · subst h1
    simp
  by_cases h2 : z = txL
  · subst h2
    simp
  by_cases h3 : z = txV
  · subst h3
    simp
  by_cases h4 : z = txC
  · subst h4
    simp
  by_cases h5 : z = txJ
  · subst h5
    simp
  rw [if_neg h1, if_neg h2, if_neg h3, if_neg h4, if_neg h5, if_neg h1, if_neg h2, if_neg h3, if_neg h4, if_neg h5]
  rfl
theorem cons_len (ls vw : List Nat) : (cons ls vw).length ≤ ls.length := List.length_filter_le _ _
theorem pure_l_members (T : Facts K mg) (vs : List V) (H : Hp) (Q : VK) (E : XK) (h : sp_l_members K vs H Q E) : t_l_members P w K { nx := fun _ H' => Q .non H', rt := Q } (start N_l_members vs) H := by
  obtain ⟨ls, vw, z, rfl, h1, h2, k⟩ := h
  show t_l_members P w K _ [some (sv ls), some (sv vw), some (sv z), none, none, none] H
  unfold t_l_members
  walk_at "zs"
  refine ⟨rfl, ?_⟩
  walk_at "zs"
  refine ⟨_, rfl, S ls, rfl, fun D hD => ?_⟩
  refine lc_txt (fun c => !decide (c ∈ vw)) (by omega) (by show 4 < 6; decide) (fun c H3 QB hc kb q => ?_) fun H1 kb kD => ?_
  · walk_at "zs"
    exact q
  have s1 : Same H H1 := kb.same hD
  walk_at "zs"
  have cl := cons_len ls vw
  refine s_joinS (z := cons ls vw) kD (by omega) ?_
  walk_at "zs"
  intro p hp
  walk_at "zs"
  refine s_addS (sz1000 (by show 1 + _ ≤ _; omega)) ?_
  walk_at "zs"
  refine ⟨upd_same, [(Sum.inr (S txA), sv (45 :: ls)), (Sum.inr (S txL), sv ls), (Sum.inr (S txV), sv vw), (Sum.inr (S txC), sv (cons ls vw)), (Sum.inr (S txJ), sv [45])], rfl, by show 5 ≤ 15; decide, ?_⟩
  walk_at "zs"
  refine ⟨p, rfl, Or.inl ⟨_, Or.inl upd_same⟩, ?_⟩
  walk_at "zs"
  refine ⟨sz1000 (by omega), _, Or.inl ⟨_, Sum.inr (S z), Or.inl upd_same, rfl, rfl⟩, ?_⟩
  have e := mem_dict ls vw z
  unfold inner at e
  rw [e]
  refine k _ (s1.trans ?_)
  intro b o eb
  have nb := ne_of_none eb hp
  rw [upd_ne nb, upd_ne nb]
  exact eb
theorem pure_l_name (T : Facts K mg) (vs : List V) (H : Hp) (Q : VK) (E : XK) (h : sp_l_name K vs H Q E) : t_l_name P w K { nx := fun _ H' => Q .non H', rt := Q } (start N_l_name vs) H := by
  obtain ⟨b, ls, rfl, bag, asc, sm, l8, k⟩ := h
  show t_l_name P w K _ [some (.ref b), some (sv ls), none, none, none, none] H
  unfold t_l_name
  walk_at "zs"
  refine ⟨b, _, rfl, bag, by decide, by decide, fun way H1 w0 w1 b1 => ?_⟩
  walk_at "zs"
  refine s_addS (sz1000 (by show 1 + _ ≤ _; omega)) ?_
  have e45 : [45] ++ ls = 45 :: ls := rfl
  rw [e45]
  walk_at "zs"
  refine ite2 (fun h => ?_) (fun h => ?_)
  · obtain rfl : way = 5 := of_decide_eq_true h
    walk_at "zs"
    refine ⟨rfl, ?_⟩
    walk_at "zs"
    refine ⟨_, rfl, S (45 :: ls), rfl, fun D hD => ?_⟩
    refine lc_draw (by show 5 < 6; decide) rfl (by decide) b1.bag hD (by rw [List.length_cons]; omega) fun Hn ys hy sub sm2 bn => ?_
    rw [List.length_cons] at sm2
    walk_at "zs"
    refine ⟨ys, Or.inl (sq_of hy), by show _ + _ * 0 ≤ _; omega, ?_⟩
    rw [glue_nil]
    walk_at "zs"
    refine ⟨fun σ' H' => ∃ ld : List Nat, σ' = [some (.ref b), some (sv ls), some (.int 5), some (sv (45 :: ls)), some (sv ld), none] ∧ Bst b H H' ∧ ld ≠ [] ∧ ld.Sublist (45 :: ls), ?_, ?_⟩
    · walk_at "zs"
      refine iteT ?_
      walk_at "zs"
      refine ite2 (fun h => ?_) (fun h => ?_)
      · walk_at "zs"
        refine s_lenTS (sz1000 (by rw [List.length_cons]; omega)) ?_
        walk_at "zs"
        refine ⟨b, _, rfl, bn.bag, by rw [List.length_cons]; omega, by rw [List.length_cons]; omega, fun j H9 j0 j1 b9 => ?_⟩
        have hj : j.toNat < (45 :: ls).length := by omega
        refine ⟨(45 :: ls)[j.toNat], sz1000 (by rw [List.length_cons]; omega), at_ofN (j := j.toNat) (by omega) (List.getElem?_eq_getElem hj), ?_⟩
        exact ⟨_, rfl, (b1.trans bn).trans b9, List.cons_ne_nil _ _, List.singleton_sublist.mpr (List.getElem_mem hj)⟩
      · exact ⟨_, rfl, b1.trans bn, fun q => h (decide_eq_true q), sub⟩
    · rintro σ' H' ⟨ld, rfl, bs, ne, sl⟩
      have ll := sl.length_le
      rw [List.length_cons] at ll
      walk_at "zs"
      refine s_addS (sz1000 (by show 1 + _ ≤ _; omega)) ?_
      walk_at "zs"
      refine s_addS (sz1000 (by rw [List.length_append]; show 1 + _ + 1 ≤ _; omega)) ?_
      walk_at "zs"
      refine ⟨by show 6 ≤ sizeLine; decide, fun p hp => ?_⟩
      walk_at "zs"
      refine s_ixL upd_same rfl ?_
      refine k _ _ (Or.inr (Or.inr (Or.inr (Or.inr (Or.inr (okS_mk sl ne asc sm)))))) (by simp; omega) (bs.trans (Bst.of_same bs.bag (same_upd hp)))
  · have h5 : ¬ way = 5 := fun q => h (decide_eq_true q)
    walk_at "zs"
    refine ⟨fun σ' H' => σ' = [some (.ref b), some (sv ls), some (.int way), some (sv (45 :: ls)), some (sv []), none] ∧ H' = H1, ?_, ?_⟩
    · walk_at "zs"
      rw [decide_eq_false h5]
      walk_at "zs"
      exact ⟨rfl, rfl⟩
    · rintro σ' H' ⟨rfl, rfl⟩
      walk_at "zs"
      refine s_addS (by decide) ?_
      walk_at "zs"
      refine s_addS (by decide) ?_
      walk_at "zs"
      refine ⟨by show 6 ≤ sizeLine; decide, fun p hp => ?_⟩
      walk_at "zs"
      have bb := b1.trans (Bst.of_same b1.bag (same_upd (o := .lst [sv txA, sv txL, sv txV, sv txC, sv txJ, sv ([91] ++ [] ++ [93])]) hp))
      have hw : way = 0 ∨ way = 1 ∨ way = 2 ∨ way = 3 ∨ way = 4 := by omega
      rcases hw with rfl | rfl | rfl | rfl | rfl
      · exact s_ixL upd_same rfl (k _ _ (Or.inl rfl) (by decide) bb)
      · exact s_ixL upd_same rfl (k _ _ (Or.inr (Or.inl rfl)) (by decide) bb)
      · exact s_ixL upd_same rfl (k _ _ (Or.inr (Or.inr (Or.inl rfl))) (by decide) bb)
      · exact s_ixL upd_same rfl (k _ _ (Or.inr (Or.inr (Or.inr (Or.inl rfl)))) (by decide) bb)
      · exact s_ixL upd_same rfl (k _ _ (Or.inr (Or.inr (Or.inr (Or.inr (Or.inl rfl))))) (by decide) bb)
theorem pure_l_word (T : Facts K mg) (vs : List V) (H : Hp) (Q : VK) (E : XK) (h : sp_l_word K vs H Q E) : t_l_word P w K { nx := fun _ H' => Q .non H', rt := Q } (start N_l_word vs) H := by
  obtain ⟨b, sg, top, rfl, bag, g1, g2, ht, k⟩ := h
  show t_l_word P w K _ [some (.ref b), some (sv sg), some (.int top), none, none] H
  unfold t_l_word
  walk_at "zs"
  show tCall (sp_l_take K) [] E0 _ _ _ _
  walk_at "zs"
  refine ⟨b, _, rfl, bag, by omega, by omega, fun r H1 r0 r1 b1 => ?_⟩
  walk_at "zs"
  refine ⟨r, rfl, by omega, by omega, ?_⟩
  refine for_range (lo := 0) (n := r.toNat) (fun j σ H2 => ∃ (wd : List Nat) (v4 : Option V), σ = [some (.ref b), some (sv sg), some (.int top), some (sv wd), v4] ∧ wd.length = j ∧ (∀ c ∈ wd, c ∈ sg) ∧ Bst b H H2)
    ⟨[], none, rfl, rfl, (fun _ h => nomatch h), b1⟩ ?_ ?_
  · rintro j σ H2 hj ⟨wd, v4, rfl, wl, wm, bs⟩
    have els : ∀ (H3 : Hp) (x4 : V) (D : Ends), Bst b H H3 → (D.nx = fun σ H2 => ∃ (wd : List Nat) (v4 : Option V), σ = [some (.ref b), some (sv sg), some (.int top), some (sv wd), v4] ∧ wd.length = j + 1 ∧ (∀ c ∈ wd, c ∈ sg) ∧ Bst b H H2) → tAsg (tOp zAdd (tVar 3) (tOp (zIx K) (tVar 1) (tCall (sp_l_take K) [] E0 (tCons (tVar 0) (tCons (tCB (zLenS P w K) (tCons (tVar 1) tNil)) tNil))))) (gName 3) D [some (.ref b), some (sv sg), some (.int top), some (sv wd), some x4] H3 := by
      intro H3 x4 D b3 hD
      walk_at "zs"
      refine s_lenTS (sz1000 (by omega)) ?_
      walk_at "zs"
      refine ⟨b, _, rfl, b3.bag, by omega, by omega, fun i H4 i0 i1 b4 => ?_⟩
      have hi : i.toNat < sg.length := by omega
      refine ⟨sg[i.toNat], sz1000 (by omega), at_ofN (j := i.toNat) (by omega) (List.getElem?_eq_getElem hi), ?_⟩
      refine s_addS (sz1000 (by show _ + 1 ≤ _; omega)) ?_
      rw [hD]
      refine ⟨_, _, rfl, by rw [List.length_append, wl]; rfl, fun c hc => ?_, b3.trans b4⟩
      rcases List.mem_append.mp hc with hc | hc
      · exact wm c hc
      · rw [List.mem_singleton.mp hc]
        exact List.getElem_mem hi
    walk_at "zs"
    refine ite2 (fun h => ?_) (fun h => ?_)
    · have hne : ¬ wd = [] := by
        intro q
        rw [decide_eq_true q] at h
        cases h
      have hpos := List.length_pos_iff.mpr hne
      walk_at "zs"
      refine ⟨b, _, rfl, bs.bag, by decide, by decide, fun i H3 i0 i1 b3 => ?_⟩
      walk_at "zs"
      refine ite2 (fun h => ?_) (fun h => ?_)
      · obtain ⟨c, hc⟩ := atI_some (z := wd) (i := -1) (by omega) (by omega)
        walk_at "zs"
        refine ⟨c, sz1000 (by omega), hc, ?_⟩
        refine s_addS (sz1000 (by show _ + 1 ≤ _; omega)) ?_
        refine ⟨_, _, rfl, by rw [List.length_append, wl]; rfl, fun d hd => ?_, bs.trans b3⟩
        rcases List.mem_append.mp hd with hd | hd
        · exact wm d hd
        · rw [List.mem_singleton.mp hd]
          obtain ⟨_, _, e, _⟩ := atI_get hc
          exact wm c (List.mem_of_getElem? e)
      · exact els _ _ _ (bs.trans b3) rfl
    · refine iteF ?_
      exact els _ _ _ bs rfl
  · rintro σ H2 ⟨wd, v4, rfl, wl, wm, bs⟩
    walk_at "zs"
    exact k _ _ wm (by omega) bs
end Cl
namespace Cl
open PySem PySem.Spec PyProof.Rows L2 He ClX
open C8 (tCut pss_cut)
local macro_rules | `(tactic| walk_at "zs") => `(tactic| repeat (first
  | with_reducible refine s_seq ?_
  | with_reducible refine s_asg ?_
  | with_reducible refine s_if ?_
  | with_reducible refine s_var (by with_unfolding_all exact rfl) ?_
  | with_reducible refine s_c ?_
  | with_reducible refine s_op ?_
  | with_reducible refine s_cons ?_
  | with_reducible refine s_nil ?_
  | with_reducible refine s_cb ?_
  | with_reducible refine s_call ?_
  | with_reducible refine s_ret ?_
  | with_reducible refine s_test ?_
  | with_reducible refine s_bl ?_
  | with_reducible refine s_not ?_
  | with_reducible refine s_name ?_
  | with_reducible refine s_sub ?_
  | with_reducible refine s_sl ?_
  | with_reducible refine s_part ?_
  | with_reducible refine s_nopart ?_
  | with_reducible refine s_int ?_
  | with_reducible refine s_drop ?_
  | with_reducible refine s_lst ?_
  | with_reducible refine s_tup ?_
  | with_reducible refine s_bm ?_
  | with_reducible refine s_next ?_
  | with_reducible refine s_xfv ?_
  | with_reducible refine s_tru ?_
  | with_reducible refine s_yes ?_
  | with_reducible refine s_isnotNN ?_
  | with_reducible refine s_isNN ?_
  | with_reducible refine s_isBB ?_
  | with_reducible refine s_isnotBB ?_
  | with_reducible refine s_makeS ?_
  | with_reducible refine s_make ?_
  | with_reducible refine s_in ?_
  | with_reducible refine s_notin ?_
  | with_reducible refine s_chain ?_
  | with_reducible refine s_sfld ?_
  | with_reducible refine s_fld ?_
  | with_reducible refine s_cval ?_
  | with_reducible refine s_andV ?_
  | with_reducible refine s_orV ?_
  | with_reducible refine s_notV ?_
  | with_reducible refine s_truB ?_
  | with_reducible refine s_revT ?_
  | with_reducible refine iteT ?_
  | with_reducible refine iteF ?_
  | with_reducible refine s_or ?_
  | with_reducible refine s_and ?_
  | with_reducible refine s_addI ?_
  | with_reducible refine s_subI ?_
  | with_reducible refine s_ltI ?_
  | with_reducible refine s_leI ?_
  | with_reducible refine s_gtI ?_
  | with_reducible refine s_geI ?_
  | with_reducible refine s_intc ?_
  | with_reducible refine s_eq (by with_unfolding_all exact rfl) ?_
  | with_reducible refine s_ne (by with_unfolding_all exact rfl) ?_
  | with_reducible refine s_ife ?_
  | with_reducible refine s_un ?_
  | with_reducible refine s_neg ?_
  | with_reducible refine s_bool ?_
  | with_reducible refine s_meth ?_
  | with_reducible refine s_con ?_
  | with_reducible refine s_disp ?_
  | with_reducible refine s_pair ?_
  | with_reducible refine s_pnil ?_
  | with_reducible refine s_dget2 ?_))
variable {K : PySem.W.Frag} {mg : Str → Option Value} {P : Program} {w : World}
theorem s_for {wi : TI} {g : TG} {tb : TS} {D : Ends} {σ : L2.St} {H : Hp} (h : wi σ H fun J H1 => ∃ W : Nat → Nat → L2.St → Hp → Prop, (∃ m, W 0 m σ H1) ∧ ∀ i m σ H, W i m σ H →
  (J.stop i H ∧ D.nx σ H) ∨ (J.go i H ∧ ∃ N : L2.St → Hp → Prop, (∀ σ' H', N σ' H' → ∃ m', m' < m ∧ W (i + 1) m' σ' H') ∧ ∀ x H', J.yld i H x H' → g x σ H' fun σ2 H2 => tb { D with nx := N, ct := N, bk := D.nx } σ2 H2)) : tFor wi g tb D σ H := h
theorem s_iList {te : TE} {σ : L2.St} {H : Hp} {R : It → Hp → Prop} (h : te σ H fun v H1 => ∃ a, v = .ref a ∧ (∃ xs, SqL K H1 a xs) ∧ R (Itl K a) H1) : iList K te σ H R := h
theorem hu1 {A : Around} {k : Nat} (hr : Room k A) : A.units + 1 < cLine := by
  have := hr.units
  omega
theorem len_law (vs : List V) (H : Hp) (Q : VK) (E : XK) (h : sp_law K vs H Q E) : vs.length = 1 := by
  obtain ⟨a, ns, rfl, _⟩ := h
  rfl
abbrev allU : List Nat := [97, 98, 99, 100, 101, 102, 103, 104, 105, 106, 107, 108, 109, 110, 111, 112, 113, 114, 115, 116, 117, 118, 119, 120, 121, 122, 65, 90, 32, 48, 95, 46, 126, 91, 93]
theorem cut_from (ls : List Nat) (n : Nat) : cut ls (some (n : Int)) none = ls.drop (min n ls.length) := by
  unfold cut
  rw [HT.sIx_nat, HT.sIx_none]
  refine List.take_of_length_le ?_
  rw [List.length_drop]
  omega
theorem cut_to (ls : List Nat) (n : Nat) : cut ls none (some (n : Int)) = ls.take (min n ls.length) := by
  unfold cut
  rw [HT.sIx_nat, HT.sIx_none, List.drop_zero, Nat.sub_zero]
theorem rot_perm (ls : List Nat) (r : Int) (h : 0 ≤ r) : (cut ls (some r) none ++ cut ls none (some r)).Perm ls := by
  obtain ⟨n, rfl⟩ : ∃ n : Nat, r = n := ⟨r.toNat, by omega⟩
  rw [cut_from, cut_to]
  have := List.perm_append_comm (l₁ := ls.drop (min n ls.length)) (l₂ := ls.take (min n ls.length))
  rw [List.take_append_drop] at this
  exact this
theorem okL_perm {l m : List Nat} (p : l.Perm m) (h : okL m) : okL l := ⟨fun c hc => h.1 c (p.mem_iff.mp hc), by rw [p.length_eq]; exact h.2.1, by rw [p.length_eq]; exact h.2.2.1, p.nodup_iff.mpr h.2.2.2⟩
theorem okV_perm {l m v u : List Nat} (p : l.Perm m) (q : v.Perm u) (h : okV m u) : okV l v := ⟨fun c hc => p.mem_iff.mpr (h.1 c (q.mem_iff.mp hc)), q.nodup_iff.mpr h.2⟩
theorem cons_nil (ls : List Nat) : cons ls [] = ls := List.filter_eq_self.mpr fun c _ => by simp
theorem mem_C (ls vw : List Nat) : mem ls vw txC = cons ls vw := by
  unfold mem
  simp
theorem asc_small {ls : List Nat} (h : ∀ c ∈ ls, c ∈ small) : asc ls := fun c hc => by
  have : ∀ c ∈ small, c < 128 := by decide
  exact this c (h c hc)
theorem pure_law (T : Facts K mg) (vs : List V) (H : Hp) (Q : VK) (E : XK) (h : sp_law K vs H Q E) : t_law P w K { nx := fun _ H' => Q .non H', rt := Q } (start N_law vs) H := by
  obtain ⟨a, ns, rfl, hS, hl, k⟩ := h
  show t_law P w K _ [some (.ref a), none, none, none, none, none, none, none, none, none, none, none, none, none, none, none, none] H
  unfold t_law
  walk_at "zs"
  refine ⟨a, ns, rfl, hS, fun b Hb bag sb nb => ?_⟩
  walk_at "zs"
  refine ⟨b, 8, rfl, bag, by decide, by decide, fun ls H1 lt inS l1 l8 b1 => ?_⟩
  have ndl : ls.Nodup := nd_of_lt lt
  have okl : okL ls := ⟨inS, l1, by omega, ndl⟩
  walk_at "zs"
  refine ⟨b, ls, rfl, b1.bag, by omega, fun vw H2 sub b2 => ?_⟩
  have okv : okV ls vw := ⟨fun c hc => sub.subset hc, ndl.sublist sub⟩
  have vlt : vw.Pairwise (· < ·) := lt.sublist sub
  have vl := sub.length_le
  walk_at "zs"
  refine s_lenTS (sz1000 (by omega)) ?_
  walk_at "zs"
  refine ⟨b, _, rfl, b2.bag, by omega, by omega, fun r H3 r0 r1 b3 => ?_⟩
  walk_at "zs"
  refine ⟨sz1000 (by omega), ?_⟩
  walk_at "zs"
  refine ⟨sz1000 (by omega), ?_⟩
  have rp := rot_perm ls r r0
  have rl := rp.length_eq
  rw [List.length_append] at rl
  refine s_addS (sz1000 (by omega)) ?_
  revert rp rl
  generalize hrot : cut ls (some r) none ++ cut ls none (some r) = rot
  intro rp rl
  have rl := rp.length_eq
  walk_at "zs"
  refine ⟨vw, rfl, sz1000 (by omega), ?_⟩
  walk_at "zs"
  intro x dx nx nd ne
  have rv : vw.reverse.Perm vw := List.reverse_perm vw
  refine ⟨x, dx, rot, vw.reverse, rfl, upd_same, by omega, by rw [List.length_reverse]; omega, fun h => absurd (okL_perm rp okl) h, fun _ h => absurd (okV_perm rp rv okv) h, fun _ _ H4 al0 bt => ⟨rfl, ?_⟩⟩
  have s34 : Same H3 H4 := but_made nx nd bt
  have bag4 : Bag H4 b := b3.bag.same s34
  have al : Al K H4 x ls vw := al0.al rp rv lt vlt
  clear al0 bt ne nd nx s34
  walk_at "zs"
  refine ⟨ls, vw, txC, rfl, by omega, by decide, fun H5 s5 => ?_⟩
  rw [mem_C]
  have bag5 := bag4.same s5
  have al5 := al.same s5
  clear al bag4 s5
  obtain ⟨dx, hx⟩ := id al5
  have cl := cons_len ls vw
  walk_at "zs"
  refine ⟨x, _, dx, _, _, rfl, hx, T.c_Alphabet, T.no_Alphabet_letters, af_letters, ?_⟩
  walk_at "zs"
  refine ⟨x, _, dx, _, _, rfl, hx, T.c_Alphabet, T.no_Alphabet_vowels, af_vowels, ?_⟩
  walk_at "zs"
  refine ⟨x, _, dx, _, _, rfl, hx, T.c_Alphabet, T.no_Alphabet_consonants, af_cons, ?_⟩
  walk_at "zs"
  refine ⟨x, _, dx, _, _, rfl, hx, T.c_Alphabet, T.no_Alphabet_signs, af_signs, ?_⟩
  walk_at "zs"
  refine ⟨by show 4 ≤ sizeLine; decide, fun p hp => ?_⟩
  walk_at "zs"
  refine s_addS (sz1000 (by show 1 + _ ≤ _; omega)) ?_
  walk_at "zs"
  refine ⟨by show 4 ≤ sizeLine; decide, fun q hq => ?_⟩
  have fl : [sv ls, sv vw, sv (cons ls vw), sv (45 :: ls)].all flat = true := by
    have a1 := asc_small inS
    have a2 : asc vw := fun c hc => a1 c (sub.subset hc)
    have a3 : asc (cons ls vw) := fun c hc => a1 c (List.mem_filter.mp hc).1
    have a4 : asc (45 :: ls) := fun c hc => by
      rcases List.mem_cons.mp hc with rfl | hc
      · decide
      · exact a1 c hc
    simp only [List.all_cons, List.all_nil, asc_ok a1, asc_ok a2, asc_ok a3, asc_ok a4, Bool.and_self]
  refine s_neSame (upd_old hq upd_same) upd_same fl ?_
  have s57 : Same H5 (upd (upd H5 p (.lst [sv ls, sv vw, sv (cons ls vw), sv (45 :: ls)])) q (.lst [sv ls, sv vw, sv (cons ls vw), sv (45 :: ls)])) := (same_upd hp).trans (same_upd hq)
  revert s57
  show Same H5 (upd (upd H5 p (.lst [sv ls, sv vw, sv (cons ls vw), sv (45 :: ls)])) q (.lst [sv ls, sv vw, sv (cons ls vw), sv ([45] ++ ls)])) → _
  generalize upd (upd H5 p _) q _ = H6
  intro s57
  have bag6 := bag5.same s57
  have al6 := al5.same s57
  clear hx hp hq s57 bag5 al5 fl
  obtain ⟨dx, hx⟩ := id al6
  obtain ⟨uJ, hJ⟩ := T.cv_Alphabet_JOINT
  obtain ⟨uM, hM⟩ := T.cv_Alphabet_MOST
  obtain ⟨uC, hC⟩ := T.co_Alphabet_MOST
  walk_at "zs"
  refine ⟨_, _, _, uJ, rfl, T.cr_Alphabet, hJ, ?_⟩
  walk_at "zs"
  refine iteF ?_
  walk_at "zs"
  refine ⟨_, _, _, uM, rfl, T.cr_Alphabet, hM, ?_⟩
  walk_at "zs"
  refine iteF ?_
  walk_at "zs"
  refine ⟨x, _, dx, _, _, uC, rfl, hx, T.c_Alphabet, hC, af_no (by decide +kernel) (by decide +kernel) (by decide +kernel) (by decide +kernel), ?_⟩
  walk_at "zs"
  refine iteF ?_
  walk_at "zs"
  refine s_for ?_
  refine s_iList ?_
  walk_at "zs"
  refine ⟨b, ls, rfl, bag6, lt, inS, by omega, fun z H7 okz zl b7 => ?_⟩
  walk_at "zs"
  refine ⟨by show 6 ≤ sizeLine; decide, fun p8 hp8 => ?_⟩
  have al7 : Al K H7 x ls vw := ⟨dx, b7.keep x _ (by
    rintro rfl
    obtain ⟨cc, _, _, _, _, e, _⟩ := bag6
    rw [hx] at e
    cases e) hx⟩
  have bag8 := b7.bag.same (same_upd (o := .lst ([txA, txL, txV, txC, txJ, z].map sv)) hp8)
  have al8 := al7.same (same_upd (o := .lst ([txA, txL, txV, txC, txJ, z].map sv)) hp8)
  have hl8 := upd_same (H := H7) (a := p8) (o := .lst ([txA, txL, txV, txC, txJ, z].map sv))
  revert bag8 al8 hl8
  show Bag (upd H7 p8 (.lst [sv txA, sv txL, sv txV, sv txC, sv txJ, sv z])) b → Al K (upd H7 p8 (.lst [sv txA, sv txL, sv txV, sv txC, sv txJ, sv z])) x ls vw → upd H7 p8 (.lst [sv txA, sv txL, sv txV, sv txC, sv txJ, sv z]) p8 = some (.lst ([txA, txL, txV, txC, txJ, z].map sv)) → _
  generalize upd H7 p8 _ = H8
  intro bag8 al8 hl8
  clear hx al7 b7 bag6 al6
  have good : ∀ y ∈ [txA, txL, txV, txC, txJ, z], okN ls y ∧ y.length ≤ 60 := by
    intro y hy
    simp only [List.mem_cons, List.not_mem_nil, or_false] at hy
    rcases hy with rfl | rfl | rfl | rfl | rfl | rfl
    · exact ⟨Or.inl rfl, by decide⟩
    · exact ⟨Or.inr (Or.inl rfl), by decide⟩
    · exact ⟨Or.inr (Or.inr (Or.inl rfl)), by decide⟩
    · exact ⟨Or.inr (Or.inr (Or.inr (Or.inl rfl))), by decide⟩
    · exact ⟨Or.inr (Or.inr (Or.inr (Or.inr (Or.inl rfl)))), by decide⟩
    · exact ⟨okz, zl⟩
  refine ⟨p8, rfl, ⟨_, sq_of hl8⟩, ?_⟩
  refine for_it (walk_list (xs := [txA, txL, txV, txC, txJ, z].map sv)) (fun j σ H' => ∃ v8 v9, σ = [some (.ref a), some (.ref b), some (sv ls), some (sv vw), some (.int r), some (.ref x), some (sv (cons ls vw)), some (.ref p), v8, v9, none, none, none, none, none, none, none] ∧ Same H8 H') ⟨none, none, rfl, fun _ _ e => e⟩ (fun _ _ _ _ ⟨_, _, _, s⟩ => sq_of (s _ _ hl8)) ?_ ?_
  · rintro j x1 σ Hj Hj' hj ⟨v8, v9, rfl, sj⟩ ⟨rfl, hxj⟩
    obtain ⟨y, hy, rfl⟩ := List.mem_map.mp (List.mem_of_getElem? hxj)
    obtain ⟨oky, yl⟩ := good y hy
    have alj := al8.same sj
    obtain ⟨dj, hxd⟩ := id alj
    walk_at "zs"
    refine ⟨x, dj, _, rfl, hxd, af_no (by decide +kernel) (by decide +kernel) (by decide +kernel) (by decide +kernel), ?_⟩
    walk_at "zs"
    refine ⟨x, ls, vw, y, rfl, alj, yl, fun _ G1 g1 => ?_, fun h => absurd oky h⟩
    walk_at "zs"
    refine s_isiT (.ty _) T.kt_str_str ?_
    walk_at "zs"
    refine iteF ?_
    walk_at "zs"
    refine ⟨ls, vw, y, rfl, by omega, yl, fun G2 g2 => ?_⟩
    walk_at "zs"
    rw [decide_eq_true rfl]
    walk_at "zs"
    exact ⟨_, _, rfl, (sj.trans g1).trans g2⟩
  rintro σ H9 ⟨v8, v9, rfl, s9⟩
  have al9 := al8.same s9
  have bag9 := bag8.same s9
  clear al8 bag8 hl8 good s9
  walk_at "zs"
  refine s_addS (sz1000 (by show 1 + _ ≤ _; omega)) ?_
  walk_at "zs"
  refine ⟨b, 45 :: ls, 12, rfl, bag9, by rw [List.length_cons]; omega, by rw [List.length_cons]; omega, by decide, fun wd H10 wm wl b10 => ?_⟩
  obtain ⟨dx, hx⟩ := al9
  have nxb : x ≠ b := by
    rintro rfl
    obtain ⟨cc, _, _, _, _, e, _⟩ := bag9
    rw [hx] at e
    cases e
  have hx10 := b10.keep x _ nxb hx
  have bag10 := b10.bag
  clear hx b10 bag9
  walk_at "zs"
  refine ⟨_, rfl, fun D hD => ?_⟩
  refine lc_txt (z := allU) (fun c => !decide (c ∈ ls)) (by decide) (by show 12 < 17; decide) (fun c H3 QB hc kb q => ?_) fun H11 kb kD => ?_
  · walk_at "zs"
    exact q
  have s11 : Same H10 H11 := kb.same hD
  have bag11 := bag10.same s11
  have hx11 := s11 _ _ hx10
  have nD : D ≠ b := by
    obtain ⟨cc, bc⟩ := bag10
    exact (bc.ne hD).1
  clear bag10 hx10 s11 kb
  walk_at "zs"
  refine s_lenLS kD ?_
  walk_at "zs"
  have o1 : 1 ≤ (allU.filter fun c => !decide (c ∈ ls)).length := List.length_pos_of_mem (a := 65) (List.mem_filter.mpr ⟨by decide, by
    have : (65 : Nat) ∉ ls := fun h => absurd (inS 65 h) (by decide)
    simpa using this⟩)
  have o2 : (allU.filter fun c => !decide (c ∈ ls)).length ≤ 35 := List.length_filter_le _ _
  have o3 : ∀ c ∈ (allU.filter fun c => !decide (c ∈ ls)), c ∉ 45 :: ls := fun c hc h => by
    have h1 := (List.mem_filter.mp hc).2
    rcases List.mem_cons.mp h with rfl | h
    · exact absurd (List.mem_filter.mp hc).1 (by decide)
    · rw [decide_eq_true h] at h1
      cases h1
  revert o1 o2 o3 kD
  generalize (allU.filter fun c => !decide (c ∈ ls)) = oth
  intro kD o1 o2 o3
  rw [List.length_map]
  refine ⟨b, _, rfl, bag11, by omega, by omega, fun i H12 i0 i1 b12 => ?_⟩
  have hi : i.toNat < oth.length := by omega
  refine s_ixL (b12.keep D _ nD kD) (v := sv [oth[i.toNat]]) (at_of (j := i.toNat) (by omega) (by rw [List.getElem?_map, List.getElem?_eq_getElem hi]; rfl)) ?_
  have hf := o3 _ (List.getElem_mem hi)
  revert hf
  generalize oth[i.toNat] = f
  intro hf
  have hx12 := b12.keep x _ nxb hx11
  have bag12 := b12.bag
  clear b12 bag11 hx11 kD o1 o2 o3 hi
  walk_at "zs"
  refine s_lenTS (sz1000 (by omega)) ?_
  walk_at "zs"
  refine ⟨b, _, rfl, bag12, by omega, by omega, fun at_ H13 at0 at1 b13 => ?_⟩
  have hx13 := b13.keep x _ nxb hx12
  clear b13 bag12 hx12
  have al13 : Al K H13 x ls vw := ⟨dx, hx13⟩
  walk_at "zs"
  refine ⟨x, dx, _, rfl, hx13, af_no (by decide +kernel) (by decide +kernel) (by decide +kernel) (by decide +kernel), ?_⟩
  walk_at "zs"
  refine ⟨x, ls, vw, wd, rfl, al13, by omega, ?_⟩
  rw [isW_iff.mpr wm]
  walk_at "zs"
  refine iteF ?_
  walk_at "zs"
  refine ⟨x, dx, _, rfl, hx13, af_no (by decide +kernel) (by decide +kernel) (by decide +kernel) (by decide +kernel), ?_⟩
  walk_at "zs"
  refine ⟨x, ls, vw, [], rfl, al13, by decide, ?_⟩
  rw [show isW ls [] = true from rfl]
  walk_at "zs"
  refine iteF ?_
  walk_at "zs"
  refine ⟨x, dx, _, rfl, hx13, af_no (by decide +kernel) (by decide +kernel) (by decide +kernel) (by decide +kernel), ?_⟩
  walk_at "zs"
  have c1 := (cut_sub wd none (some at_)).length_le
  have c2 := (cut_sub wd (some at_) none).length_le
  refine ⟨sz1000 (by omega), ?_⟩
  walk_at "zs"
  refine s_addS (sz1000 (by show _ + 1 ≤ _; omega)) ?_
  walk_at "zs"
  refine ⟨sz1000 (by omega), ?_⟩
  walk_at "zs"
  refine s_addS (sz1000 (by rw [List.length_append]; show _ + 1 + _ ≤ _; omega)) ?_
  walk_at "zs"
  refine ⟨x, ls, vw, _, rfl, al13, by rw [List.length_append, List.length_append]; show _ + 1 + _ ≤ _; omega, ?_⟩
  have nw : isW ls (cut wd none (some at_) ++ [f] ++ cut wd (some at_) none) = false := by
    cases q : isW ls (cut wd none (some at_) ++ [f] ++ cut wd (some at_) none) with
    | false => rfl
    | true => exact absurd (isW_iff.mp q f (by simp)) hf
  rw [nw]
  walk_at "zs"
  refine iteF ?_
  walk_at "zs"
  intro x2 dx2 nx2 nd2 ne2
  have ok0 : okV ls [] := ⟨(fun c hc => nomatch hc), List.nodup_nil⟩
  refine ⟨x2, dx2, ls, [], rfl, upd_same, by omega, by decide, fun h => absurd okl h, fun _ h => absurd ok0 h, fun _ _ H14 al2 bt => ⟨rfl, ?_⟩⟩
  have s14 : Same H13 H14 := but_made nx2 nd2 bt
  have al14 := al13.same s14
  have pl14 : Al K H14 x2 ls [] := al2.al (List.Perm.refl _) (List.Perm.refl _) lt List.Pairwise.nil
  clear al2 bt al13 s14 nx2 nd2 ne2
  obtain ⟨d2, h2⟩ := id pl14
  walk_at "zs"
  refine ⟨x2, _, d2, _, _, rfl, h2, T.c_Alphabet, T.no_Alphabet_vowels, af_vowels, ?_⟩
  walk_at "zs"
  refine iteF ?_
  walk_at "zs"
  refine ⟨x2, _, d2, _, _, rfl, h2, T.c_Alphabet, T.no_Alphabet_consonants, af_cons, ?_⟩
  rw [cons_nil]
  walk_at "zs"
  rw [decide_eq_true rfl]
  refine iteF ?_
  walk_at "zs"
  intro x3 dx3 nx3 nd3 ne3
  refine ⟨x3, dx3, ls, vw, rfl, upd_same, by omega, by omega, fun h => absurd okl h, fun _ h => absurd okv h, fun _ _ H15 al2 bt => ⟨rfl, ?_⟩⟩
  have s15 : Same H14 H15 := but_made nx3 nd3 bt
  have al15 := al14.same s15
  have pl15 := pl14.same s15
  have am15 : Al K H15 x3 ls vw := al2.al (List.Perm.refl _) (List.Perm.refl _) lt vlt
  obtain ⟨e1, g1⟩ := id al15
  obtain ⟨e2, g2⟩ := id pl15
  obtain ⟨e3, g3⟩ := id am15
  refine ⟨x, x3, e1, e3, _, _, rfl, rfl, g1, g3, x, x3, ls, vw, ls, vw, rfl, al15, am15, ?_⟩
  rw [decide_eq_true rfl, decide_eq_true rfl]
  walk_at "zs"
  refine iteT ?_
  walk_at "zs"
  refine ⟨x, x2, e1, e2, _, _, rfl, rfl, g1, g2, x, x2, ls, vw, ls, [], rfl, al15, pl15, ?_⟩
  rw [decide_eq_true rfl]
  walk_at "zs"
  rw [decide_eq_true (by rfl)]
  exact k _
end Cl
namespace Cl
open PySem PySem.Spec PyProof.Rows L2 He ClX
open C8 (tCut pss_cut)
section
variable {P : Program} {w : World} {K : PySem.W.Frag} {mg : Str → Option Value} {base : Heap}
theorem sc_BadAlphabet_init : FnScope N_BadAlphabet_init ["self", "part"] (defScope st_BadAlphabet_init) := ⟨rfl, rfl, rfl, by decide +kernel, rfl, by decide +kernel, by decide +kernel⟩
theorem bi_BadAlphabet_init (T : Facts K mg) : Binds K (fdOf K ("BadAlphabet", some "__init__")) ["self", "part"] [] := T.F_BadAlphabet_init.bindsN fun _ _ _ _ _ _ us hl => match us, hl with | [_, _], _ => rfl
theorem ok_BadAlphabet_init (T : Facts K mg) : FnOk P w K mg base (L2.CX P w) 1 (fAd K ("BadAlphabet", some "__init__")) (fdOf K ("BadAlphabet", some "__init__")) ["self", "part"] (sp_BadAlphabet_init K) := by
  refine T.F_BadAlphabet_init.ok sc_BadAlphabet_init (fun vs H Q E h => len_X1 vs H Q E h) (fun cdv A outer s H vs Q E hr h => ⟨t_BadAlphabet_init P w K, PSs.nox ?_, pure_X1 T.x_BadAlphabet.o T.no_BadAlphabet_part vs H Q E h⟩)
  exact pss_cons (ps_expr (pe_binit rfl T.g_ClipError T.bi.s T.bi.t T.bi.r T.bi.v (pa_cons (pv 0) (pa_cons (pe_sv (by decide +kernel)) pa_nil)))) (pss_one (ps_ost (pv 0) (pv 1)))
theorem sc_BadStage_init : FnScope N_BadStage_init ["self", "what"] (defScope st_BadStage_init) := ⟨rfl, rfl, rfl, by decide +kernel, rfl, by decide +kernel, by decide +kernel⟩
theorem bi_BadStage_init (T : Facts K mg) : Binds K (fdOf K ("BadStage", some "__init__")) ["self", "what"] [] := T.F_BadStage_init.bindsN fun _ _ _ _ _ _ us hl => match us, hl with | [_, _], _ => rfl
theorem ok_BadStage_init (T : Facts K mg) : FnOk P w K mg base (L2.CX P w) 1 (fAd K ("BadStage", some "__init__")) (fdOf K ("BadStage", some "__init__")) ["self", "what"] (sp_BadStage_init K) := by
  refine T.F_BadStage_init.ok sc_BadStage_init (fun vs H Q E h => len_X1 vs H Q E h) (fun cdv A outer s H vs Q E hr h => ⟨t_BadStage_init P w K, PSs.nox ?_, pure_X1 T.x_BadStage.o T.no_BadStage_what vs H Q E h⟩)
  exact pss_cons (ps_expr (pe_binit rfl T.g_ClipError T.bi.s T.bi.t T.bi.r T.bi.v (pa_cons (pv 0) (pa_cons (pe_sv (by decide +kernel)) pa_nil)))) (pss_one (ps_ost (pv 0) (pv 1)))
theorem sc_all_different : FnScope N_all_different ["text"] (defScope st_all_different) := ⟨rfl, rfl, rfl, by decide +kernel, rfl, by decide +kernel, by decide +kernel⟩
theorem bi_all_different (T : Facts K mg) : Binds K (fdOf K ("all_different", none)) ["text"] [] := T.F_all_different.bindsN fun _ _ _ _ _ _ us hl => match us, hl with | [_], _ => rfl
theorem ok_all_different (T : Facts K mg) : FnOk P w K mg base (L2.CX P w) 1 (fAd K ("all_different", none)) (fdOf K ("all_different", none)) ["text"] (sp_all_different K) := by
  refine T.F_all_different.ok sc_all_different (fun vs H Q E h => len_all_different vs H Q E h) (fun cdv A outer s H vs Q E hr h => ⟨t_all_different P w K, PSs.nox ?_, pure_all_different T vs H Q E h⟩)
  exact pss_one (ps_ret (pe_cmpR (oz_eq (hu64 hr)) (pe_callB cz_lenS rfl T.n_len (by decide +kernel) (pa_cons (pe_callTy (cz_set rfl) rfl T.n_set (by decide +kernel) (pa_cons (pv 0) pa_nil)) pa_nil)) (pe_callB cz_lenS rfl T.n_len (by decide +kernel) (pa_cons (pv 0) pa_nil)) (nomark _)))
theorem bi_Alphabet_init (T : Facts K mg) : Binds K (fdOf K ("Alphabet", some "__init__")) ["self", "letters", "vowels"] [] := by
  obtain ⟨ds, h1, h2⟩ := T.F_Alphabet_init.binds1 (ps := ["self", "letters", "vowels"]) 3 1 (by simp) rfl (fun T' kV doc pm an cdv ct us its hu hi => match us, hu, its, hi with | [_, _, _], _, [_], _ => ⟨_, rfl, rfl⟩)
  cases h1
  exact h2
theorem bi1_Alphabet_init (T : Facts K mg) : ∃ ds, Vals [sv []] ds ∧ Binds K (fdOf K ("Alphabet", some "__init__")) ["self", "letters", "vowels"] ds := by
  obtain ⟨ds, h1, h2⟩ := T.F_Alphabet_init.binds1 (ps := ["self", "letters", "vowels"]) 2 0 (by simp) rfl (fun T' kV doc pm an cdv ct us its hu hi => match us, hu, its, hi with | [_, _], _, [_], _ => ⟨_, rfl, rfl⟩)
  exact ⟨ds, h1, h2⟩
theorem sc_Alphabet_init : FnScope N_Alphabet_init ["self", "letters", "vowels"] (defScope st_Alphabet_init) := ⟨rfl, rfl, rfl, by decide +kernel, rfl, by decide +kernel, by decide +kernel⟩
theorem ok_Alphabet_init (T : Facts K mg) : FnOk P w K mg base (L2.CX P w) 3 (fAd K ("Alphabet", some "__init__")) (fdOf K ("Alphabet", some "__init__")) ["self", "letters", "vowels"] (sp_Alphabet_init K) := by
  refine T.F_Alphabet_init.ok sc_Alphabet_init (fun vs H Q E h => len_Alphabet_init vs H Q E h) (fun cdv A outer s H vs Q E hr h => ⟨t_Alphabet_init P w K E, id ?_, pure_Alphabet_init T vs H Q E h⟩)
  exact pss_cons (ps_setLc (i := 3) (own := [("sign", 4)]) (g := (gName 4)) (tt := (tTest (tOp (zNotIn K) (tVar 4) (tC (sv [97, 98, 99, 100, 101, 102, 103, 104, 105, 106, 107, 108, 109, 110, 111, 112, 113, 114, 115, 116, 117, 118, 119, 120, 121, 122]))))) rfl sc_Alphabet_init.nd rfl rfl (sw_true rfl rfl rfl (by decide +kernel)) (pi_str (pv 1)) (blkOk_by (N := N_Alphabet_init) (sc := defScope st_Alphabet_init) (by decide +kernel)) (fun _ _ _ _ _ => pg_name (i := 4) sc_Alphabet_init.nd rfl (by first | exact Or.inl rfl | exact Or.inr rfl)) (fun _ _ _ _ _ => pts_one (pt_cmpR (oz_notin (hu64 hr)) (pv 4) (pe_glob rfl T.v_SMALL.choose_spec ⟨_, rfl⟩) rfl)) (fun _ _ _ _ _ => pv 4)) (pss_cons (ps_if (PW.pt (pw_or (pt_truth (pv 3) (fun _ => rfl)) (pw_or (pt_not (pt_chain oz_le oz_le pe_int (pe_callB cz_lenS rfl T.n_len (by decide +kernel) (pa_cons (pv 1) pa_nil)) (pe_cval (pe_glob rfl T.g_Alphabet rfl)))) (pw_or1 (pt_not (pt_truth (pe_call (ok_all_different T) (hr.mono (by decide)) rfl T.g_all_different T.F_all_different.kp (bi_all_different T) .nil passL (pa_cons (pv 1) pa_nil)) (fun _ => rfl))))))) (pss_one (ps_raise rfl (takes_of rfl rfl rfl rfl) (pmk_oex T.x_BadAlphabet.o T.i_BadAlphabet T.ti_BadAlphabet (ok_BadAlphabet_init T) (hr.mono (by decide)) (bi_BadAlphabet_init T) .nil passL rfl T.g_BadAlphabet (pa_cons (pe_sv (by decide +kernel)) pa_nil)))) pss_nil) (pss_cons (ps_if (PW.pt (pw_or (pt_truth (pe_lc (own := [("sign", 4)]) (g := (gName 4)) (tt := (tTest (tOp (zNotIn K) (tVar 4) (tVar 1)))) rfl sc_Alphabet_init.nd (pi_str (pv 2)) (blkOk_by (N := N_Alphabet_init) (sc := defScope st_Alphabet_init) (by decide +kernel)) (fun _ _ _ _ _ => pg_name (i := 4) sc_Alphabet_init.nd rfl (by first | exact Or.inl rfl | exact Or.inr rfl)) (fun _ _ _ _ _ => pts_one (pt_cmpR (oz_notin (hu64 hr)) (pv 4) (pv 1) rfl)) (fun _ _ _ _ _ => pv 4)) (fun _ => rfl)) (pw_or1 (pt_not (pt_truth (pe_call (ok_all_different T) (hr.mono (by decide)) rfl T.g_all_different T.F_all_different.kp (bi_all_different T) .nil passL (pa_cons (pv 2) pa_nil)) (fun _ => rfl)))))) (pss_one (ps_raise rfl (takes_of rfl rfl rfl rfl) (pmk_oex T.x_BadAlphabet.o T.i_BadAlphabet T.ti_BadAlphabet (ok_BadAlphabet_init T) (hr.mono (by decide)) (bi_BadAlphabet_init T) .nil passL rfl T.g_BadAlphabet (pa_cons (pe_sv (by decide +kernel)) pa_nil)))) pss_nil) (pss_cons (ps_fld (pv 0) (pe_bm PySem.F.plainAttrs_str PySem.F.slot_str_join PySem.F.type_str_join mz_join (pe_sv (by decide +kernel)) (pa_cons (pe_callB (cz_sortedS rfl) rfl T.n_sorted (by decide +kernel) (pa_cons (pv 1) pa_nil)) pa_nil)) rfl) (pss_cons (ps_fld (pv 0) (pe_bm PySem.F.plainAttrs_str PySem.F.slot_str_join PySem.F.type_str_join mz_join (pe_sv (by decide +kernel)) (pa_cons (pe_callB (cz_sortedS rfl) rfl T.n_sorted (by decide +kernel) (pa_cons (pv 2) pa_nil)) pa_nil)) rfl) (pss_cons (ps_fld (pv 0) (pe_bm PySem.F.plainAttrs_str PySem.F.slot_str_join PySem.F.type_str_join mz_join (pe_sv (by decide +kernel)) (pa_cons (pe_lc (own := [("sign", 4)]) (g := (gName 4)) (tt := (tTest (tOp (zNotIn K) (tVar 4) (tVar 2)))) rfl sc_Alphabet_init.nd (pi_list (pe_callB (cz_sortedS rfl) rfl T.n_sorted (by decide +kernel) (pa_cons (pv 1) pa_nil))) (blkOk_by (N := N_Alphabet_init) (sc := defScope st_Alphabet_init) (by decide +kernel)) (fun _ _ _ _ _ => pg_name (i := 4) sc_Alphabet_init.nd rfl (by first | exact Or.inl rfl | exact Or.inr rfl)) (fun _ _ _ _ _ => pts_one (pt_cmpR (oz_notin (hu64 hr)) (pv 4) (pv 2) rfl)) (fun _ _ _ _ _ => pv 4)) pa_nil)) rfl) (pss_one (ps_fld (pv 0) (pe_op oz_add (pe_cval (pe_glob rfl T.g_Alphabet rfl)) (pe_fld (pv 0) rfl)) rfl)))))))
theorem sc_Alphabet_eq : FnScope N_Alphabet_eq ["self", "other"] (defScope st_Alphabet_eq) := ⟨rfl, rfl, rfl, by decide +kernel, rfl, by decide +kernel, by decide +kernel⟩
theorem bi_Alphabet_eq (T : Facts K mg) : Binds K (fdOf K ("Alphabet", some "__eq__")) ["self", "other"] [] := T.F_Alphabet_eq.bindsN fun _ _ _ _ _ _ us hl => match us, hl with | [_, _], _ => rfl
theorem ok_Alphabet_eq (T : Facts K mg) : FnOk P w K mg base (L2.CX P w) 1 (fAd K ("Alphabet", some "__eq__")) (fdOf K ("Alphabet", some "__eq__")) ["self", "other"] (sp_Alphabet_eq K) := by
  refine T.F_Alphabet_eq.ok sc_Alphabet_eq (fun vs H Q E h => len_Alphabet_eq vs H Q E h) (fun cdv A outer s H vs Q E hr h => ⟨t_Alphabet_eq P w K, PSs.nox ?_, pure_Alphabet_eq T vs H Q E h⟩)
  exact pss_one (ps_ret (pe_and (pe_callB cz_isi rfl T.n_isinstance (by decide +kernel) (pa_cons (pv 1) (pa_cons (pe_glob rfl T.g_Alphabet rfl) pa_nil))) (pe_and (pe_cmpR (oz_eq (hu64 hr)) (pe_fld (pv 0) rfl) (pe_fld (pv 1) rfl) (nomark _)) (pe_one (pe_cmpR (oz_eq (hu64 hr)) (pe_fld (pv 0) rfl) (pe_fld (pv 1) rfl) (nomark _))))))
theorem sc_Alphabet_is_word : FnScope N_Alphabet_is_word ["self", "text"] (defScope st_Alphabet_is_word) := ⟨rfl, rfl, rfl, by decide +kernel, rfl, by decide +kernel, by decide +kernel⟩
theorem bi_Alphabet_is_word (T : Facts K mg) : Binds K (fdOf K ("Alphabet", some "is_word")) ["self", "text"] [] := T.F_Alphabet_is_word.bindsN fun _ _ _ _ _ _ us hl => match us, hl with | [_, _], _ => rfl
theorem ok_Alphabet_is_word (T : Facts K mg) : FnOk P w K mg base (L2.CX P w) 1 (fAd K ("Alphabet", some "is_word")) (fdOf K ("Alphabet", some "is_word")) ["self", "text"] (sp_Alphabet_is_word K) := by
  refine T.F_Alphabet_is_word.ok sc_Alphabet_is_word (fun vs H Q E h => len_Alphabet_is_word vs H Q E h) (fun cdv A outer s H vs Q E hr h => ⟨t_Alphabet_is_word P w K, PSs.nox ?_, pure_Alphabet_is_word T vs H Q E h⟩)
  exact pss_cons (ps_for PassesOwn.never rfl (pi_str (pv 1)) (pg_name (i := 2) sc_Alphabet_is_word.nd rfl (by first | exact Or.inl rfl | exact Or.inr rfl)) (pss_one (ps_if (pt_cmpR (oz_notin (hu64 hr)) (pv 2) (pe_fld (pv 0) rfl) rfl) (pss_one (ps_ret pe_bl)) pss_nil))) (pss_one (ps_ret pe_bl))
theorem sc_Alphabet_listed_members : FnScope N_Alphabet_listed_members ["self", "name"] (defScope st_Alphabet_listed_members) := ⟨rfl, rfl, rfl, by decide +kernel, rfl, by decide +kernel, by decide +kernel⟩
theorem bi_Alphabet_listed_members (T : Facts K mg) : Binds K (fdOf K ("Alphabet", some "listed_members")) ["self", "name"] [] := T.F_Alphabet_listed_members.bindsN fun _ _ _ _ _ _ us hl => match us, hl with | [_, _], _ => rfl
theorem ok_Alphabet_listed_members (T : Facts K mg) : FnOk P w K mg base (L2.CX P w) 3 (fAd K ("Alphabet", some "listed_members")) (fdOf K ("Alphabet", some "listed_members")) ["self", "name"] (sp_Alphabet_listed_members K) := by
  refine T.F_Alphabet_listed_members.ok sc_Alphabet_listed_members (fun vs H Q E h => len_Alphabet_listed_members vs H Q E h) (fun cdv A outer s H vs Q E hr h => ⟨t_Alphabet_listed_members P w K E, id ?_, pure_Alphabet_listed_members T vs H Q E h⟩)
  exact pss_cons (ps_set (i := 2) sc_Alphabet_listed_members.nd rfl (by first | exact Or.inl rfl | exact Or.inr rfl) (pe_slice sz_sl (pv 1) (po_some pe_int) (po_some (pe_un oz_neg pe_int)))) (pss_cons (ps_if (PW.pt (pw_or (pt_cmpR oz_lt (pe_callB cz_lenS rfl T.n_len (by decide +kernel) (pa_cons (pv 1) pa_nil)) pe_int (nomark _)) (pw_or (pt_cmpR (oz_ne (hu64 hr)) (pe_ix iz_ix (pv 1) pe_int (fun _ _ => rfl)) (pe_sv (by decide +kernel)) (nomark _)) (pw_or1 (pt_cmpR (oz_ne (hu64 hr)) (pe_ix iz_ix (pv 1) (pe_un oz_neg pe_int) (fun _ _ => rfl)) (pe_sv (by decide +kernel)) (nomark _)))))) (pss_one (ps_raise rfl (takes_of rfl rfl rfl rfl) (pmk_oex T.x_BadStage.o T.i_BadStage T.ti_BadStage (ok_BadStage_init T) (hr.mono (by decide)) (bi_BadStage_init T) .nil passL rfl T.g_BadStage (pa_cons (pe_sv (by decide +kernel)) pa_nil)))) pss_nil) (pss_cons (ps_if (PW.pt (pw_or (pt_not (pt_truth (pe_meth (pv 0) T.c_Alphabet T.m_Alphabet_is_word (ok_Alphabet_is_word T) (hr.mono (by decide)) (bi_Alphabet_is_word T) .nil passL (pa_cons (pv 2) pa_nil)) (fun _ => rfl))) (pw_or1 (pt_cmpR (oz_ne (hu64 hr)) (pe_bm PySem.F.plainAttrs_str PySem.F.slot_str_join PySem.F.type_str_join mz_join (pe_sv (by decide +kernel)) (pa_cons (pe_callB (cz_sortedS rfl) rfl T.n_sorted (by decide +kernel) (pa_cons (pe_callTy (cz_set rfl) rfl T.n_set (by decide +kernel) (pa_cons (pv 2) pa_nil)) pa_nil)) pa_nil)) (pv 2) (nomark _))))) (pss_one (ps_raise rfl (takes_of rfl rfl rfl rfl) (pmk_oex T.x_BadStage.o T.i_BadStage T.ti_BadStage (ok_BadStage_init T) (hr.mono (by decide)) (bi_BadStage_init T) .nil passL rfl T.g_BadStage (pa_cons (pe_sv (by decide +kernel)) pa_nil)))) pss_nil) (pss_one (ps_ret (pv 2)))))
theorem sc_Alphabet_members : FnScope N_Alphabet_members ["self", "name"] (defScope st_Alphabet_members) := ⟨rfl, rfl, rfl, by decide +kernel, rfl, by decide +kernel, by decide +kernel⟩
theorem bi_Alphabet_members (T : Facts K mg) : Binds K (fdOf K ("Alphabet", some "members")) ["self", "name"] [] := T.F_Alphabet_members.bindsN fun _ _ _ _ _ _ us hl => match us, hl with | [_, _], _ => rfl
theorem ok_Alphabet_members (T : Facts K mg) : FnOk P w K mg base (L2.CX P w) 4 (fAd K ("Alphabet", some "members")) (fdOf K ("Alphabet", some "members")) ["self", "name"] (sp_Alphabet_members K) := by
  refine T.F_Alphabet_members.ok sc_Alphabet_members (fun vs H Q E h => len_Alphabet_members vs H Q E h) (fun cdv A outer s H vs Q E hr h => ⟨t_Alphabet_members P w K E, id ?_, pure_Alphabet_members T vs H Q E h⟩)
  exact pss_cons (ps_if (pt_cmpR (oz_eq (hu64 hr)) (pv 1) (pe_sv (by decide +kernel)) (nomark _)) (pss_one (ps_ret (pe_fld (pv 0) rfl))) pss_nil) (pss_cons (ps_if (pt_cmpR (oz_eq (hu64 hr)) (pv 1) (pe_sv (by decide +kernel)) (nomark _)) (pss_one (ps_ret (pe_fld (pv 0) rfl))) pss_nil) (pss_cons (ps_if (pt_cmpR (oz_eq (hu64 hr)) (pv 1) (pe_sv (by decide +kernel)) (nomark _)) (pss_one (ps_ret (pe_fld (pv 0) rfl))) pss_nil) (pss_cons (ps_if (pt_cmpR (oz_eq (hu64 hr)) (pv 1) (pe_sv (by decide +kernel)) (nomark _)) (pss_one (ps_ret (pe_fld (pv 0) rfl))) pss_nil) (pss_cons (ps_if (pt_cmpR (oz_eq (hu64 hr)) (pv 1) (pe_sv (by decide +kernel)) (nomark _)) (pss_one (ps_ret (pe_cval (pe_glob rfl T.g_Alphabet rfl)))) pss_nil) (pss_one (ps_ret (pe_meth (pv 0) T.c_Alphabet T.m_Alphabet_listed_members (ok_Alphabet_listed_members T) (hr.mono (by decide)) (bi_Alphabet_listed_members T) .nil (passes_call (takes_of rfl rfl rfl rfl) (fun _ _ _ _ h => h)) (pa_cons (pv 1) pa_nil))))))))
theorem sc_l_bag : FnScope N_l_bag ["_law_script"] (defScope st_l_bag) := ⟨rfl, rfl, rfl, by decide +kernel, rfl, by decide +kernel, by decide +kernel⟩
theorem bi_l_bag (T : Facts K mg) : Binds K (fdOf K ("_law_bag", none)) ["_law_script"] [] := T.F_l_bag.bindsN fun _ _ _ _ _ _ us hl => match us, hl with | [_], _ => rfl
theorem ok_l_bag (T : Facts K mg) : FnOk P w K mg base (L2.CX P w) 1 (fAd K ("_law_bag", none)) (fdOf K ("_law_bag", none)) ["_law_script"] (sp_l_bag K) := by
  refine T.F_l_bag.ok sc_l_bag (fun vs H Q E h => len_l_bag vs H Q E h) (fun cdv A outer s H vs Q E hr h => ⟨t_l_bag P w K, PSs.nox ?_, pure_l_bag vs H Q E h⟩)
  exact pss_one (ps_ret (pe_lst (pa_cons (pe_callTy (cz_listT rfl) rfl T.n_list (by decide +kernel) (pa_cons (pe_slice sz_sl (pv 0) po_none (po_some pe_int)) pa_nil)) (pa_cons pe_int (pa_cons pe_int (pa_cons pe_int pa_nil))))))
theorem sc_l_take : FnScope N_l_take ["_law_bag_here", "_law_size"] (defScope st_l_take) := ⟨rfl, rfl, rfl, by decide +kernel, rfl, by decide +kernel, by decide +kernel⟩
theorem bi_l_take (T : Facts K mg) : Binds K (fdOf K ("_law_take", none)) ["_law_bag_here", "_law_size"] [] := T.F_l_take.bindsN fun _ _ _ _ _ _ us hl => match us, hl with | [_, _], _ => rfl
theorem ok_l_take (T : Facts K mg) : FnOk P w K mg base (L2.CX P w) 1 (fAd K ("_law_take", none)) (fdOf K ("_law_take", none)) ["_law_bag_here", "_law_size"] (sp_l_take K) := by
  refine T.F_l_take.ok sc_l_take (fun vs H Q E h => len_l_take vs H Q E h) (fun cdv A outer s H vs Q E hr h => ⟨t_l_take P w K, PSs.nox ?_, pure_l_take vs H Q E h⟩)
  exact pss_cons (ps_if (pt_cmpR oz_gt (pe_ix iz_ix (pv 0) pe_int (fun _ _ => rfl)) pe_int (nomark _)) (pss_cons (ps_set (i := 2) sc_l_take.nd rfl (by first | exact Or.inl rfl | exact Or.inr rfl) (pe_callTy cz_int rfl T.n_int (by decide +kernel) (pa_cons (pe_ix iz_ix (pv 0) pe_int (fun _ _ => rfl)) pa_nil))) (pss_cons (ps_asg (pe_op oz_div (pv 2) (pv 1)) (pg_sub (pv 0) pe_int set_list)) (pss_one (ps_ret (pe_op oz_mod (pe_callTy cz_int rfl T.n_int (by decide +kernel) (pa_cons (pv 2) pa_nil)) (pv 1)))))) pss_nil) (pss_cons (ps_set (i := 3) sc_l_take.nd rfl (by first | exact Or.inl rfl | exact Or.inr rfl) pe_int) (pss_cons (ps_if (pt_cmpR oz_lt (pe_ix iz_ix (pv 0) pe_int (fun _ _ => rfl)) (pe_callB cz_lenS rfl T.n_len (by decide +kernel) (pa_cons (pe_ix iz_ix (pv 0) pe_int (fun _ _ => rfl)) pa_nil)) (nomark _)) (pss_one (ps_set (i := 3) sc_l_take.nd rfl (by first | exact Or.inl rfl | exact Or.inr rfl) (pe_ix iz_ix (pe_ix iz_ix (pv 0) pe_int (fun _ _ => rfl)) (pe_ix iz_ix (pv 0) pe_int (fun _ _ => rfl)) (fun _ _ => rfl)))) pss_nil) (pss_cons (ps_asg (pe_op oz_add (pe_ix iz_ix (pv 0) pe_int (fun _ _ => rfl)) pe_int) (pg_sub (pv 0) pe_int set_list)) (pss_cons (ps_if (pt_cmpR oz_ge (pv 3) (pe_op oz_pow pe_int pe_int) (nomark _)) (pss_cons (ps_asg (pe_op oz_div (pv 3) (pv 1)) (pg_sub (pv 0) pe_int set_list)) (pss_one (ps_ret (pe_op oz_mod (pe_callTy cz_int rfl T.n_int (by decide +kernel) (pa_cons (pv 3) pa_nil)) (pv 1))))) pss_nil) (pss_cons (ps_asg (pe_op oz_mod (pe_callTy cz_int rfl T.n_int (by decide +kernel) (pa_cons (pe_op oz_add (pe_op oz_add (pe_op oz_mul (pe_ix iz_ix (pv 0) pe_int (fun _ _ => rfl)) pe_int) (pe_op oz_mul (pv 3) pe_int)) (pe_op oz_mul (pe_ix iz_ix (pv 0) pe_int (fun _ _ => rfl)) pe_int)) pa_nil)) pe_int) (pg_sub (pv 0) pe_int set_list)) (pss_one (ps_ret (pe_op oz_mod (pe_op oz_div (pe_callTy cz_int rfl T.n_int (by decide +kernel) (pa_cons (pe_ix iz_ix (pv 0) pe_int (fun _ _ => rfl)) pa_nil)) pe_int) (pv 1)))))))))
theorem sc_l_letters : FnScope N_l_letters ["_law_bag_here", "_law_top"] (defScope st_l_letters) := ⟨rfl, rfl, rfl, by decide +kernel, rfl, by decide +kernel, by decide +kernel⟩
theorem bi_l_letters (T : Facts K mg) : Binds K (fdOf K ("_law_letters", none)) ["_law_bag_here", "_law_top"] [] := T.F_l_letters.bindsN fun _ _ _ _ _ _ us hl => match us, hl with | [_, _], _ => rfl
theorem ok_l_letters (T : Facts K mg) : FnOk P w K mg base (L2.CX P w) 2 (fAd K ("_law_letters", none)) (fdOf K ("_law_letters", none)) ["_law_bag_here", "_law_top"] (sp_l_letters K) := by
  refine T.F_l_letters.ok sc_l_letters (fun vs H Q E h => len_l_letters vs H Q E h) (fun cdv A outer s H vs Q E hr h => ⟨t_l_letters P w K, PSs.nox ?_, pure_l_letters T vs H Q E h⟩)
  exact pss_cons (ps_set (i := 2) sc_l_letters.nd rfl (by first | exact Or.inl rfl | exact Or.inr rfl) (pe_callTy (cz_listT rfl) rfl T.n_list (by decide +kernel) (pa_cons (pe_sv (by decide +kernel)) pa_nil))) (pss_cons (ps_set (i := 3) sc_l_letters.nd rfl (by first | exact Or.inl rfl | exact Or.inr rfl) (pe_sv (by decide +kernel))) (pss_cons (ps_for PassesOwn.never rfl (pi_range1 rfl T.n_range (pa_cons (pe_op oz_add pe_int (pe_call (ok_l_take T) (hr.mono (by decide)) rfl T.g__law_take T.F_l_take.kp (bi_l_take T) .nil passL (pa_cons (pv 0) (pa_cons (pv 1) pa_nil)))) pa_nil)) (pg_name (i := 4) sc_l_letters.nd rfl (by first | exact Or.inl rfl | exact Or.inr rfl)) (pss_one (ps_set (i := 3) sc_l_letters.nd rfl (by first | exact Or.inl rfl | exact Or.inr rfl) (pe_op oz_add (pv 3) (pe_bm PySem.F.plainAttrs_list PySem.F.slot_list_pop PySem.F.type_list_pop mz_pop (pv 2) (pa_cons (pe_call (ok_l_take T) (hr.mono (by decide)) rfl T.g__law_take T.F_l_take.kp (bi_l_take T) .nil passL (pa_cons (pv 0) (pa_cons (pe_callB cz_lenS rfl T.n_len (by decide +kernel) (pa_cons (pv 2) pa_nil)) pa_nil))) pa_nil)))))) (pss_one (ps_ret (pe_bm PySem.F.plainAttrs_str PySem.F.slot_str_join PySem.F.type_str_join mz_join (pe_sv (by decide +kernel)) (pa_cons (pe_callB (cz_sortedS rfl) rfl T.n_sorted (by decide +kernel) (pa_cons (pv 3) pa_nil)) pa_nil))))))
theorem sc_l_vowels : FnScope N_l_vowels ["_law_bag_here", "_law_letters_here"] (defScope st_l_vowels) := ⟨rfl, rfl, rfl, by decide +kernel, rfl, by decide +kernel, by decide +kernel⟩
theorem bi_l_vowels (T : Facts K mg) : Binds K (fdOf K ("_law_vowels", none)) ["_law_bag_here", "_law_letters_here"] [] := T.F_l_vowels.bindsN fun _ _ _ _ _ _ us hl => match us, hl with | [_, _], _ => rfl
theorem ok_l_vowels (T : Facts K mg) : FnOk P w K mg base (L2.CX P w) 2 (fAd K ("_law_vowels", none)) (fdOf K ("_law_vowels", none)) ["_law_bag_here", "_law_letters_here"] (sp_l_vowels K) := by
  refine T.F_l_vowels.ok sc_l_vowels (fun vs H Q E h => len_l_vowels vs H Q E h) (fun cdv A outer s H vs Q E hr h => ⟨t_l_vowels P w K, PSs.nox ?_, pure_l_vowels T vs H Q E h⟩)
  exact pss_one (ps_ret (pe_bm PySem.F.plainAttrs_str PySem.F.slot_str_join PySem.F.type_str_join mz_join (pe_sv (by decide +kernel)) (pa_cons (pe_lc (own := [("_law_sign", 2)]) (g := (gName 2)) (tt := tYes) rfl sc_l_vowels.nd (pi_str (pv 1)) (blkOk_by (N := N_l_vowels) (sc := defScope st_l_vowels) (by decide +kernel)) (fun _ _ _ _ _ => pg_name (i := 2) sc_l_vowels.nd rfl (by first | exact Or.inl rfl | exact Or.inr rfl)) (fun _ _ _ _ _ => pts_nil) (fun _ _ _ _ _ => pe_ix iz_ix (pe_lst (pa_cons (pe_sv (by decide +kernel)) (pa_cons (pv 2) pa_nil))) (pe_call (ok_l_take T) (hr.mono (by decide)) rfl T.g__law_take T.F_l_take.kp (bi_l_take T) .nil passL (pa_cons (pv 0) (pa_cons pe_int pa_nil))) (fun _ _ => rfl))) pa_nil)))
theorem sc_l_members : FnScope N_l_members ["_law_letters_here", "_law_vowels_here", "_law_name_here"] (defScope st_l_members) := ⟨rfl, rfl, rfl, by decide +kernel, rfl, by decide +kernel, by decide +kernel⟩
theorem bi_l_members (T : Facts K mg) : Binds K (fdOf K ("_law_members", none)) ["_law_letters_here", "_law_vowels_here", "_law_name_here"] [] := T.F_l_members.bindsN fun _ _ _ _ _ _ us hl => match us, hl with | [_, _, _], _ => rfl
theorem ok_l_members (T : Facts K mg) : FnOk P w K mg base (L2.CX P w) 1 (fAd K ("_law_members", none)) (fdOf K ("_law_members", none)) ["_law_letters_here", "_law_vowels_here", "_law_name_here"] (sp_l_members K) := by
  refine T.F_l_members.ok sc_l_members (fun vs H Q E h => len_l_members vs H Q E h) (fun cdv A outer s H vs Q E hr h => ⟨t_l_members P w K, PSs.nox ?_, pure_l_members T vs H Q E h⟩)
  exact pss_cons (ps_set (i := 3) sc_l_members.nd rfl (by first | exact Or.inl rfl | exact Or.inr rfl) (pe_bm PySem.F.plainAttrs_str PySem.F.slot_str_join PySem.F.type_str_join mz_join (pe_sv (by decide +kernel)) (pa_cons (pe_lc (own := [("_law_sign", 4)]) (g := (gName 4)) (tt := (tTest (tOp (zNotIn K) (tVar 4) (tVar 1)))) rfl sc_l_members.nd (pi_str (pv 0)) (blkOk_by (N := N_l_members) (sc := defScope st_l_members) (by decide +kernel)) (fun _ _ _ _ _ => pg_name (i := 4) sc_l_members.nd rfl (by first | exact Or.inl rfl | exact Or.inr rfl)) (fun _ _ _ _ _ => pts_one (pt_cmpR (oz_notin (hu64 hr)) (pv 4) (pv 1) rfl)) (fun _ _ _ _ _ => pv 4)) pa_nil))) (pss_cons (ps_set (i := 5) sc_l_members.nd rfl (by first | exact Or.inl rfl | exact Or.inr rfl) (pe_disp (pps_cons (pe_sv (by decide +kernel)) (pe_op oz_add (pe_sv (by decide +kernel)) (pv 0)) (pps_cons (pe_sv (by decide +kernel)) (pv 0) (pps_cons (pe_sv (by decide +kernel)) (pv 1) (pps_cons (pe_sv (by decide +kernel)) (pv 3) (pps_cons (pe_sv (by decide +kernel)) (pe_sv (by decide +kernel)) pps_nil))))) rfl rfl (List.cons_ne_nil _ _) (by show 5 ≤ 15; decide))) (pss_one (ps_ret (pe_dget2 (hu1 hr) (pv 5) (pv 2) (pe_slice sz_sl (pv 2) (po_some pe_int) (po_some (pe_un oz_neg pe_int))) ⟨rfl, rfl, rfl, rfl⟩))))
theorem sc_l_name : FnScope N_l_name ["_law_bag_here", "_law_letters_here"] (defScope st_l_name) := ⟨rfl, rfl, rfl, by decide +kernel, rfl, by decide +kernel, by decide +kernel⟩
theorem bi_l_name (T : Facts K mg) : Binds K (fdOf K ("_law_name", none)) ["_law_bag_here", "_law_letters_here"] [] := T.F_l_name.bindsN fun _ _ _ _ _ _ us hl => match us, hl with | [_, _], _ => rfl
theorem ok_l_name (T : Facts K mg) : FnOk P w K mg base (L2.CX P w) 2 (fAd K ("_law_name", none)) (fdOf K ("_law_name", none)) ["_law_bag_here", "_law_letters_here"] (sp_l_name K) := by
  refine T.F_l_name.ok sc_l_name (fun vs H Q E h => len_l_name vs H Q E h) (fun cdv A outer s H vs Q E hr h => ⟨t_l_name P w K, PSs.nox ?_, pure_l_name T vs H Q E h⟩)
  exact pss_cons (ps_set (i := 2) sc_l_name.nd rfl (by first | exact Or.inl rfl | exact Or.inr rfl) (pe_call (ok_l_take T) (hr.mono (by decide)) rfl T.g__law_take T.F_l_take.kp (bi_l_take T) .nil passL (pa_cons (pv 0) (pa_cons pe_int pa_nil)))) (pss_cons (ps_set (i := 3) sc_l_name.nd rfl (by first | exact Or.inl rfl | exact Or.inr rfl) (pe_op oz_add (pe_sv (by decide +kernel)) (pv 1))) (pss_cons (ps_set (i := 4) sc_l_name.nd rfl (by first | exact Or.inl rfl | exact Or.inr rfl) (pe_ifExp (pt_cmpR (oz_eq (hu64 hr)) (pv 2) pe_int (nomark _)) (pe_bm PySem.F.plainAttrs_str PySem.F.slot_str_join PySem.F.type_str_join mz_join (pe_sv (by decide +kernel)) (pa_cons (pe_lc (own := [("_law_sign", 5)]) (g := (gName 5)) (tt := tYes) rfl sc_l_name.nd (pi_str (pv 3)) (blkOk_by (N := N_l_name) (sc := defScope st_l_name) (by decide +kernel)) (fun _ _ _ _ _ => pg_name (i := 5) sc_l_name.nd rfl (by first | exact Or.inl rfl | exact Or.inr rfl)) (fun _ _ _ _ _ => pts_nil) (fun _ _ _ _ _ => pe_ix iz_ix (pe_lst (pa_cons (pe_sv (by decide +kernel)) (pa_cons (pv 5) pa_nil))) (pe_call (ok_l_take T) (hr.mono (by decide)) rfl T.g__law_take T.F_l_take.kp (bi_l_take T) .nil passL (pa_cons (pv 0) (pa_cons pe_int pa_nil))) (fun _ _ => rfl))) pa_nil)) (pe_sv (by decide +kernel)))) (pss_cut (ps_if (PW.pt (pw_and (pt_cmpR (oz_eq (hu64 hr)) (pv 2) pe_int (nomark _)) (pw_and1 (pt_cmpR (oz_eq (hu64 hr)) (pv 4) (pe_sv (by decide +kernel)) (nomark _))))) (pss_one (ps_set (i := 4) sc_l_name.nd rfl (by first | exact Or.inl rfl | exact Or.inr rfl) (pe_ix iz_ix (pv 3) (pe_call (ok_l_take T) (hr.mono (by decide)) rfl T.g__law_take T.F_l_take.kp (bi_l_take T) .nil passL (pa_cons (pv 0) (pa_cons (pe_callB cz_lenS rfl T.n_len (by decide +kernel) (pa_cons (pv 3) pa_nil)) pa_nil))) (fun _ _ => rfl)))) pss_nil) (pss_one (ps_ret (pe_ix iz_ix (pe_lst (pa_cons (pe_sv (by decide +kernel)) (pa_cons (pe_sv (by decide +kernel)) (pa_cons (pe_sv (by decide +kernel)) (pa_cons (pe_sv (by decide +kernel)) (pa_cons (pe_sv (by decide +kernel)) (pa_cons (pe_op oz_add (pe_op oz_add (pe_sv (by decide +kernel)) (pv 4)) (pe_sv (by decide +kernel))) pa_nil))))))) (pv 2) (fun _ _ => rfl)))))))
theorem sc_l_word : FnScope N_l_word ["_law_bag_here", "_law_signs", "_law_top"] (defScope st_l_word) := ⟨rfl, rfl, rfl, by decide +kernel, rfl, by decide +kernel, by decide +kernel⟩
theorem bi_l_word (T : Facts K mg) : Binds K (fdOf K ("_law_word", none)) ["_law_bag_here", "_law_signs", "_law_top"] [] := T.F_l_word.bindsN fun _ _ _ _ _ _ us hl => match us, hl with | [_, _, _], _ => rfl
theorem ok_l_word (T : Facts K mg) : FnOk P w K mg base (L2.CX P w) 2 (fAd K ("_law_word", none)) (fdOf K ("_law_word", none)) ["_law_bag_here", "_law_signs", "_law_top"] (sp_l_word K) := by
  refine T.F_l_word.ok sc_l_word (fun vs H Q E h => len_l_word vs H Q E h) (fun cdv A outer s H vs Q E hr h => ⟨t_l_word P w K, PSs.nox ?_, pure_l_word T vs H Q E h⟩)
  exact pss_cons (ps_set (i := 3) sc_l_word.nd rfl (by first | exact Or.inl rfl | exact Or.inr rfl) (pe_sv (by decide +kernel))) (pss_cons (ps_for PassesOwn.never rfl (pi_range1 rfl T.n_range (pa_cons (pe_call (ok_l_take T) (hr.mono (by decide)) rfl T.g__law_take T.F_l_take.kp (bi_l_take T) .nil passL (pa_cons (pv 0) (pa_cons (pe_op oz_add (pv 2) pe_int) pa_nil))) pa_nil)) (pg_name (i := 4) sc_l_word.nd rfl (by first | exact Or.inl rfl | exact Or.inr rfl)) (pss_one (ps_if (PW.pt (pw_and (pt_cmpR (oz_ne (hu64 hr)) (pv 3) (pe_sv (by decide +kernel)) (nomark _)) (pw_and1 (pt_cmpR (oz_eq (hu64 hr)) (pe_call (ok_l_take T) (hr.mono (by decide)) rfl T.g__law_take T.F_l_take.kp (bi_l_take T) .nil passL (pa_cons (pv 0) (pa_cons pe_int pa_nil))) pe_int (nomark _))))) (pss_one (ps_set (i := 3) sc_l_word.nd rfl (by first | exact Or.inl rfl | exact Or.inr rfl) (pe_op oz_add (pv 3) (pe_ix iz_ix (pv 3) (pe_un oz_neg pe_int) (fun _ _ => rfl))))) (pss_one (ps_set (i := 3) sc_l_word.nd rfl (by first | exact Or.inl rfl | exact Or.inr rfl) (pe_op oz_add (pv 3) (pe_ix iz_ix (pv 1) (pe_call (ok_l_take T) (hr.mono (by decide)) rfl T.g__law_take T.F_l_take.kp (bi_l_take T) .nil passL (pa_cons (pv 0) (pa_cons (pe_callB cz_lenS rfl T.n_len (by decide +kernel) (pa_cons (pv 1) pa_nil)) pa_nil))) (fun _ _ => rfl)))))))) (pss_one (ps_ret (pv 3))))
theorem sc_law : FnScope N_law ["_law_script"] (defScope st_law) := ⟨rfl, rfl, rfl, by decide +kernel, rfl, by decide +kernel, by decide +kernel⟩
theorem bi_law (T : Facts K mg) : Binds K (fdOf K ("law", none)) ["_law_script"] [] := T.F_law.bindsN fun _ _ _ _ _ _ us hl => match us, hl with | [_], _ => rfl
theorem ok_law (T : Facts K mg) : FnOk P w K mg base CX0 5 (fAd K ("law", none)) (fdOf K ("law", none)) ["_law_script"] (sp_law K) := by
  refine T.F_law.ok sc_law (fun vs H Q E h => len_law vs H Q E h) (fun cdv A outer s H vs Q E hr h => ⟨t_law P w K, PSs.nox ?_, pure_law T vs H Q E h⟩)
  exact pss_cons (ps_set (i := 1) sc_law.nd rfl (by first | exact Or.inl rfl | exact Or.inr rfl) (pe_call (ok_l_bag T) (hr.mono (by decide)) rfl T.g__law_bag T.F_l_bag.kp (bi_l_bag T) .nil passL (pa_cons (pv 0) pa_nil))) (pss_cons (ps_set (i := 2) sc_law.nd rfl (by first | exact Or.inl rfl | exact Or.inr rfl) (pe_call (ok_l_letters T) (hr.mono (by decide)) rfl T.g__law_letters T.F_l_letters.kp (bi_l_letters T) .nil passL (pa_cons (pv 1) (pa_cons pe_int pa_nil)))) (pss_cons (ps_set (i := 3) sc_law.nd rfl (by first | exact Or.inl rfl | exact Or.inr rfl) (pe_call (ok_l_vowels T) (hr.mono (by decide)) rfl T.g__law_vowels T.F_l_vowels.kp (bi_l_vowels T) .nil passL (pa_cons (pv 1) (pa_cons (pv 2) pa_nil)))) (pss_cons (ps_set (i := 4) sc_law.nd rfl (by first | exact Or.inl rfl | exact Or.inr rfl) (pe_call (ok_l_take T) (hr.mono (by decide)) rfl T.g__law_take T.F_l_take.kp (bi_l_take T) .nil passL (pa_cons (pv 1) (pa_cons (pe_callB cz_lenS rfl T.n_len (by decide +kernel) (pa_cons (pv 2) pa_nil)) pa_nil)))) (pss_cons (ps_set (i := 5) sc_law.nd rfl (by first | exact Or.inl rfl | exact Or.inr rfl) (pe_make T.mk_Alphabet (ok_Alphabet_init T) (hr.mono (by decide)) rfl T.g_Alphabet (bi_Alphabet_init T) .nil passL (pa_cons (pe_op oz_add (pe_slice sz_sl (pv 2) (po_some (pv 4)) po_none) (pe_slice sz_sl (pv 2) po_none (po_some (pv 4)))) (pa_cons (pe_revT (pv 3)) pa_nil)))) (pss_cons (ps_set (i := 6) sc_law.nd rfl (by first | exact Or.inl rfl | exact Or.inr rfl) (pe_call (ok_l_members T) (hr.mono (by decide)) rfl T.g__law_members T.F_l_members.kp (bi_l_members T) .nil passL (pa_cons (pv 2) (pa_cons (pv 3) (pa_cons (pe_sv (by decide +kernel)) pa_nil))))) (pss_cons (ps_set (i := 7) sc_law.nd rfl (by first | exact Or.inl rfl | exact Or.inr rfl) (pe_lst (pa_cons (pe_fld (pv 5) rfl) (pa_cons (pe_fld (pv 5) rfl) (pa_cons (pe_fld (pv 5) rfl) (pa_cons (pe_fld (pv 5) rfl) pa_nil)))))) (pss_cons (ps_if (pt_cmpR (oz_ne (hu64 hr)) (pv 7) (pe_lst (pa_cons (pv 2) (pa_cons (pv 3) (pa_cons (pv 6) (pa_cons (pe_op oz_add (pe_sv (by decide +kernel)) (pv 2)) pa_nil))))) (nomark _)) (pss_one (ps_ret pe_bl)) pss_nil) (pss_cons (ps_if (PW.pt (pw_or (pt_cmpR (oz_ne (hu64 hr)) (pe_cval (pe_glob rfl T.g_Alphabet rfl)) (pe_sv (by decide +kernel)) (nomark _)) (pw_or (pt_cmpR (oz_ne (hu64 hr)) (pe_cval (pe_glob rfl T.g_Alphabet rfl)) pe_int (nomark _)) (pw_or1 (pt_cmpR (oz_ne (hu64 hr)) (pe_con (pv 5) rfl) pe_int (nomark _)))))) (pss_one (ps_ret pe_bl)) pss_nil) (pss_cons (ps_for PassesOwn.never rfl (pi_list (pe_lst (pa_cons (pe_sv (by decide +kernel)) (pa_cons (pe_sv (by decide +kernel)) (pa_cons (pe_sv (by decide +kernel)) (pa_cons (pe_sv (by decide +kernel)) (pa_cons (pe_sv (by decide +kernel)) (pa_cons (pe_call (ok_l_name T) (hr.mono (by decide)) rfl T.g__law_name T.F_l_name.kp (bi_l_name T) .nil passL (pa_cons (pv 1) (pa_cons (pv 2) pa_nil))) pa_nil)))))))) (pg_name (i := 8) sc_law.nd rfl (by first | exact Or.inl rfl | exact Or.inr rfl)) (pss_cons (ps_set (i := 9) sc_law.nd rfl (by first | exact Or.inl rfl | exact Or.inr rfl) (pe_meth (pv 5) T.c_Alphabet T.m_Alphabet_members (ok_Alphabet_members T) (hr.mono (by decide)) (bi_Alphabet_members T) .nil passL (pa_cons (pv 8) pa_nil))) (pss_one (ps_if (PW.pt (pw_or (pt_not (pt_truth (pe_callB cz_isi rfl T.n_isinstance (by decide +kernel) (pa_cons (pv 9) (pa_cons (pe_bltn rfl T.n_str (by decide +kernel) rfl) pa_nil))) (fun _ => rfl))) (pw_or1 (pt_cmpR (oz_ne (hu64 hr)) (pv 9) (pe_call (ok_l_members T) (hr.mono (by decide)) rfl T.g__law_members T.F_l_members.kp (bi_l_members T) .nil passL (pa_cons (pv 2) (pa_cons (pv 3) (pa_cons (pv 8) pa_nil)))) (nomark _))))) (pss_one (ps_ret pe_bl)) pss_nil)))) (pss_cons (ps_set (i := 10) sc_law.nd rfl (by first | exact Or.inl rfl | exact Or.inr rfl) (pe_call (ok_l_word T) (hr.mono (by decide)) rfl T.g__law_word T.F_l_word.kp (bi_l_word T) .nil passL (pa_cons (pv 1) (pa_cons (pe_op oz_add (pe_sv (by decide +kernel)) (pv 2)) (pa_cons pe_int pa_nil))))) (pss_cons (ps_setLc (i := 11) (own := [("_law_sign", 12)]) (g := (gName 12)) (tt := (tTest (tOp (zNotIn K) (tVar 12) (tVar 2)))) rfl sc_law.nd rfl rfl (sw_true rfl rfl rfl (by decide +kernel)) (pi_str (pe_sv (by decide +kernel))) (blkOk_by (N := N_law) (sc := defScope st_law) (by decide +kernel)) (fun _ _ _ _ _ => pg_name (i := 12) sc_law.nd rfl (by first | exact Or.inl rfl | exact Or.inr rfl)) (fun _ _ _ _ _ => pts_one (pt_cmpR (oz_notin (hu64 hr)) (pv 12) (pv 2) rfl)) (fun _ _ _ _ _ => pv 12)) (pss_cons (ps_set (i := 13) sc_law.nd rfl (by first | exact Or.inl rfl | exact Or.inr rfl) (pe_ix iz_ix (pv 11) (pe_call (ok_l_take T) (hr.mono (by decide)) rfl T.g__law_take T.F_l_take.kp (bi_l_take T) .nil passL (pa_cons (pv 1) (pa_cons (pe_callB cz_lenS rfl T.n_len (by decide +kernel) (pa_cons (pv 11) pa_nil)) pa_nil))) (fun _ _ => rfl))) (pss_cons (ps_set (i := 14) sc_law.nd rfl (by first | exact Or.inl rfl | exact Or.inr rfl) (pe_call (ok_l_take T) (hr.mono (by decide)) rfl T.g__law_take T.F_l_take.kp (bi_l_take T) .nil passL (pa_cons (pv 1) (pa_cons (pe_op oz_add (pe_callB cz_lenS rfl T.n_len (by decide +kernel) (pa_cons (pv 10) pa_nil)) pe_int) pa_nil)))) (pss_cons (ps_if (PW.pt (pw_or (pt_cmpR oz_isnot (pe_meth (pv 5) T.c_Alphabet T.m_Alphabet_is_word (ok_Alphabet_is_word T) (hr.mono (by decide)) (bi_Alphabet_is_word T) .nil passL (pa_cons (pv 10) pa_nil)) pe_bl (nomark _)) (pw_or1 (pt_cmpR oz_isnot (pe_meth (pv 5) T.c_Alphabet T.m_Alphabet_is_word (ok_Alphabet_is_word T) (hr.mono (by decide)) (bi_Alphabet_is_word T) .nil passL (pa_cons (pe_sv (by decide +kernel)) pa_nil)) pe_bl (nomark _))))) (pss_one (ps_ret pe_bl)) pss_nil) (pss_cons (ps_if (pt_cmpR oz_isnot (pe_meth (pv 5) T.c_Alphabet T.m_Alphabet_is_word (ok_Alphabet_is_word T) (hr.mono (by decide)) (bi_Alphabet_is_word T) .nil passL (pa_cons (pe_op oz_add (pe_op oz_add (pe_slice sz_sl (pv 10) po_none (po_some (pv 14))) (pv 13)) (pe_slice sz_sl (pv 10) (po_some (pv 14)) po_none)) pa_nil)) pe_bl (nomark _)) (pss_one (ps_ret pe_bl)) pss_nil) (pss_cons (ps_set (i := 15) sc_law.nd rfl (by first | exact Or.inl rfl | exact Or.inr rfl) (pe_make T.mk_Alphabet (ok_Alphabet_init T) (hr.mono (by decide)) rfl T.g_Alphabet (bi1_Alphabet_init T).choose_spec.2 (bi1_Alphabet_init T).choose_spec.1 passL (pa_cons (pv 2) pa_nil))) (pss_cons (ps_if (PW.pt (pw_or (pt_cmpR (oz_ne (hu64 hr)) (pe_fld (pv 15) rfl) (pe_sv (by decide +kernel)) (nomark _)) (pw_or1 (pt_cmpR (oz_ne (hu64 hr)) (pe_fld (pv 15) rfl) (pv 2) (nomark _))))) (pss_one (ps_ret pe_bl)) pss_nil) (pss_cons (ps_set (i := 16) sc_law.nd rfl (by first | exact Or.inl rfl | exact Or.inr rfl) (pe_cmpR (op_eqI (ok_Alphabet_eq T) (hr.mono (by decide)) T.m_Alphabet_eq (bi_Alphabet_eq T) passL) (pv 5) (pe_make T.mk_Alphabet (ok_Alphabet_init T) (hr.mono (by decide)) rfl T.g_Alphabet (bi_Alphabet_init T) .nil passL (pa_cons (pv 2) (pa_cons (pv 3) pa_nil))) (nomark _))) (pss_one (ps_ret (pe_and (pe_callTy cz_bool rfl T.n_bool (by decide +kernel) (pa_cons (pv 16) pa_nil)) (pe_one (pe_cmpR (oz_eq (hu64 hr)) (pe_callTy cz_bool rfl T.n_bool (by decide +kernel) (pa_cons (pe_cmpR (op_eqI (ok_Alphabet_eq T) (hr.mono (by decide)) T.m_Alphabet_eq (bi_Alphabet_eq T) passL) (pv 5) (pv 15) (nomark _)) pa_nil)) (pe_cmpR (oz_eq (hu64 hr)) (pv 3) (pe_sv (by decide +kernel)) (nomark _)) (nomark _))))))))))))))))))))))))
end
end Cl
namespace Cl
open PySem PySem.Spec PyProof.Rows L2 He ClX
open C8 (tCut pss_cut)
abbrev R : PySem.W.OpenRow := PySem.W.OpenLaw.row PySem.Challenge.rw_cliplore_k01_alphabet_and_sets
def loose : List PySem.Str := (["ClipError", "BadAlphabet", "BadStage", "SMALL", "all_different", "Alphabet", "_law_bag", "_law_take", "_law_letters", "_law_vowels", "_law_members", "_law_name", "_law_word"] : List PySem.Str)
noncomputable abbrev hk : PySem.W.Hook := hookC 6 fa fnd [] ex
noncomputable def ob (s : PySem.W.SharedT) : AlT × Bool := obsC 6 fa fnd [] ex (HandSHeadRun.getT s)
theorem ob_eq (s : PySem.W.SharedT) : ob s = hk.obs s.abs := obsC_eq (HandSHeadRun.getT_eq s)
set_option maxHeartbeats 0 in
theorem run (w : World) : HandSHeadRun.RunEq R (PySem.W.view R.prog [16]) hk ob 5000 loose w := by
  intro os
  kernel_rfl
end Cl
namespace Cl
open PySem PySem.Spec PyProof.Rows L2 He
theorem law_ok {P : Program} {w : World} {K : PySem.W.Frag} {h : Heap} {mg : Str → Option Value} {f : Addr} (X : K.In h) (G : h.Ns mainGlobals mg) (hfa : mg ("law" : Str) = some (.ref f)) (c : SaysC fa fnd [] ex w K) :
    ∃ fd : FuncData, (∀ (s : Shared) (v : Value), BindsTo s fd ⟨[v], []⟩ [("_law_script", v)]) ∧ ∀ base : Heap, K.In base → base.Ns mainGlobals mg → FnOk P w K mg base CX0 5 f fd ["_law_script"] (sp_law K) := by
  have T := facts_of X G c
  have e := hfa.symm.trans T.g_law
  cases e
  have b := FunD.bindsA (ps := ["_law_script"]) T.F_law fun _ _ _ _ _ _ us hl => match us, hl with | [_], _ => rfl
  exact ⟨_, fun s v => b s [v] rfl, fun base _ _ => ok_law T⟩
end Cl
open PySem PySem.W PySem.Calls PyProof.Rows
set_option maxHeartbeats 0 in
theorem PySem.Challenge.cw_cliplore_k01_alphabet_and_sets_holds : PySem.Challenge.rw_cliplore_k01_alphabet_and_sets.Holds := by
  w_on; o_law
  refine HandSHeadRun.head_any (r := OpenLaw.row PySem.Challenge.rw_cliplore_k01_alphabet_and_sets) (q := view (OpenLaw.row PySem.Challenge.rw_cliplore_k01_alphabet_and_sets).prog [16]) (H := Cl.hk) (ob := Cl.ob) (M := 5000) (loose := Cl.loose) (d := HandSHeadRun.topDef (OpenLaw.row PySem.Challenge.rw_cliplore_k01_alphabet_and_sets).prog 16) (kwd := []) Cl.ob_eq
    (by kernel_rfl) (fun s => by kernel_rfl) Cl.run (by kernel_rfl) (by kernel_rfl) (by kernel_rfl) (by rfl) (by first | assumption | decide +kernel) (by decide +kernel) ⟨rfl, rfl, rfl, rfl, rfl, by decide +kernel⟩ ?hw ?hc
  case hw => w_witness2
  case hc =>
    refine L2.walk_ofE (l := PySem.Challenge.rw_cliplore_k01_alphabet_and_sets) (n := 63) (k := 5) (x := "_law_script") (CX := L2.CX0) rfl (by decide) (by kernel_rfl) ⟨rfl, by decide, by decide⟩ ?F (fun _ _ _ _ z => z)
    intro w mg f h Y G hmg0
    obtain ⟨K, KX, c⟩ := Y
    have hmg : mg ("law" : PySem.Str) = some (.ref f) := by
      have e : (HandSHeadRun.topDef (OpenLaw.row PySem.Challenge.rw_cliplore_k01_alphabet_and_sets).prog 16).name = ("law" : PySem.Str) := by kernel_rfl
      rw [← e]
      exact hmg0
    obtain ⟨fd, hb, hF⟩ := Cl.law_ok (P := (PySem.Challenge.rw_cliplore_k01_alphabet_and_sets).prog) (w := w) KX G hmg c
    exact ⟨K, fd, Cl.sp_law K, KX, hb, fun H a ns hl _ hS => ⟨a, ns, rfl, hS, hl, fun _ => rfl⟩, hF⟩
